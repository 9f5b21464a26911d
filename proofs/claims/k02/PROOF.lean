import PyProof.Rows.All
import HandS.Base
import Wide.All
import OpenK.AllK
import Wide.FinOn
import HandS.ForMost
import HandS.Flow
import HandS.TupAny
import HandS.IsInst
import HandS.Zip
import HandS.Conv
import HandS.EndBits
import HandS.Text
import HandS.SortInts
import HandS.Star
import HandS.Small
import HandS.Dict
import HandS.DictComp
import KE.KDictSum
import KE.GoesZip
import KE.GoesMore
import KE.GoesEnum
import HandS.Iter
import KE.KFromBytes
import KE.KExcSuper
import KE.KSuper
import HandS.Call
import HandS.List
import HandS.Ends
import HandS.Exc
import HandS.ExcInit
import HandS.Nested
import HandS.ExcOwn
import HandS.WordsExc
import HandS.ExcIs
import KE.KIsAll
import KE.KTryMore
import HandS.Defaults
import PySem.Challenge.RW_metorshut_k02_bounds_checked
section PartPdCore
set_option linter.all false
/-! Pd: a data-level weakest-precondition semantics of the Python that the laws use.
Values are plain data (tuples are values, lists and dicts are numbers of cells of a store).
A reading takes what is wanted behind. Own work. -/
namespace Pd
open PySem

inductive D where
  | non
  | bl (b : Bool)
  | int (i : Int)
  | str (x : Str)
  | tup (xs : List D)
  | ref (n : Nat)
  deriving Inhabited

/-- what a locked dict is, for the soundness alone -/
abbrev Tok := PySem.Obj × List (L2.Key × L2.V)
/-- a cell of the store -/
inductive C where
  | lst (xs : List D)
  | frz (xs : List D)
  | dic (kvs : List (Sum Int Str × D))
  /-- a dict that a walk has locked -/
  | frd (kvs : List (Sum Int Str × D)) (tk : Tok)
  /-- an instance of the class of this name, its attributes -/
  | ins (cn : Str) (fs : List (Str × D))

abbrev Store := List C
abbrev Env := List (Option D)
abbrev K := D → Store → Prop
abbrev TE := Env → Store → K → Prop
abbrev TT := Env → Store → (Bool → Store → Prop) → Prop
abbrev TA := Env → Store → (List D → Store → Prop) → Prop
structure Ends where
  nx : Env → Store → Prop
  rt : K
  bk : Env → Store → Prop := fun _ _ => False
  ct : Env → Store → Prop := fun _ _ => False
abbrev TS := Ends → Env → Store → Prop
/-- what the calls of own defs do -/
abbrev Cl := String → List D → Store → K → Prop

/-- the longest that the model's lists and texts may be -/
def szl : Nat := 16777216

def lk : Env → Nat → Option D
  | [], _ => none
  | x :: _, 0 => x
  | _ :: r, n + 1 => lk r n
def wipeE : Env → List Nat → Env
  | ρ, [] => ρ
  | ρ, v :: vs => (wipeE ρ vs).set v none

/-! ### data: pure, depth, equality -/
/-- a text of code points -/
def okS (x : Str) : Bool := x.cps.toList.all fun c => decide (c < 1114112)
mutual
def D.okd : Nat → D → Bool
  | _, .non => true
  | _, .bl _ => true
  | _, .int _ => true
  | _, .str x => okS x
  | 0, .tup _ => false
  | n + 1, .tup xs => okds n xs
  | _, .ref _ => false
def okds : Nat → List D → Bool
  | _, [] => true
  | n, x :: xs => D.okd n x && okds n xs
end
def b2i (b : Bool) : Int := if b then 1 else 0
mutual
def D.eqb : D → D → Bool
  | .non, .non => true
  | .bl a, .bl b => a == b
  | .bl a, .int j => b2i a == j
  | .int i, .bl b => i == b2i b
  | .int i, .int j => i == j
  | .str x, .str y => decide (x = y)
  | .tup xs, .tup ys => eqbs xs ys
  | _, _ => false
def eqbs : List D → List D → Bool
  | [], [] => true
  | x :: xs, y :: ys => D.eqb x y && eqbs xs ys
  | _, _ => false
end
def D.flat : D → Bool
  | .non => true
  | .bl _ => true
  | .int _ => true
  | .str _ => true
  | _ => false

/-! ### the store -/
/-- at n a list that may be changed -/
def rdL (st : Store) (n : Nat) (xs : List D) : Prop := st[n]? = some (.lst xs)
/-- at n a list -/
def rdA (st : Store) (n : Nat) (xs : List D) : Prop := st[n]? = some (.lst xs) ∨ st[n]? = some (.frz xs)
def rdD (st : Store) (n : Nat) (kvs : List (Sum Int Str × D)) : Prop := st[n]? = some (.dic kvs)
/-- at n a dict, locked or not -/
def rdDA (st : Store) (n : Nat) (kvs : List (Sum Int Str × D)) : Prop := st[n]? = some (.dic kvs) ∨ ∃ tk, st[n]? = some (.frd kvs tk)

/-! ### expressions -/
def dC (d : D) : TE := fun _ st Q => Q d st
def dVar (i : Nat) : TE := fun σ st Q => ∃ d, lk σ i = some d ∧ Q d st
abbrev K2 := D → D → Store → K → Prop
def dOp (k : K2) (ta tb : TE) : TE := fun σ st Q => ta σ st fun x st1 => tb σ st1 fun y st2 => k x y st2 Q
def dUn (k : D → Store → K → Prop) (ta : TE) : TE := fun σ st Q => ta σ st fun x st1 => k x st1 Q

def cMul (i j : Int) : Prop := (-(2 ^ 64) < i ∧ i < 2 ^ 64) ∨ (-(2 ^ 64) < j ∧ j < 2 ^ 64)
def cPow (i j : Int) : Prop := 0 ≤ j ∧ j ≤ 1000000 ∧ i.natAbs < 2 ^ 64
def addK : K2
  | .int a, .int b, st, Q => Q (.int (a + b)) st
  | .str a, .str b, st, Q => a.length + b.length ≤ szl ∧ Q (.str (a ++ b)) st
  | .tup a, .tup b, st, Q => a.length + b.length ≤ szl ∧ Q (.tup (a ++ b)) st
  | .ref m, .ref n, st, Q => ∃ a b, rdL st m a ∧ rdL st n b ∧ a.length + b.length ≤ szl ∧ Q (.ref st.length) (st ++ [.lst (a ++ b)])
  | _, _, _, _ => False
def subK : K2
  | .int a, .int b, st, Q => Q (.int (a - b)) st
  | _, _, _, _ => False
def mulK : K2
  | .int a, .int b, st, Q => cMul a b ∧ Q (.int (a * b)) st
  | .ref m, .int k, st, Q => ∃ xs, rdL st m xs ∧ -(2 ^ 63) ≤ k ∧ k < 2 ^ 63 ∧ xs.length * k.toNat ≤ szl ∧ Q (.ref st.length) (st ++ [.lst (List.replicate k.toNat xs).flatten])
  | _, _, _, _ => False
def fdivK : K2
  | .int a, .int b, st, Q => (0 < b ∧ b < 1073741824) ∧ Q (.int (a / b)) st
  | _, _, _, _ => False
def modK : K2
  | .int a, .int b, st, Q => 0 < b ∧ Q (.int (a % b)) st
  | _, _, _, _ => False
def powK : K2
  | .int a, .int b, st, Q => cPow a b ∧ Q (.int (a ^ b.toNat)) st
  | _, _, _, _ => False
def shlK : K2
  | .int a, .int b, st, Q => cPow a b ∧ Q (.int (a * 2 ^ b.toNat)) st
  | _, _, _, _ => False
def shrK : K2
  | .int a, .int b, st, Q => 0 ≤ b ∧ Q (.int (a / 2 ^ b.toNat)) st
  | _, _, _, _ => False
def andK : K2
  | .int a, .int b, st, Q => Q (.int (Builtin.bitAnd a b)) st
  | _, _, _, _ => False
def orK : K2
  | .int a, .int b, st, Q => Q (.int (Builtin.bitOr a b)) st
  | _, _, _, _ => False
def xorK : K2
  | .int a, .int b, st, Q => Q (.int (Builtin.bitXor a b)) st
  | _, _, _, _ => False
/-- op= of ints and texts -/
def iaddK : K2
  | .int a, .int b, st, Q => Q (.int (a + b)) st
  | .str a, .str b, st, Q => a.length + b.length ≤ szl ∧ Q (.str (a ++ b)) st
  | _, _, _, _ => False
def negK : D → Store → K → Prop
  | .int a, st, Q => Q (.int (-a)) st
  | _, _, _ => False
def invK : D → Store → K → Prop
  | .int a, st, Q => Q (.int (Builtin.bitNot a)) st
  | _, _, _ => False

/-! ### comparisons -/
abbrev KC := D → D → Store → (Bool → Prop) → Prop
def dCmp (k : KC) (ta tb : TE) : TE := fun σ st Q => ta σ st fun x st1 => tb σ st1 fun y st2 => k x y st2 fun b => Q (.bl b) st2
def dChain (k k' : KC) (ta tb tc : TE) : TE := fun σ st Q => ta σ st fun x st1 => tb σ st1 fun y st2 => k x y st2 fun b =>
  (b = true → tc σ st2 fun z st3 => k' y z st3 fun b' => Q (.bl b') st3) ∧ (b = false → Q (.bl false) st2)
/-- == -/
def eqC : KC
  | .ref m, .ref n, st, Q => ∃ xs ys, rdA st m xs ∧ rdA st n ys ∧ okds 60 xs = true ∧ okds 60 ys = true ∧ Q (eqbs xs ys)
  | .ref m, y, st, Q => ∃ xs, rdA st m xs ∧ okds 60 xs = true ∧ D.okd 60 y = true ∧ Q false
  | x, .ref n, st, Q => ∃ ys, rdA st n ys ∧ okds 60 ys = true ∧ D.okd 60 x = true ∧ Q false
  | x, y, st, Q => D.okd 60 x = true ∧ D.okd 60 y = true ∧ Q (D.eqb x y)
def neC : KC := fun x y st Q => eqC x y st fun b => Q (!b)
def ltC : KC
  | .int a, .int b, _, Q => Q (decide (a < b))
  | _, _, _, _ => False
def leC : KC
  | .int a, .int b, _, Q => Q (decide (a ≤ b))
  | _, _, _, _ => False
def gtC : KC
  | .int a, .int b, _, Q => Q (decide (b < a))
  | _, _, _, _ => False
def geC : KC
  | .int a, .int b, _, Q => Q (decide (b ≤ a))
  | _, _, _, _ => False
def isNon : D → Bool
  | .non => true
  | _ => false
def isC : KC
  | x, .non, _, Q => Q (isNon x)
  | _, _, _, _ => False
def isntC : KC
  | x, .non, _, Q => Q (!isNon x)
  | _, _, _, _ => False
def inC : KC
  | x, .tup xs, _, Q => x.flat = true ∧ xs.all D.flat = true ∧ Q (xs.any fun y => D.eqb y x)
  | x, .ref n, st, Q => ∃ xs, rdA st n xs ∧ x.flat = true ∧ xs.all D.flat = true ∧ Q (xs.any fun y => D.eqb y x)
  | _, _, _, _ => False
def notinC : KC := fun x y st Q => inC x y st fun b => Q (!b)

/-! ### truth -/
def truK : D → Store → (Bool → Prop) → Prop
  | .non, _, Q => Q false
  | .bl b, _, Q => Q b
  | .int i, _, Q => Q (i != 0)
  | .str y, _, Q => y.length ≤ szl ∧ Q ((y.length : Int) != 0)
  | .tup xs, _, Q => Q (!xs.isEmpty)
  | .ref n, st, Q => ∃ xs, rdA st n xs ∧ Q (!xs.isEmpty)
def tTru (t : TE) : TT := fun σ st Q => t σ st fun x st1 => truK x st1 fun b => Q b st1
def tAnd (t u : TT) : TT := fun σ st Q => t σ st fun c st1 => (c = true → u σ st1 Q) ∧ (c = false → Q false st1)
def tOr (t u : TT) : TT := fun σ st Q => t σ st fun c st1 => (c = true → Q true st1) ∧ (c = false → u σ st1 Q)
def tNot (t : TT) : TT := fun σ st Q => t σ st fun c st1 => Q (!c) st1
def dAndT (ta tb : TE) : TE := fun σ st Q => ta σ st fun x st1 => truK x st1 fun c => (c = true → tb σ st1 Q) ∧ (c = false → Q x st1)
def dOrT (ta tb : TE) : TE := fun σ st Q => ta σ st fun x st1 => truK x st1 fun c => (c = true → Q x st1) ∧ (c = false → tb σ st1 Q)
def dNotT (ta : TE) : TE := fun σ st Q => ta σ st fun x st1 => truK x st1 fun c => Q (.bl (!c)) st1
def dIf (c : TT) (a b : TE) : TE := fun σ st Q => c σ st fun k st1 => (k = true → a σ st1 Q) ∧ (k = false → b σ st1 Q)

/-! ### items, slices, displays, calls -/
def atD {α : Type} (xs : List α) (i : Int) : Option α := if 0 ≤ i then xs[i.toNat]? else if -(xs.length : Int) ≤ i then xs[(i + xs.length).toNat]? else none
def ixK : K2
  | .tup xs, .int i, st, Q => ∃ d, atD xs i = some d ∧ Q d st
  | .ref n, .int i, st, Q => ∃ xs d, rdA st n xs ∧ atD xs i = some d ∧ Q d st
  | .str z, .int i, st, Q => ∃ c, z.length ≤ szl ∧ atD z.cps.toList i = some c ∧ Q (.str ⟨#[c]⟩) st
  | _, _, _, _ => False
/-- where a slice's end lies -/
def cl (n : Nat) (i : Int) : Nat := if i < 0 then (i + n).toNat else min i.toNat n
def cutD {α : Type} (xs : List α) (lo hi : Option Int) : List α :=
  (xs.drop ((lo.map (cl xs.length)).getD 0)).take ((hi.map (cl xs.length)).getD xs.length - (lo.map (cl xs.length)).getD 0)
abbrev TO := Env → Store → (Option Int → Store → Prop) → Prop
def oNone : TO := fun _ st Q => Q none st
def oSome (t : TE) : TO := fun σ st Q => t σ st fun x st1 => ∃ i, x = .int i ∧ Q (some i) st1
def slK : D → Option Int → Option Int → Store → K → Prop
  | .tup xs, lo, hi, st, Q => Q (.tup (cutD xs lo hi)) st
  | .ref n, lo, hi, st, Q => ∃ xs, rdA st n xs ∧ Q (.ref st.length) (st ++ [.lst (cutD xs lo hi)])
  | _, _, _, _, _ => False
def dSl (te : TE) (tl th : TO) : TE := fun σ st Q => te σ st fun x st1 => tl σ st1 fun lo st2 => th σ st2 fun hi st3 => slK x lo hi st3 Q
def aNil : TA := fun _ st Q => Q [] st
def aCons (t : TE) (r : TA) : TA := fun σ st Q => t σ st fun x st1 => r σ st1 fun xs st2 => Q (x :: xs) st2
def dTup (t : TA) : TE := fun σ st Q => t σ st fun xs st1 => xs.length ≤ szl ∧ Q (.tup xs) st1
def dLst (t : TA) : TE := fun σ st Q => t σ st fun xs st1 => xs.length ≤ szl ∧ Q (.ref st1.length) (st1 ++ [.lst xs])
def dCall (c : Cl) (f : String) (t : TA) : TE := fun σ st Q => t σ st fun xs st1 => c f xs st1 Q
/-- a built-in -/
abbrev KB := List D → Store → K → Prop
def dB (k : KB) (t : TA) : TE := fun σ st Q => t σ st fun xs st1 => k xs st1 Q
/-- a method of a built-in type -/
abbrev KM := D → List D → Store → K → Prop
def dM (ty : D → Store → Prop) (k : KM) (to : TE) (t : TA) : TE := fun σ st Q => to σ st fun o st1 => ty o st1 ∧ t σ st1 fun xs st2 => k o xs st2 Q
def tyLst : D → Store → Prop
  | .ref n, st => ∃ xs, rdL st n xs
  | _, _ => False
def tyLstA : D → Store → Prop
  | .ref n, st => ∃ xs, rdA st n xs
  | _, _ => False
def tyStr : D → Store → Prop
  | .str _, _ => True
  | _, _ => False

def intB : KB
  | [.int i], st, Q => Q (.int i) st
  | [.bl b], st, Q => Q (.int (b2i b)) st
  | _, _, _ => False
def absB : KB
  | [.int i], st, Q => Q (.int (if i < 0 then -i else i)) st
  | _, _, _ => False
def lenB : KB
  | [.tup xs], st, Q => Q (.int xs.length) st
  | [.ref n], st, Q => ∃ xs, rdA st n xs ∧ Q (.int xs.length) st
  | [.str z], st, Q => z.length ≤ szl ∧ Q (.int z.length) st
  | _, _, _ => False
def min2B : KB
  | [.int i, .int j], st, Q => Q (.int (if j < i then j else i)) st
  | _, _, _ => False
def max2B : KB
  | [.int i, .int j], st, Q => Q (.int (if j > i then j else i)) st
  | _, _, _ => False
def listB : KB
  | [.tup xs], st, Q => Q (.ref st.length) (st ++ [.lst xs])
  | [.ref n], st, Q => ∃ xs, rdA st n xs ∧ Q (.ref st.length) (st ++ [.lst xs])
  | _, _, _ => False
def tupleB : KB
  | [.tup xs], st, Q => Q (.tup xs) st
  | [.ref n], st, Q => ∃ xs, rdA st n xs ∧ Q (.tup xs) st
  | _, _, _ => False
def sumB : KB
  | [.ref n], st, Q => ∃ ns : List Int, rdA st n (ns.map D.int) ∧ Q (.int ns.sum) st
  | _, _, _ => False
/-- None, a bool, an int: its truth -/
def D.tflat : D → Bool
  | .non => true
  | .bl _ => true
  | .int _ => true
  | _ => false
def D.tru : D → Bool
  | .bl b => b
  | .int i => i != 0
  | _ => false
def allB : KB
  | [.ref n], st, Q => ∃ xs : List D, rdA st n xs ∧ xs.all D.tflat = true ∧ Q (.bl (xs.all D.tru)) st
  | _, _, _ => False
def anyB : KB
  | [.ref n], st, Q => ∃ xs : List D, rdA st n xs ∧ xs.all D.tflat = true ∧ Q (.bl (xs.any D.tru)) st
  | _, _, _ => False
def min1B : KB
  | [.ref n], st, Q => ∃ ns : List Int, rdA st n (ns.map D.int) ∧ 0 < ns.length ∧ ∀ m, m ∈ ns → (∀ y, y ∈ ns → m ≤ y) → Q (.int m) st
  | _, _, _ => False
def max1B : KB
  | [.ref n], st, Q => ∃ ns : List Int, rdA st n (ns.map D.int) ∧ 0 < ns.length ∧ ∀ m, m ∈ ns → (∀ y, y ∈ ns → y ≤ m) → Q (.int m) st
  | _, _, _ => False
/-- isinstance(x, T), T a built-in class -/
inductive Ty where | int | bool | str | tuple | list
  deriving DecidableEq
def isTy : D → Store → Ty → (Bool → Prop) → Prop
  | .non, _, _, Q => Q false
  | .bl _, _, t, Q => Q (decide (t = .bool) || decide (t = .int))
  | .int _, _, t, Q => Q (decide (t = .int))
  | .str _, _, t, Q => Q (decide (t = .str))
  | .tup _, _, t, Q => Q (decide (t = .tuple))
  | .ref n, st, t, Q => ∃ xs, rdL st n xs ∧ Q (decide (t = .list))
def dIsi (ty : Ty) (t : TE) : TE := fun σ st Q => t σ st fun x st1 => isTy x st1 ty fun b => Q (.bl b) st1

/-! methods -/
def appendM : KM
  | .ref n, [x], st, Q => ∃ xs, rdL st n xs ∧ xs.length < szl ∧ Q .non (st.set n (.lst (xs ++ [x])))
  | _, _, _, _ => False
/-- .pop(i), the place in the list -/
def popM : KM
  | .ref n, [.int i], st, Q => ∃ xs d, rdL st n xs ∧ (0 ≤ i ∧ i < 2 ^ 62) ∧ atD xs i = some d ∧ Q d (st.set n (.lst (xs.eraseIdx i.toNat)))
  | _, _, _, _ => False
def extendM : KM
  | .ref n, [.ref m], st, Q => ∃ xs ys, rdL st n xs ∧ rdL st m ys ∧ n ≠ m ∧ xs.length + ys.length ≤ szl ∧ Q .non (st.set n (.lst (xs ++ ys)))
  | _, _, _, _ => False
/-- .index(x): the first place of what is there -/
def indexM : KM
  | .ref n, [x], st, Q => ∃ xs j z, rdA st n xs ∧ x.flat = true ∧ xs.all D.flat = true ∧ xs[j]? = some z ∧ D.eqb z x = true ∧ (∀ (m : Nat) (z' : D), m < j → xs[m]? = some z' → D.eqb z' x = false) ∧ Q (.int j) st
  | _, _, _, _ => False

/-! ### targets, iterables -/
abbrev TG := D → Env → Store → (Env → Store → Prop) → Prop
abbrev TGs := List D → Env → Store → (Env → Store → Prop) → Prop
def gName (i : Nat) : TG := fun d σ st Q => Q (σ.set i (some d)) st
def gsNil : TGs := fun ds σ st Q => ds = [] ∧ Q σ st
def gsCons (g : TG) (r : TGs) : TGs := fun ds σ st Q => ∃ d ds', ds = d :: ds' ∧ g d σ st fun σ1 st1 => r ds' σ1 st1 Q
def gTup (gs : TGs) (n : Nat) : TG := fun d σ st Q => ∃ ds, d = .tup ds ∧ ds.length = n ∧ gs ds σ st Q
def setK : D → D → D → Store → (Store → Prop) → Prop
  | .ref n, .int i, v, st, Q => ∃ xs, rdL st n xs ∧ (∃ d, atD xs i = some d) ∧ 0 ≤ i ∧ Q (st.set n (.lst (xs.set i.toNat v)))
  | _, _, _, _, _ => False
def gSub (to ti : TE) : TG := fun v σ st Q => to σ st fun o st1 => ti σ st1 fun i st2 => setK o i v st2 fun st3 => Q σ st3
structure Iter where
  items : List D
  guard : Store → Prop
abbrev TI := Env → Store → (Iter → Store → Prop) → Prop
/-- a list or a tuple -/
def itK : D → Store → (Iter → Store → Prop) → Prop
  | .tup xs, st, R => R ⟨xs, fun _ => True⟩ st
  | .ref n, st, R => ∃ xs, rdA st n xs ∧ R ⟨xs, fun s => rdA s n xs⟩ st
  | _, _, _ => False
def iSeq (t : TE) : TI := fun σ st R => t σ st fun x st1 => itK x st1 R
def rng (lo : Int) (n : Nat) : List D := (List.range n).map fun (k : Nat) => D.int (lo + k)
def iR1 (t : TE) : TI := fun σ st R => t σ st fun x st1 => ∃ j, x = .int j ∧ -(2 ^ 62) ≤ j ∧ j < 2 ^ 62 ∧ R ⟨rng 0 j.toNat, fun _ => True⟩ st1
def iR2 (t u : TE) : TI := fun σ st R => t σ st fun x st1 => u σ st1 fun y st2 => ∃ i j, x = .int i ∧ y = .int j ∧ (-(2 ^ 62) ≤ i ∧ i < 2 ^ 62 ∧ -(2 ^ 62) ≤ j ∧ j < 2 ^ 62) ∧ R ⟨rng i (j - i).toNat, fun _ => True⟩ st2
def zipD : List D → List D → List D
  | x :: xs, y :: ys => .tup [x, y] :: zipD xs ys
  | _, _ => []
/-- zip(a, b): both lists, or both tuples -/
def zipK : D → D → Store → (Iter → Store → Prop) → Prop
  | .tup xs, .tup ys, st, R => R ⟨zipD xs ys, fun _ => True⟩ st
  | .ref m, .ref n, st, R => ∃ xs ys, rdA st m xs ∧ rdA st n ys ∧ R ⟨zipD xs ys, fun s => rdA s m xs ∧ rdA s n ys⟩ st
  | _, _, _, _ => False
def iZip2 (t u : TE) : TI := fun σ st R => t σ st fun x st1 => u σ st1 fun y st2 => zipK x y st2 R

/-! ### comprehensions -/
def tYes : TT := fun _ st Q => Q true st
/-- n: the new list's cell -/
def lcLoop (gd : Store → Prop) (g : TG) (tt : TT) (te : TE) (ρ : Env) (n : Nat) (Q : K) : List D → List D → Store → Prop
  | [], acc, st => gd st ∧ rdL st n acc ∧ Q (.ref n) st
  | x :: xs, acc, st => gd st ∧ g x ρ st fun ρ2 st2 => tt ρ2 st2 fun b st3 =>
      (b = true → te ρ2 st3 fun y st4 => rdL st4 n acc ∧ acc.length < szl ∧ lcLoop gd g tt te ρ n Q xs (acc ++ [y]) (st4.set n (.lst (acc ++ [y])))) ∧ (b = false → rdL st3 n acc ∧ lcLoop gd g tt te ρ n Q xs acc st3)
def dLc (i : TI) (g : TG) (tt : TT) (te : TE) (vs : List Nat) : TE := fun σ st Q => i σ st fun I st1 => lcLoop I.guard g tt te (wipeE σ vs) st1.length Q I.items [] (st1 ++ [.lst []])

/-! ### statements -/
def sNext : TS := fun D σ st => D.nx σ st
/-- a statement's end, where a walk may rest -/
structure Nxt (P : Prop) : Prop where
  go : P
def sSeq (t u : TS) : TS := fun D σ st => t { D with nx := fun σ' st' => Nxt (u D σ' st') } σ st
def sBreak : TS := fun D σ st => D.bk σ st
def sCont : TS := fun D σ st => D.ct σ st
def sExpr (t : TE) : TS := fun D σ st => t σ st fun _ st1 => D.nx σ st1
def sRet (t : TE) : TS := fun D σ st => t σ st D.rt
def sRetN : TS := fun D _ st => D.rt .non st
def sIf (c : TT) (t u : TS) : TS := fun D σ st => c σ st fun b st1 => (b = true → t D σ st1) ∧ (b = false → u D σ st1)
def sAsg (t : TE) (g : TG) : TS := fun D σ st => t σ st fun x st1 => g x σ st1 D.nx
/-- a, b = e, f of two locals: no tuple is made -/
def sPar (i j : Nat) (t : TA) : TS := fun D σ st => t σ st fun xs st1 => ∃ x y, xs = [x, y] ∧ D.nx ((σ.set i (some x)).set j (some y)) st1
def sAug (i : Nat) (k : K2) (t : TE) : TS := fun D σ st => ∃ x, lk σ i = some x ∧ t σ st fun y st1 => k x y st1 fun z st2 => D.nx (σ.set i (some z)) st2
/-- the item of a list alone -/
def ixLK : K2
  | .ref n, .int i, st, Q => ∃ xs d, rdA st n xs ∧ atD xs i = some d ∧ Q d st
  | _, _, _, _ => False
def sAugL (k : K2) (to ti te : TE) : TS := fun D σ st => to σ st fun o st1 => ti σ st1 fun i st2 => ixLK o i st2 fun x st3 => te σ st3 fun y st4 => k x y st4 fun z st5 => setK o i z st5 fun st6 => D.nx σ st6
def forLoop (gd : Store → Prop) (g : TG) (tb : TS) (D : Ends) : List Pd.D → Env → Store → Prop
  | [], σ, st => gd st ∧ D.nx σ st
  | x :: xs, σ, st => gd st ∧ g x σ st fun σ2 st2 => tb { D with nx := fun σ3 st3 => forLoop gd g tb D xs σ3 st3, ct := fun σ3 st3 => forLoop gd g tb D xs σ3 st3, bk := D.nx } σ2 st2
def sFor (i : TI) (g : TG) (tb : TS) : TS := fun D σ st => i σ st fun I st1 => forLoop I.guard g tb D I.items σ st1
def whileN (c : TT) (tb : TS) (D : Ends) : Nat → Env → Store → Prop
  | 0, _, _ => False
  | n + 1, σ, st => c σ st fun b st1 => (b = true → tb { D with nx := fun σ2 st2 => whileN c tb D n σ2 st2, ct := fun σ2 st2 => whileN c tb D n σ2 st2, bk := D.nx } σ st1) ∧ (b = false → D.nx σ st1)
def sWhile (c : TT) (tb : TS) : TS := fun D σ st => ∃ n, whileN c tb D n σ st

/-! ### defs: parameters, number of names, body -/
structure Def where
  ps : Nat
  ns : Nat
  body : Cl → TS
def start (n : Nat) (ds : List D) : Env := ds.map some ++ List.replicate (n - ds.length) none
def Def.run (d : Def) (c : Cl) (ds : List D) (st : Store) (Q : K) : Prop :=
  ds.length = d.ps ∧ d.body c { nx := fun _ st' => Q .non st', rt := Q } (start d.ns ds) st
/-- calls, at most k deep -/
def callN (prog : String → Option Def) : Nat → Cl
  | 0 => fun _ _ _ _ => False
  | k + 1 => fun f ds st Q => ∃ d, prog f = some d ∧ d.run (callN prog k) ds st Q
end Pd
end PartPdCore

section PartPdSoundA
set_option Elab.async false
set_option linter.all false
set_option maxRecDepth 100000
set_option maxHeartbeats 1000000
/-! Pd over the hand layer: data against values and heaps; lifting; expressions. Own work. -/
namespace Pd
open PySem PySem.Spec
abbrev Kf := PySem.W.Frag
abbrev Vv := L2.V
abbrev Hp := L2.Hp

theorem szl_eq : szl = sizeLine := by rfl

/-! ### data against values -/
mutual
def RD (K : Kf) (f : List Addr) (H : Hp) : D → L2.V → Prop
  | .non, v => v = .non
  | .bl b, v => v = .bl b
  | .int i, v => v = .int i
  | .str s, v => v = .str s
  | .ref n, v => ∃ a, f[n]? = some a ∧ v = .ref a
  | .tup ds, v => ∃ a vs, v = .ref a ∧ L2.SqT K H a vs ∧ RDs K f H ds vs
def RDs (K : Kf) (f : List Addr) (H : Hp) : List D → List L2.V → Prop
  | [], vs => vs = []
  | d :: ds, vs => ∃ v r, vs = v :: r ∧ RD K f H d v ∧ RDs K f H ds r
end
section
variable {K : Kf} {f f' : List Addr} {H H' : Hp} {st st' : Store} {ρ : Env} {σ : L2.St}
theorem RD.non {v : L2.V} : RD K f H .non v ↔ v = .non := by simp [RD]
theorem RD.bl {b : Bool} {v : L2.V} : RD K f H (.bl b) v ↔ v = .bl b := by simp [RD]
theorem RD.int {i : Int} {v : L2.V} : RD K f H (.int i) v ↔ v = .int i := by simp [RD]
theorem RD.str {x : Str} {v : L2.V} : RD K f H (.str x) v ↔ v = .str x := by simp [RD]
theorem RD.ref {n : Nat} {v : L2.V} : RD K f H (.ref n) v ↔ ∃ a, f[n]? = some a ∧ v = .ref a := by simp [RD]
theorem RD.tup {ds : List D} {v : L2.V} : RD K f H (.tup ds) v ↔ ∃ a vs, v = .ref a ∧ L2.SqT K H a vs ∧ RDs K f H ds vs := by simp [RD]
theorem RDs.nil {vs : List L2.V} : RDs K f H [] vs ↔ vs = [] := by simp [RDs]
theorem RDs.cons {d : D} {ds : List D} {vs : List L2.V} : RDs K f H (d :: ds) vs ↔ ∃ v r, vs = v :: r ∧ RD K f H d v ∧ RDs K f H ds r := by simp [RDs]

/-- later: more cells, the tuples as they were -/
structure Ext (K : Kf) (f : List Addr) (H : Hp) (f' : List Addr) (H' : Hp) : Prop where
  pre : ∃ g, f' = f ++ g
  tup : ∀ a xs, L2.SqT K H a xs → L2.SqT K H' a xs
theorem Ext.refl : Ext K f H f H := ⟨⟨[], by simp⟩, fun _ _ h => h⟩
theorem Ext.trans {f2 : List Addr} {H2 : Hp} (a : Ext K f H f' H') (b : Ext K f' H' f2 H2) : Ext K f H f2 H2 := by
  obtain ⟨g, rfl⟩ := a.pre
  obtain ⟨g2, rfl⟩ := b.pre
  exact ⟨⟨g ++ g2, by simp⟩, fun x xs h => b.tup x xs (a.tup x xs h)⟩
theorem Ext.at (e : Ext K f H f' H') {n : Nat} {a : Addr} (h : f[n]? = some a) : f'[n]? = some a := by
  obtain ⟨g, rfl⟩ := e.pre
  have hn := (List.getElem?_eq_some_iff.mp h).1
  rw [List.getElem?_append_left hn]; exact h
mutual
theorem RD.mono (e : Ext K f H f' H') : ∀ (d : D) {v : L2.V}, RD K f H d v → RD K f' H' d v
  | .non, _, h => by rw [RD.non] at *; exact h
  | .bl _, _, h => by rw [RD.bl] at *; exact h
  | .int _, _, h => by rw [RD.int] at *; exact h
  | .str _, _, h => by rw [RD.str] at *; exact h
  | .ref _, _, h => by
    rw [RD.ref] at *
    obtain ⟨a, h1, h2⟩ := h
    exact ⟨a, e.at h1, h2⟩
  | .tup ds, _, h => by
    rw [RD.tup] at *
    obtain ⟨a, vs, h1, h2, h3⟩ := h
    exact ⟨a, vs, h1, e.tup _ _ h2, RDs.mono e ds h3⟩
theorem RDs.mono (e : Ext K f H f' H') : ∀ (ds : List D) {vs : List L2.V}, RDs K f H ds vs → RDs K f' H' ds vs
  | [], _, h => by rw [RDs.nil] at *; exact h
  | d :: ds, _, h => by
    rw [RDs.cons] at *
    obtain ⟨v, r, h1, h2, h3⟩ := h
    exact ⟨v, r, h1, RD.mono e d h2, RDs.mono e ds h3⟩
end
theorem RDs.length : ∀ {ds : List D} {vs : List L2.V}, RDs K f H ds vs → vs.length = ds.length
  | [], _, h => by rw [RDs.nil] at h; subst h; rfl
  | d :: ds, _, h => by
    rw [RDs.cons] at h
    obtain ⟨v, r, rfl, _, h3⟩ := h
    simp [RDs.length h3]
theorem RDs.get : ∀ {ds : List D} {vs : List L2.V} {i : Nat} {d : D}, RDs K f H ds vs → ds[i]? = some d → ∃ v, vs[i]? = some v ∧ RD K f H d v
  | [], _, _, _, _, e => by simp at e
  | x :: ds, _, 0, d, h, e => by
    rw [RDs.cons] at h
    obtain ⟨v, r, rfl, h2, _⟩ := h
    simp at e; subst e; exact ⟨v, rfl, h2⟩
  | x :: ds, _, i + 1, d, h, e => by
    rw [RDs.cons] at h
    obtain ⟨v, r, rfl, _, h3⟩ := h
    obtain ⟨w, h4, h5⟩ := RDs.get (i := i) h3 (by simpa using e)
    exact ⟨w, by simpa using h4, h5⟩
theorem RDs.append : ∀ {xs ys : List D} {us vs : List L2.V}, RDs K f H xs us → RDs K f H ys vs → RDs K f H (xs ++ ys) (us ++ vs)
  | [], _, _, _, h, h' => by rw [RDs.nil] at h; subst h; exact h'
  | x :: xs, _, _, _, h, h' => by
    rw [RDs.cons] at h
    obtain ⟨v, r, rfl, h2, h3⟩ := h
    rw [List.cons_append, RDs.cons]
    exact ⟨v, _, rfl, h2, RDs.append h3 h'⟩
theorem RDs.one {d : D} {v : L2.V} (h : RD K f H d v) : RDs K f H [d] [v] := by
  rw [RDs.cons]; exact ⟨v, [], rfl, h, by rw [RDs.nil]⟩
theorem RDs.take : ∀ {ds : List D} {vs : List L2.V} (n : Nat), RDs K f H ds vs → RDs K f H (ds.take n) (vs.take n)
  | _, _, 0, _ => by simp [RDs.nil]
  | [], _, n + 1, h => by rw [RDs.nil] at h; subst h; simp [RDs.nil]
  | d :: ds, _, n + 1, h => by
    rw [RDs.cons] at h
    obtain ⟨v, r, rfl, h2, h3⟩ := h
    rw [List.take_succ_cons, List.take_succ_cons, RDs.cons]
    exact ⟨v, _, rfl, h2, RDs.take n h3⟩
theorem RDs.drop : ∀ {ds : List D} {vs : List L2.V} (n : Nat), RDs K f H ds vs → RDs K f H (ds.drop n) (vs.drop n)
  | _, _, 0, h => by simpa using h
  | [], _, n + 1, h => by rw [RDs.nil] at h; subst h; simp [RDs.nil]
  | d :: ds, _, n + 1, h => by
    rw [RDs.cons] at h
    obtain ⟨v, r, rfl, h2, h3⟩ := h
    rw [List.drop_succ_cons, List.drop_succ_cons]
    exact RDs.drop n h3
theorem RDs.set : ∀ {ds : List D} {vs : List L2.V} (n : Nat) {d : D} {v : L2.V}, RD K f H d v → RDs K f H ds vs → RDs K f H (ds.set n d) (vs.set n v)
  | [], _, _, _, _, _, h => by rw [RDs.nil] at h; subst h; simp [RDs.nil]
  | x :: ds, _, 0, d, v, hd, h => by
    rw [RDs.cons] at h
    obtain ⟨w, r, rfl, h2, h3⟩ := h
    rw [List.set_cons_zero, List.set_cons_zero, RDs.cons]
    exact ⟨v, r, rfl, hd, h3⟩
  | x :: ds, _, n + 1, d, v, hd, h => by
    rw [RDs.cons] at h
    obtain ⟨w, r, rfl, h2, h3⟩ := h
    rw [List.set_cons_succ, List.set_cons_succ, RDs.cons]
    exact ⟨w, _, rfl, h2, RDs.set n hd h3⟩
theorem RDs.eraseIdx : ∀ {ds : List D} {vs : List L2.V} (n : Nat), RDs K f H ds vs → RDs K f H (ds.eraseIdx n) (vs.eraseIdx n)
  | [], _, _, h => by rw [RDs.nil] at h; subst h; simp [RDs.nil]
  | x :: ds, _, 0, h => by
    rw [RDs.cons] at h
    obtain ⟨w, r, rfl, h2, h3⟩ := h
    simpa using h3
  | x :: ds, _, n + 1, h => by
    rw [RDs.cons] at h
    obtain ⟨w, r, rfl, h2, h3⟩ := h
    rw [List.eraseIdx_cons_succ, List.eraseIdx_cons_succ, RDs.cons]
    exact ⟨w, _, rfl, h2, RDs.eraseIdx n h3⟩
theorem RDs.ints : ∀ {ns : List Int} {vs : List L2.V}, RDs K f H (ns.map D.int) vs → vs = ns.map L2.V.int
  | [], _, h => by rw [List.map_nil, RDs.nil] at h; subst h; rfl
  | n :: ns, _, h => by
    rw [List.map_cons, RDs.cons] at h
    obtain ⟨v, r, rfl, h2, h3⟩ := h
    rw [RD.int] at h2
    rw [h2, RDs.ints h3]; rfl
theorem RDs.of_ints : ∀ (ns : List Int), RDs K f H (ns.map D.int) (ns.map L2.V.int)
  | [] => by simp [RDs.nil]
  | n :: ns => by
    rw [List.map_cons, List.map_cons, RDs.cons]
    exact ⟨_, _, rfl, by rw [RD.int], RDs.of_ints ns⟩
theorem RDs.bools : ∀ {bs : List Bool} {vs : List L2.V}, RDs K f H (bs.map D.bl) vs → vs = bs.map L2.V.bl
  | [], _, h => by rw [List.map_nil, RDs.nil] at h; subst h; rfl
  | n :: ns, _, h => by
    rw [List.map_cons, RDs.cons] at h
    obtain ⟨v, r, rfl, h2, h3⟩ := h
    rw [RD.bl] at h2
    rw [h2, RDs.bools h3]; rfl

/-! ### the store against the heap -/
/-- a list that may not be changed: frozen, or the module's -/
def FzL (K : Kf) (H : Hp) (a : Addr) (xs : List L2.V) : Prop :=
  (∃ o, H a = some (.frz o (.lst xs))) ∨
    ∃ (o : Obj) (its : Array Value) (n : Nat), K.lookup a = some o ∧ o.cls = .type "list" ∧ o.dict = none ∧ o.data = .seq its n ∧ its.size ≤ sizeLine ∧ L2.Vals xs its.toList
theorem FzL.sq {a : Addr} {xs : List L2.V} (h : FzL K H a xs) : L2.SqL K H a xs := by
  rcases h with h | h
  · exact .inl (.inr h)
  · exact .inr h
def RC (K : Kf) (f : List Addr) (H : Hp) : C → Addr → Prop
  | .lst ds, a => ∃ vs, H a = some (.lst vs) ∧ RDs K f H ds vs
  | .frz ds, a => ∃ vs, FzL K H a vs ∧ RDs K f H ds vs
  | .dic kvs, a => ∃ ks : List (L2.Key × L2.V), H a = some (.dK ks) ∧ ks.map (·.1) = kvs.map (·.1) ∧ RDs K f H (kvs.map (·.2)) (ks.map (·.2))
  | .frd kvs tk, a => H a = some (.frz tk.1 (.dK tk.2)) ∧ tk.2.map (·.1) = kvs.map (·.1) ∧ RDs K f H (kvs.map (·.2)) (tk.2.map (·.2))
  | .ins cn fs, a => ∃ (ca dx : Addr) (vs : List (Str × L2.V)), PySem.W.nsIn K mainGlobals cn = some (some (.ref ca)) ∧ H a = some (.ins ca dx vs) ∧ vs.map (·.1) = fs.map (·.1) ∧ RDs K f H (fs.map (·.2)) (vs.map (·.2))
/-- a cell that may be changed -/
def mutC : C → Bool
  | .frz _ => false
  | _ => true
structure RelS (K : Kf) (f : List Addr) (st : Store) (H : Hp) : Prop where
  len : f.length = st.length
  nd : ∀ (n m : Nat) (c c' : C) (a : Addr), st[n]? = some c → st[m]? = some c' → mutC c = true → mutC c' = true → f[n]? = some a → f[m]? = some a → n = m
  cell : ∀ (n : Nat) (c : C) (a : Addr), st[n]? = some c → f[n]? = some a → RC K f H c a
structure Rel (K : Kf) (f : List Addr) (ρ : Env) (st : Store) (σ : L2.St) (H : Hp) : Prop extends RelS K f st H where
  env : ∀ (i : Nat) (d : D), lk ρ i = some d → ∃ v, σ[i]? = some (some v) ∧ RD K f H d v
  le : ρ.length ≤ σ.length
theorem RelS.at (r : RelS K f st H) {n : Nat} {c : C} (h : st[n]? = some c) : ∃ a, f[n]? = some a ∧ RC K f H c a := by
  have hn := (List.getElem?_eq_some_iff.mp h).1
  have hn' : n < f.length := by rw [r.len]; exact hn
  exact ⟨f[n], by simp [hn'], r.cell n c _ h (by simp [hn'])⟩
theorem RelS.rdL (r : RelS K f st H) {n : Nat} {xs : List D} (h : rdL st n xs) : ∃ a vs, f[n]? = some a ∧ H a = some (.lst vs) ∧ RDs K f H xs vs := by
  obtain ⟨a, h1, vs, h2, h3⟩ := r.at h
  exact ⟨a, vs, h1, h2, h3⟩
theorem RelS.rdD (r : RelS K f st H) {n : Nat} {kvs : List (Sum Int Str × D)} (h : Pd.rdD st n kvs) : ∃ a ks, f[n]? = some a ∧ H a = some (.dK ks) ∧ ks.map (·.1) = kvs.map (·.1) ∧ RDs K f H (kvs.map (·.2)) (ks.map (·.2)) := by
  obtain ⟨a, h1, ks, h2, h3⟩ := r.at h
  exact ⟨a, ks, h1, h2, h3⟩
theorem RelS.rdDA (r : RelS K f st H) {n : Nat} {kvs : List (Sum Int Str × D)} (h : Pd.rdDA st n kvs) : ∃ a ks, f[n]? = some a ∧ L2.Rd H a (.dK ks) ∧ ks.map (·.1) = kvs.map (·.1) ∧ RDs K f H (kvs.map (·.2)) (ks.map (·.2)) := by
  rcases h with h | ⟨tk, h⟩
  · obtain ⟨a, h1, ks, h2, h3⟩ := r.at h
    exact ⟨a, ks, h1, .inl h2, h3⟩
  · obtain ⟨a, h1, h2, h3⟩ := r.at h
    exact ⟨a, tk.2, h1, .inr ⟨_, h2⟩, h3⟩
theorem RelS.rdA (r : RelS K f st H) {n : Nat} {xs : List D} (h : rdA st n xs) : ∃ a vs, f[n]? = some a ∧ L2.SqL K H a vs ∧ RDs K f H xs vs := by
  rcases h with h | h
  · obtain ⟨a, h1, vs, h2, h3⟩ := r.at h
    exact ⟨a, vs, h1, .of h2, h3⟩
  · obtain ⟨a, h1, vs, h2, h3⟩ := r.at h
    exact ⟨a, vs, h1, h2.sq, h3⟩
theorem Rel.later (r : Rel K f ρ st σ H) (e : Ext K f H f' H') (s : RelS K f' st' H') : Rel K f' ρ st' σ H' :=
  ⟨s, fun i d h => by
    obtain ⟨v, h1, h2⟩ := r.env i d h
    exact ⟨v, h1, h2.mono e⟩, r.le⟩
theorem lk_lt : ∀ {ρ : Env} {i : Nat} {d : D}, lk ρ i = some d → i < ρ.length
  | [], _, _, h => by simp [lk] at h
  | _ :: _, 0, _, _ => by simp
  | _ :: r, i + 1, _, h => by
    have := lk_lt (ρ := r) (i := i) (by simpa [lk] using h)
    simp; omega
theorem wipeE_length (ρ : Env) : ∀ vs : List Nat, (wipeE ρ vs).length = ρ.length
  | [] => rfl
  | v :: vs => by unfold wipeE; rw [List.length_set, wipeE_length ρ vs]
theorem lk_set {ρ : Env} {i j : Nat} {d x : D} (h : lk (ρ.set i (some x)) j = some d) : (j = i ∧ d = x) ∨ (j ≠ i ∧ lk ρ j = some d) := by
  induction ρ generalizing i j with
  | nil => simp [lk] at h
  | cons y r ih =>
    cases i with
    | zero =>
      cases j with
      | zero => simp [lk] at h; exact .inl ⟨rfl, h.symm⟩
      | succ j => simp [lk] at h; exact .inr ⟨by simp, by simpa [lk] using h⟩
    | succ i =>
      cases j with
      | zero => simp [lk] at h; exact .inr ⟨by simp, by simpa [lk] using h⟩
      | succ j =>
        simp [lk] at h
        rcases ih h with ⟨e, h⟩ | ⟨e, h⟩
        · exact .inl ⟨by omega, h⟩
        · exact .inr ⟨by omega, by simpa [lk] using h⟩
theorem lk_none {ρ : Env} {i j : Nat} {d : D} (h : lk (ρ.set i none) j = some d) : j ≠ i ∧ lk ρ j = some d := by
  induction ρ generalizing i j with
  | nil => simp [lk] at h
  | cons y r ih =>
    cases i with
    | zero =>
      cases j with
      | zero => simp [lk] at h
      | succ j => simp [lk] at h; exact ⟨by simp, by simpa [lk] using h⟩
    | succ i =>
      cases j with
      | zero => simp [lk] at h; exact ⟨by simp, by simpa [lk] using h⟩
      | succ j =>
        simp [lk] at h
        obtain ⟨e, h⟩ := ih h
        exact ⟨by omega, by simpa [lk] using h⟩
theorem lk_wipe {ρ : Env} {j : Nat} {d : D} : ∀ {vs : List Nat}, lk (wipeE ρ vs) j = some d → j ∉ vs ∧ lk ρ j = some d
  | [], h => ⟨by simp, h⟩
  | v :: vs, h => by
    unfold wipeE at h
    obtain ⟨h1, h2⟩ := lk_none h
    obtain ⟨h3, h4⟩ := lk_wipe h2
    exact ⟨by simp [h1, h3], h4⟩
/-- the slots a target may write: all others as they were -/
def Out (vs : List Nat) (σ σ' : L2.St) : Prop := σ'.length = σ.length ∧ ∀ j, j ∉ vs → σ'[j]? = σ[j]?
theorem Rel.put {i : Nat} {d : D} {v : L2.V} (r : Rel K f ρ st σ H) (h : RD K f H d v) : Rel K f (ρ.set i (some d)) st (σ.set i (some v)) H :=
  ⟨r.toRelS, fun j x hx => by
    have hl := lk_lt hx
    rw [List.length_set] at hl
    have hle := r.le
    rcases lk_set hx with ⟨rfl, rfl⟩ | ⟨ne, h'⟩
    · exact ⟨v, by rw [List.getElem?_set_self (by omega)], h⟩
    · obtain ⟨w, h1, h2⟩ := r.env j x h'
      exact ⟨w, by rw [List.getElem?_set_ne (Ne.symm ne)]; exact h1, h2⟩, by rw [List.length_set, List.length_set]; exact r.le⟩
theorem wipe_keep {σ : L2.St} {i : Nat} : ∀ {vs : List Nat}, i ∉ vs → (L2.wipe σ vs)[i]? = σ[i]?
  | [], _ => rfl
  | v :: vs, h => by
    have h1 : i ≠ v := fun e => h (by simp [e])
    unfold L2.wipe
    rw [List.getElem?_set_ne (Ne.symm h1)]
    exact wipe_keep fun e => h (List.mem_cons_of_mem _ e)
theorem Rel.wipe {vs : List Nat} (r : Rel K f ρ st σ H) : Rel K f (wipeE ρ vs) st (L2.wipe σ vs) H :=
  ⟨r.toRelS, fun j x hx => by
    obtain ⟨h1, h2⟩ := lk_wipe hx
    obtain ⟨v, h3, h4⟩ := r.env j x h2
    exact ⟨v, by rw [wipe_keep h1]; exact h3, h4⟩, by rw [wipeE_length, L2.wipe_length]; exact r.le⟩
theorem Out.wipe {vs : List Nat} {σ σ' : L2.St} (h : Out vs (L2.wipe σ vs) σ') : L2.wipe σ' vs = L2.wipe σ vs := by
  obtain ⟨h1, h2⟩ := h
  apply List.ext_getElem?
  intro j
  have wiped : ∀ (τ : L2.St) (ws : List Nat), j ∈ ws → (L2.wipe τ ws)[j]? = if j < τ.length then some none else none := by
    intro τ ws
    induction ws with
    | nil => intro h; cases h
    | cons v ws ih =>
      intro h
      unfold L2.wipe
      by_cases e : v = j
      · subst e
        by_cases hl : v < τ.length
        · rw [List.getElem?_set_self (by rw [L2.wipe_length]; exact hl), if_pos hl]
        · rw [List.getElem?_eq_none (by rw [List.length_set, L2.wipe_length]; omega), if_neg hl]
      · rw [List.getElem?_set_ne e]
        rcases List.mem_cons.mp h with q | q
        · exact absurd q.symm e
        · exact ih q
  by_cases hj : j ∈ vs
  · rw [wiped σ' vs hj, wiped σ vs hj, h1, L2.wipe_length]
  · rw [wipe_keep hj, h2 j hj]

/-! a new object, a changed one -/
/-- what may stand where something is laid or changed -/
def Wr (H : Hp) (b : Addr) : Prop := H b = none ∨ (∃ ys, H b = some (.lst ys)) ∨ (∃ ys, H b = some (.dK ys)) ∨ (∃ o ys, H b = some (.frz o (.dK ys))) ∨ ∃ ca dx ys, H b = some (.ins ca dx ys)
theorem SqT.upd {a b : Addr} {xs : List L2.V} {o : L2.HO} (h : L2.SqT K H a xs) (n : Wr H b) : L2.SqT K (L2.upd H b o) a xs := by
  rcases h with (h | ⟨q, h⟩) | h
  · have : a ≠ b := by
      rintro rfl
      rcases n with n | ⟨ys, n⟩ | ⟨ys, n⟩ | ⟨o, ys, n⟩ | ⟨ca, dx, ys, n⟩ <;> rw [n] at h <;> cases h
    exact .inl (.inl (by rw [L2.upd_ne this]; exact h))
  · have : a ≠ b := by
      rintro rfl
      rcases n with n | ⟨ys, n⟩ | ⟨ys, n⟩ | ⟨o, ys, n⟩ | ⟨ca, dx, ys, n⟩ <;> rw [n] at h <;> cases h
    exact .inl (.inr ⟨q, by rw [L2.upd_ne this]; exact h⟩)
  · exact .inr h
theorem FzL.upd {a b : Addr} {xs : List L2.V} {o : L2.HO} (h : FzL K H a xs) (n : Wr H b) : FzL K (L2.upd H b o) a xs := by
  rcases h with ⟨q, h⟩ | h
  · have : a ≠ b := by
      rintro rfl
      rcases n with n | ⟨ys, n⟩ | ⟨ys, n⟩ | ⟨o, ys, n⟩ | ⟨ca, dx, ys, n⟩ <;> rw [n] at h <;> cases h
    exact .inl ⟨q, by rw [L2.upd_ne this]; exact h⟩
  · exact .inr h
theorem Ext.upd {b : Addr} {o : L2.HO} {g : List Addr} (n : Wr H b) : Ext K f H (f ++ g) (L2.upd H b o) := ⟨⟨g, rfl⟩, fun _ _ h => SqT.upd h n⟩
theorem Ext.upd0 {b : Addr} {o : L2.HO} (n : Wr H b) : Ext K f H f (L2.upd H b o) := ⟨⟨[], by simp⟩, fun _ _ h => SqT.upd h n⟩
theorem RC.upd {c : C} {a b : Addr} {o : L2.HO} (h : RC K f H c a) (e : Ext K f H f' (L2.upd H b o)) (n : Wr H b) (ne : mutC c = true → a ≠ b) : RC K f' (L2.upd H b o) c a := by
  cases c with
  | lst ds =>
    obtain ⟨vs, h1, h2⟩ := h
    exact ⟨vs, by rw [L2.upd_ne (ne rfl)]; exact h1, h2.mono e⟩
  | frz ds =>
    obtain ⟨vs, h1, h2⟩ := h
    exact ⟨vs, h1.upd n, h2.mono e⟩
  | dic kvs =>
    obtain ⟨ks, h1, h2, h3⟩ := h
    exact ⟨ks, by rw [L2.upd_ne (ne rfl)]; exact h1, h2, h3.mono e⟩
  | frd kvs tk =>
    obtain ⟨h1, h2, h3⟩ := h
    exact ⟨by rw [L2.upd_ne (ne rfl)]; exact h1, h2, h3.mono e⟩
  | ins cn fs =>
    obtain ⟨ca, dx, vs, h0, h1, h2, h3⟩ := h
    exact ⟨ca, dx, vs, h0, by rw [L2.upd_ne (ne rfl)]; exact h1, h2, h3.mono e⟩
theorem RC.some {c : C} {a : Addr} (h : RC K f H c a) (m : mutC c = true) : H a ≠ none := by
  cases c with
  | lst ds => obtain ⟨vs, h1, _⟩ := h; rw [h1]; simp
  | frz ds => cases m
  | dic kvs => obtain ⟨ks, h1, _⟩ := h; rw [h1]; simp
  | frd kvs tk => obtain ⟨h1, _⟩ := h; rw [h1]; simp
  | ins cn fs => obtain ⟨ca, dx, vs, _, h1, _⟩ := h; rw [h1]; simp
theorem RelS.rdI (r : RelS K f st H) {n : Nat} {cn : Str} {fs : List (Str × D)} (h : st[n]? = some (.ins cn fs)) : ∃ (a ca dx : Addr) (vs : List (Str × L2.V)), f[n]? = some a ∧ PySem.W.nsIn K mainGlobals cn = some (some (.ref ca)) ∧ H a = some (.ins ca dx vs) ∧ vs.map (·.1) = fs.map (·.1) ∧ RDs K f H (fs.map (·.2)) (vs.map (·.2)) := by
  obtain ⟨a, h1, ca, dx, vs, h2⟩ := r.at h
  exact ⟨a, ca, dx, vs, h1, h2⟩
/-- a new tracked object that is no cell (a tuple) -/
theorem RelS.lay (r : RelS K f st H) {p : Addr} {o : L2.HO} (hp : H p = none) : RelS K f st (L2.upd H p o) ∧ Ext K f H f (L2.upd H p o) := by
  have e : Ext K f H f (L2.upd H p o) := Ext.upd0 (.inl hp)
  exact ⟨⟨r.len, r.nd, fun n c a h1 h2 => (r.cell n c a h1 h2).upd e (.inl hp) fun m z => (r.cell n c a h1 h2).some m (z ▸ hp)⟩, e⟩
/-- a new cell -/
theorem RelS.new (r : RelS K f st H) {p : Addr} {o : L2.HO} {c : C} (hp : H p = none) (hc : RC K (f ++ [p]) (L2.upd H p o) c p) : RelS K (f ++ [p]) (st ++ [c]) (L2.upd H p o) ∧ Ext K f H (f ++ [p]) (L2.upd H p o) := by
  have e : Ext K f H (f ++ [p]) (L2.upd H p o) := Ext.upd (.inl hp)
  have split : ∀ {n : Nat} {c' : C} {a : Addr}, (st ++ [c])[n]? = some c' → (f ++ [p])[n]? = some a → (n < st.length ∧ st[n]? = some c' ∧ f[n]? = some a) ∨ (n = st.length ∧ c' = c ∧ a = p) := fun {n c' a} h1 h2 => by
    have hl := r.len
    by_cases hn : n < st.length
    · rw [List.getElem?_append_left hn] at h1
      rw [List.getElem?_append_left (by rw [r.len]; exact hn)] at h2
      exact .inl ⟨hn, h1, h2⟩
    · rw [List.getElem?_append_right (by omega)] at h1
      rw [List.getElem?_append_right (by rw [r.len]; omega)] at h2
      have e0 : n - st.length = 0 := by
        have := (List.getElem?_eq_some_iff.mp h1).1
        simp at this; omega
      rw [e0] at h1
      rw [hl, e0] at h2
      simp at h1 h2
      exact .inr ⟨by omega, h1.symm, h2.symm⟩
  refine ⟨⟨by simp [r.len], fun n m c1 c2 a h1 h2 m1 m2 h3 h4 => ?_, fun n c' a h1 h2 => ?_⟩, e⟩
  · rcases split h1 h3 with ⟨l1, s1, t1⟩ | ⟨l1, rfl, rfl⟩ <;> rcases split h2 h4 with ⟨l2, s2, t2⟩ | ⟨l2, rfl, e2⟩
    · exact r.nd n m c1 c2 a s1 s2 m1 m2 t1 t2
    · subst e2
      exact absurd hp ((r.cell n c1 _ s1 t1).some m1)
    · exact absurd hp ((r.cell m c2 _ s2 t2).some m2)
    · omega
  · rcases split h1 h2 with ⟨l1, s1, t1⟩ | ⟨l1, rfl, rfl⟩
    · exact (r.cell n c' a s1 t1).upd e (.inl hp) fun m z => (r.cell n c' a s1 t1).some m (z ▸ hp)
    · exact hc
/-- a cell is changed -/
theorem RelS.chg (r : RelS K f st H) {p : Addr} {n : Nat} {c c' : C} {o : L2.HO} (hs : st[n]? = some c) (hm : mutC c = true) (hn : f[n]? = some p) (hp : Wr H p) (hm' : mutC c' = true) (hd : RC K f (L2.upd H p o) c' p) :
    RelS K f (st.set n c') (L2.upd H p o) ∧ Ext K f H f (L2.upd H p o) := by
  have e : Ext K f H f (L2.upd H p o) := Ext.upd0 hp
  have hl : n < st.length := (List.getElem?_eq_some_iff.mp hs).1
  have split : ∀ {m : Nat} {d : C}, (st.set n c')[m]? = some d → (m = n ∧ d = c') ∨ (m ≠ n ∧ st[m]? = some d) := fun {m d} h => by
    by_cases hmn : m = n
    · subst hmn
      rw [List.getElem?_set_self hl] at h
      cases h
      exact .inl ⟨rfl, rfl⟩
    · rw [List.getElem?_set_ne (Ne.symm hmn)] at h
      exact .inr ⟨hmn, h⟩
  refine ⟨⟨by simp [r.len], fun i j c1 c2 a h1 h2 m1 m2 h3 h4 => ?_, fun m d a h1 h2 => ?_⟩, e⟩
  · rcases split h1 with ⟨rfl, rfl⟩ | ⟨n1, s1⟩ <;> rcases split h2 with ⟨rfl, rfl⟩ | ⟨n2, s2⟩
    · rfl
    · exact r.nd _ _ _ _ a hs s2 hm m2 h3 h4
    · exact r.nd _ _ _ _ a s1 hs m1 hm h3 h4
    · exact r.nd _ _ _ _ a s1 s2 m1 m2 h3 h4
  · rcases split h1 with ⟨rfl, rfl⟩ | ⟨n1, s1⟩
    · rw [hn] at h2; cases h2
      exact hd
    · exact (r.cell m d a s1 h2).upd e hp fun md z => by
        subst z
        exact n1 (r.nd _ _ _ _ a s1 hs md hm h2 hn)
end
end Pd
end PartPdSoundA

section PartPdSoundB
set_option Elab.async false
set_option linter.all false
set_option maxRecDepth 100000
set_option maxHeartbeats 1000000
/-! Pd over the hand layer: lifting, expressions. Own work. -/
namespace Pd
open PySem PySem.Spec

/-! ### what is wanted, lifted -/
def LQ (K : Kf) (f : List Addr) (H : Hp) (Q' : Pd.K) (Q : L2.VK) : Prop :=
  ∀ (d : D) (st' : Store) (v : L2.V) (f' : List Addr) (H' : Hp), Q' d st' → Ext K f H f' H' → RelS K f' st' H' → RD K f' H' d v → Q v H'
def LT (K : Kf) (f : List Addr) (H : Hp) (Q' : Bool → Store → Prop) (Q : Bool → Hp → Prop) : Prop :=
  ∀ (b : Bool) (st' : Store) (f' : List Addr) (H' : Hp), Q' b st' → Ext K f H f' H' → RelS K f' st' H' → Q b H'
def LA (K : Kf) (f : List Addr) (H : Hp) (Q' : List D → Store → Prop) (Q : List L2.V → Hp → Prop) : Prop :=
  ∀ (ds : List D) (st' : Store) (vs : List L2.V) (f' : List Addr) (H' : Hp), Q' ds st' → Ext K f H f' H' → RelS K f' st' H' → RDs K f' H' ds vs → Q vs H'
def lift (K : Kf) (t : TE) : L2.TE := fun σ H Q => ∃ f ρ st Q', Rel K f ρ st σ H ∧ t ρ st Q' ∧ LQ K f H Q' Q
def liftT (K : Kf) (t : TT) : L2.TT := fun σ H Q => ∃ f ρ st Q', Rel K f ρ st σ H ∧ t ρ st Q' ∧ LT K f H Q' Q
def liftA (K : Kf) (t : TA) : L2.TA := fun σ H Q => ∃ f ρ st Q', Rel K f ρ st σ H ∧ t ρ st Q' ∧ LA K f H Q' Q
abbrev PD (X : L2.Cx) (e : Expr) (t : TE) : Prop := L2.PE X e (lift X.K t)
abbrev PDT (X : L2.Cx) (e : Expr) (t : TT) : Prop := L2.PT X e (liftT X.K t)
abbrev PDA (X : L2.Cx) (es : List Expr) (t : TA) : Prop := L2.PA X es (liftA X.K t)
section
variable {X : L2.Cx} {K : Kf} {f f' : List Addr} {H H' : Hp} {st st' : Store} {ρ : Env} {σ : L2.St}
theorem pe_imp {e : Expr} {t t' : L2.TE} (h : L2.PE X e t) (m : ∀ σ H Q, t' σ H Q → t σ H Q) : L2.PE X e t' := ⟨fun pins s σ H Q I q => h.run pins s σ H Q I (m σ H Q q)⟩
theorem pt_imp {e : Expr} {t t' : L2.TT} (h : L2.PT X e t) (m : ∀ σ H Q, t' σ H Q → t σ H Q) : L2.PT X e t' := ⟨fun pins s σ H Q I q => h.run pins s σ H Q I (m σ H Q q)⟩
theorem pa_imp {e : List Expr} {t t' : L2.TA} (h : L2.PA X e t) (m : ∀ σ H Q, t' σ H Q → t σ H Q) : L2.PA X e t' := ⟨fun pos pins s σ H Q I q => h.run pos pins s σ H Q I (m σ H Q q)⟩
theorem LQ.later {Q' : Pd.K} {Q : L2.VK} (l : LQ K f H Q' Q) (e : Ext K f H f' H') : LQ K f' H' Q' Q := fun d st' v f2 H2 q e2 s r => l d st' v f2 H2 q (e.trans e2) s r
theorem LQ.now {Q' : Pd.K} {Q : L2.VK} {d : D} {v : L2.V} (l : LQ K f H Q' Q) (s : RelS K f st H) (q : Q' d st) (r : RD K f H d v) : Q v H := l d st v f H q .refl s r
/-- a new tuple -/
theorem LQ.tup {Q' : Pd.K} {Q : L2.VK} {ds : List D} {vs : List L2.V} (l : LQ K f H Q' Q) (s : RelS K f st H) (q : Q' (.tup ds) st) (r : RDs K f H ds vs) {p : Addr} (hp : H p = none) : Q (.ref p) (L2.upd H p (.tup vs)) := by
  obtain ⟨s', e⟩ := s.lay (o := .tup vs) hp
  exact l _ st _ f _ q e s' (RD.tup.mpr ⟨p, vs, rfl, .of L2.upd_same, r.mono e⟩)
/-- a new list -/
theorem LQ.lst {Q' : Pd.K} {Q : L2.VK} {ds : List D} {vs : List L2.V} (l : LQ K f H Q' Q) (s : RelS K f st H) (q : Q' (.ref st.length) (st ++ [.lst ds])) (r : RDs K f H ds vs) {p : Addr} (hp : H p = none) : Q (.ref p) (L2.upd H p (.lst vs)) := by
  have e : Ext K f H (f ++ [p]) (L2.upd H p (.lst vs)) := Ext.upd (.inl hp)
  obtain ⟨s', e⟩ := s.new (o := .lst vs) (c := .lst ds) hp ⟨vs, L2.upd_same, r.mono e⟩
  exact l _ _ _ _ _ q e s' (RD.ref.mpr ⟨p, by rw [← s.len]; simp, rfl⟩)
/-- a changed list -/
theorem RelS.put {n : Nat} {a : Addr} {xs ds : List D} {vs ws : List L2.V} (s : RelS K f st H) (hn : f[n]? = some a) (h : Pd.rdL st n xs) (hH : H a = some (.lst vs)) (r : RDs K f H ds ws) :
    RelS K f (st.set n (.lst ds)) (L2.upd H a (.lst ws)) ∧ Ext K f H f (L2.upd H a (.lst ws)) :=
  s.chg (c := .lst xs) h rfl hn (.inr (.inl ⟨vs, hH⟩)) rfl ⟨ws, L2.upd_same, r.mono (Ext.upd0 (.inr (.inl ⟨vs, hH⟩)))⟩

/-! ### names, constants -/
theorem pd_var {i : Nat} {x : Str} {pos : Pos} (hN : X.N[i]? = some x) (hv : L2.Vis X.env.scope x := by first | exact .inl rfl | exact .inr (.inl rfl) | exact .inr (.inr rfl)) (hd : (x == ("__debug__" : Str)) = false := by decide) (hcd : (x == ("__classdict__" : Str)) = false := by decide) : PD X (.Name x pos) (dVar i) := by
  refine pe_imp (L2.pe_var hN hv hd hcd) fun σ H Q ⟨f, ρ, st, Q', R, ⟨d, h1, h2⟩, l⟩ => ?_
  obtain ⟨v, e, r⟩ := R.env i d h1
  exact ⟨v, e, l.now R.toRelS h2 r⟩
theorem pd_int {i : Int} {j pos} : PD X (.Constant (.int i) j pos) (dC (.int i)) := pe_imp L2.pe_int fun σ H Q ⟨f, ρ, st, Q', R, h, l⟩ => l.now R.toRelS h (RD.int.mpr rfl)
theorem pd_bl {b : Bool} {j pos} : PD X (.Constant (.bool b) j pos) (dC (.bl b)) := pe_imp L2.pe_bl fun σ H Q ⟨f, ρ, st, Q', R, h, l⟩ => l.now R.toRelS h (RD.bl.mpr rfl)
theorem pd_non {j pos} : PD X (.Constant .none j pos) (dC .non) := pe_imp L2.pe_non fun σ H Q ⟨f, ρ, st, Q', R, h, l⟩ => l.now R.toRelS h (RD.non.mpr rfl)
theorem pd_str {x : Str} {j pos} : PD X (.Constant (.str x) j pos) (dC (.str x)) := pe_imp L2.pe_str fun σ H Q ⟨f, ρ, st, Q', R, h, l⟩ => l.now R.toRelS h (RD.str.mpr rfl)
/-- a constant of the module: data -/
theorem pd_glob {x : Str} {d : D} {u : Value} {pos : Pos} (hg : L2.Gl X x) (hm : X.mg x = some u) (h : ∃ v, L2.RelV v u ∧ ∀ f H, RD X.K f H d v) (hd : (x == ("__debug__" : Str)) = false := by decide) : PD X (.Name x pos) (dC d) := by
  obtain ⟨v, r, hr⟩ := h
  exact pe_imp (L2.pe_glob hg hm r hd) fun σ H Q ⟨f, ρ, st, Q', R, h, l⟩ => l.now R.toRelS h (hr f H)

/-! ### operators -/
def Real2 (K : Kf) (r : L2.R2) (k : K2) : Prop := ∀ (f : List Addr) (st : Store) (H : Hp) (x y : D) (v w : L2.V) (Q' : Pd.K) (Q : L2.VK), RelS K f st H → RD K f H x v → RD K f H y w → k x y st Q' → LQ K f H Q' Q → r v w H Q
def Real1 (K : Kf) (r : L2.V → Hp → L2.VK → Prop) (k : D → Store → Pd.K → Prop) : Prop := ∀ (f : List Addr) (st : Store) (H : Hp) (x : D) (v : L2.V) (Q' : Pd.K) (Q : L2.VK), RelS K f st H → RD K f H x v → k x st Q' → LQ K f H Q' Q → r v H Q
theorem two_imp {r : L2.R2} {k : K2} {ta tb : TE} (hr : Real2 K r k) {Q : L2.VK} (h : lift K (dOp k ta tb) σ H Q) : L2.tOp r (lift K ta) (lift K tb) σ H Q := by
  obtain ⟨f, ρ, st, Q', R, h, l⟩ := h
  refine ⟨f, ρ, st, _, R, h, fun x st1 v f1 H1 h1 e1 s1 r1 => ⟨f1, ρ, st1, _, R.later e1 s1, h1, fun y st2 w f2 H2 h2 e2 s2 r2 => ?_⟩⟩
  exact hr f2 st2 H2 x y v w Q' Q s2 (r1.mono e2) r2 h2 (l.later (e1.trans e2))
section
variable {a b c : Expr} {ta tb tc : TE} {pos : Pos}
theorem pd_op {op : Operator} {r : L2.R2} {k : K2} (ho : L2.OpR X (binaryOp op) r) (hr : Real2 X.K r k) (ha : PD X a ta) (hb : PD X b tb) : PD X (.BinOp a op b pos) (dOp k ta tb) :=
  pe_imp (L2.pe_op ho ha hb) fun σ H Q h => two_imp hr h
theorem pd_un {op : UnaryOp} {r : L2.V → Hp → L2.VK → Prop} {k : D → Store → Pd.K → Prop} (ho : L2.UnR X (unaryOp op) r) (hr : Real1 X.K r k) (ha : PD X a ta) : PD X (.UnaryOp op a pos) (dUn k ta) := by
  refine pe_imp (L2.pe_un ho ha) fun σ H Q ⟨f, ρ, st, Q', R, h, l⟩ => ?_
  exact ⟨f, ρ, st, _, R, h, fun x st1 v f1 H1 h1 e1 s1 r1 => hr f1 st1 H1 x v Q' Q s1 r1 h1 (l.later e1)⟩
end
theorem real_int {g : Int → Int → Int} {C : Int → Int → Prop} {k : K2} (hk : ∀ x y st Q, k x y st Q → ∃ i j, x = .int i ∧ y = .int j ∧ C i j ∧ Q (.int (g i j)) st) : Real2 K (L2.rI C fun i j => .int (g i j)) k := by
  intro f st H x y v w Q' Q s r1 r2 h l
  obtain ⟨i, j, rfl, rfl, hc, q⟩ := hk x y st Q' h
  rw [RD.int] at r1 r2
  exact ⟨i, j, r1, r2, hc, l.now s q (RD.int.mpr rfl)⟩
theorem real_int0 {g : Int → Int → Int} {k : K2} (hk : ∀ x y st Q, k x y st Q → ∃ i j, x = .int i ∧ y = .int j ∧ Q (.int (g i j)) st) : Real2 K (L2.rI0 fun i j => .int (g i j)) k := by
  intro f st H x y v w Q' Q s r1 r2 h l
  obtain ⟨i, j, rfl, rfl, q⟩ := hk x y st Q' h
  rw [RD.int] at r1 r2
  exact ⟨i, j, r1, r2, l.now s q (RD.int.mpr rfl)⟩
/-- + -/
def rAdd (K : Kf) : L2.R2 := fun x y H Q => (∃ i j, x = .int i ∧ y = .int j ∧ Q (.int (i + j)) H) ∨ (∃ i j, x = .str i ∧ y = .str j ∧ i.length + j.length ≤ sizeLine ∧ Q (.str (i ++ j)) H) ∨ L2.rCatA K x y H Q ∨ L2.rCat x y H Q
theorem op_addA : L2.OpR X (binaryOp .Add) (rAdd X.K) := (L2.op_add (X := X)).or (L2.op_add_str.or (L2.op_catA.or L2.op_cat))
theorem RDs.isNil {ds : List D} {vs : List L2.V} (h : RDs K f H ds vs) : ds = [] ↔ vs = [] := by
  have := h.length
  constructor
  · rintro rfl; exact List.length_eq_zero_iff.mp (by simpa using this)
  · rintro rfl; exact List.length_eq_zero_iff.mp (by simpa using this.symm)
theorem real_add : Real2 K (rAdd K) addK := by
  intro f st H x y v w Q' Q s r1 r2 h l
  cases x <;> cases y <;> try (exact h.elim)
  · rw [RD.int] at r1 r2
    exact .inl ⟨_, _, r1, r2, l.now s h (RD.int.mpr rfl)⟩
  · rw [RD.str] at r1 r2
    obtain ⟨h1, h2⟩ := h
    exact .inr (.inl ⟨_, _, r1, r2, by rw [← szl_eq]; exact h1, l.now s h2 (RD.str.mpr rfl)⟩)
  · rw [RD.tup] at r1 r2
    obtain ⟨a, vs, rfl, t1, d1⟩ := r1
    obtain ⟨b, ws, rfl, t2, d2⟩ := r2
    obtain ⟨h1, h2⟩ := h
    refine .inr (.inr (.inl ⟨a, b, vs, ws, rfl, rfl, t1, t2, by rw [d1.length, d2.length, ← szl_eq]; exact h1, fun e => ?_, fun _ e => ?_, fun _ _ p hp => ?_⟩))
    · have e' := d1.isNil.mpr e
      subst e'
      exact l.now s h2 (RD.tup.mpr ⟨b, ws, rfl, t2, d2⟩)
    · have e' := d2.isNil.mpr e
      subst e'
      rw [List.append_nil] at h2
      exact l.now s h2 (RD.tup.mpr ⟨a, vs, rfl, t1, d1⟩)
    · exact l.tup s h2 (d1.append d2) hp
  · rw [RD.ref] at r1 r2
    obtain ⟨a, e1, rfl⟩ := r1
    obtain ⟨b, e2, rfl⟩ := r2
    obtain ⟨xs, ys, h1, h2, h3, h4⟩ := h
    obtain ⟨a', vs, g1, g2, g3⟩ := s.rdL h1
    obtain ⟨b', ws, k1, k2, k3⟩ := s.rdL h2
    rw [e1] at g1; cases g1
    rw [e2] at k1; cases k1
    exact .inr (.inr (.inr ⟨a, b, vs, ws, rfl, rfl, g2, k2, by rw [g3.length, k3.length, ← szl_eq]; exact h3, fun p hp => l.lst s h4 (g3.append k3) hp⟩))
theorem real_sub : Real2 K (L2.rI0 fun i j => .int (i - j)) subK := real_int0 fun x y st Q h => by
  cases x <;> cases y <;> first | exact h.elim | exact ⟨_, _, rfl, rfl, h⟩
def rMul : L2.R2 := fun x y H Q => L2.rI L2.CMul (fun i j => .int (i * j)) x y H Q ∨ L2.rRep x y H Q
theorem op_mulA : L2.OpR X (binaryOp .Mult) rMul := (L2.op_mul (X := X)).or L2.op_rep
theorem RDs.rep {ds : List D} {vs : List L2.V} (h : RDs K f H ds vs) : ∀ n : Nat, RDs K f H (List.replicate n ds).flatten (List.replicate n vs).flatten
  | 0 => by simp [RDs.nil]
  | n + 1 => by
    rw [List.replicate_succ, List.replicate_succ, List.flatten_cons, List.flatten_cons]
    exact h.append (RDs.rep h n)
theorem real_mul : Real2 K rMul mulK := by
  intro f st H x y v w Q' Q s r1 r2 h l
  cases x <;> cases y <;> try (exact h.elim)
  · rw [RD.int] at r1 r2
    obtain ⟨h1, h2⟩ := h
    exact .inl ⟨_, _, r1, r2, h1, l.now s h2 (RD.int.mpr rfl)⟩
  · rw [RD.ref] at r1
    rw [RD.int] at r2
    obtain ⟨a, e1, rfl⟩ := r1
    obtain ⟨xs, h1, h2, h3, h4, h5⟩ := h
    obtain ⟨a', vs, g1, g2, g3⟩ := s.rdL h1
    rw [e1] at g1; cases g1
    exact .inr ⟨a, _, vs, rfl, r2, g2, h2, h3, by rw [g3.length, ← szl_eq]; exact h4, fun p hp => l.lst s h5 (g3.rep _) hp⟩
theorem real_fdiv : Real2 K (L2.rI L2.CDiv fun i j => .int (i / j)) fdivK := real_int fun x y st Q h => by
  cases x <;> cases y <;> first | exact h.elim | exact ⟨_, _, rfl, rfl, h⟩
theorem real_mod : Real2 K (L2.rI (fun _ j => 0 < j) fun i j => .int (i % j)) modK := real_int fun x y st Q h => by
  cases x <;> cases y <;> first | exact h.elim | exact ⟨_, _, rfl, rfl, h⟩
theorem real_pow : Real2 K (L2.rI L2.CPow fun i j => .int (i ^ j.toNat)) powK := real_int fun x y st Q h => by
  cases x <;> cases y <;> first | exact h.elim | exact ⟨_, _, rfl, rfl, h⟩
theorem real_shl : Real2 K (L2.rI L2.CPow fun i j => .int (i * 2 ^ j.toNat)) shlK := real_int fun x y st Q h => by
  cases x <;> cases y <;> first | exact h.elim | exact ⟨_, _, rfl, rfl, h⟩
theorem real_shr : Real2 K (L2.rI (fun _ j => 0 ≤ j) fun i j => .int (i / 2 ^ j.toNat)) shrK := real_int fun x y st Q h => by
  cases x <;> cases y <;> first | exact h.elim | exact ⟨_, _, rfl, rfl, h⟩
theorem real_and : Real2 K (L2.rI0 fun i j => .int (Builtin.bitAnd i j)) andK := real_int0 fun x y st Q h => by
  cases x <;> cases y <;> first | exact h.elim | exact ⟨_, _, rfl, rfl, h⟩
theorem real_or : Real2 K (L2.rI0 fun i j => .int (Builtin.bitOr i j)) orK := real_int0 fun x y st Q h => by
  cases x <;> cases y <;> first | exact h.elim | exact ⟨_, _, rfl, rfl, h⟩
theorem real_xor : Real2 K (L2.rI0 fun i j => .int (Builtin.bitXor i j)) xorK := real_int0 fun x y st Q h => by
  cases x <;> cases y <;> first | exact h.elim | exact ⟨_, _, rfl, rfl, h⟩
theorem real_neg : Real1 K (L2.rU fun i => .int (-i)) negK := by
  intro f st H x v Q' Q s r1 h l
  cases x <;> try (exact h.elim)
  rw [RD.int] at r1
  exact ⟨_, r1, l.now s h (RD.int.mpr rfl)⟩
theorem real_inv : Real1 K (L2.rU fun i => .int (Builtin.bitNot i)) invK := by
  intro f st H x v Q' Q s r1 h l
  cases x <;> try (exact h.elim)
  rw [RD.int] at r1
  exact ⟨_, r1, l.now s h (RD.int.mpr rfl)⟩
section
variable {a b c : Expr} {ta tb tc : TE} {pos : Pos}
theorem pd_add (ha : PD X a ta) (hb : PD X b tb) : PD X (.BinOp a .Add b pos) (dOp addK ta tb) := pd_op op_addA real_add ha hb
theorem pd_sub (ha : PD X a ta) (hb : PD X b tb) : PD X (.BinOp a .Sub b pos) (dOp subK ta tb) := pd_op L2.op_sub real_sub ha hb
theorem pd_mul (ha : PD X a ta) (hb : PD X b tb) : PD X (.BinOp a .Mult b pos) (dOp mulK ta tb) := pd_op op_mulA real_mul ha hb
theorem pd_fdiv (ha : PD X a ta) (hb : PD X b tb) : PD X (.BinOp a .FloorDiv b pos) (dOp fdivK ta tb) := pd_op L2.op_fdiv real_fdiv ha hb
theorem pd_mod (ha : PD X a ta) (hb : PD X b tb) : PD X (.BinOp a .Mod b pos) (dOp modK ta tb) := pd_op L2.op_mod real_mod ha hb
theorem pd_pow (ha : PD X a ta) (hb : PD X b tb) : PD X (.BinOp a .Pow b pos) (dOp powK ta tb) := pd_op L2.op_pow real_pow ha hb
theorem pd_shl (ha : PD X a ta) (hb : PD X b tb) : PD X (.BinOp a .LShift b pos) (dOp shlK ta tb) := pd_op L2.op_shl real_shl ha hb
theorem pd_shr (ha : PD X a ta) (hb : PD X b tb) : PD X (.BinOp a .RShift b pos) (dOp shrK ta tb) := pd_op L2.op_shr real_shr ha hb
theorem pd_and (ha : PD X a ta) (hb : PD X b tb) : PD X (.BinOp a .BitAnd b pos) (dOp andK ta tb) := pd_op L2.op_and real_and ha hb
theorem pd_or (ha : PD X a ta) (hb : PD X b tb) : PD X (.BinOp a .BitOr b pos) (dOp orK ta tb) := pd_op L2.op_or real_or ha hb
theorem pd_xor (ha : PD X a ta) (hb : PD X b tb) : PD X (.BinOp a .BitXor b pos) (dOp xorK ta tb) := pd_op L2.op_xor real_xor ha hb
theorem pd_neg (ha : PD X a ta) : PD X (.UnaryOp .USub a pos) (dUn negK ta) := pd_un L2.un_neg real_neg ha
theorem pd_inv (ha : PD X a ta) : PD X (.UnaryOp .Invert a pos) (dUn invK ta) := pd_un L2.un_inv real_inv ha
end

/-! ### comparisons -/
mutual
def toP : D → PyData
  | .non => .none
  | .bl b => .bool b
  | .int i => .int i
  | .str x => .str x
  | .tup xs => .tuple (toPs xs)
  | .ref _ => .none
def toPs : List D → List PyData
  | [] => []
  | x :: xs => toP x :: toPs xs
end
theorem strOk_of {x : Str} (h : okS x = true) : PyData.strOk x = true := by
  unfold okS at h
  unfold PyData.strOk
  rw [← Array.all_toList]
  exact h
mutual
theorem toP_dp {n : Nat} : ∀ (d : D) {v : L2.V}, D.okd n d = true → RD K f H d v → L2.Dp K H v (toP d)
  | .non, _, _, h => by rw [RD.non] at h; subst h; exact .non
  | .bl b, _, _, h => by rw [RD.bl] at h; subst h; exact .bl b
  | .int i, _, _, h => by rw [RD.int] at h; subst h; exact .int i
  | .str x, _, _, h => by rw [RD.str] at h; subst h; exact .str x
  | .ref _, _, ok, h => by simp [D.okd] at ok
  | .tup xs, _, ok, h => by
    cases n with
    | zero => simp [D.okd] at ok
    | succ n =>
      rw [RD.tup] at h
      obtain ⟨a, vs, rfl, h1, h2⟩ := h
      exact .tup h1 (toPs_dp xs (n := n) (by simpa [D.okd] using ok) h2)
theorem toPs_dp {n : Nat} : ∀ (ds : List D) {vs : List L2.V}, okds n ds = true → RDs K f H ds vs → L2.DpAll K H vs (toPs ds)
  | [], _, _, h => by rw [RDs.nil] at h; subst h; exact .nil
  | d :: ds, _, ok, h => by
    rw [RDs.cons] at h
    obtain ⟨v, r, rfl, h1, h2⟩ := h
    have ok' : D.okd n d = true ∧ okds n ds = true := by simpa [okds] using ok
    exact .cons (toP_dp d ok'.1 h1) (toPs_dp ds ok'.2 h2)
end
mutual
theorem toP_ok {n : Nat} : ∀ (d : D), D.okd n d = true → (toP d).canLay0 = true ∧ (toP d).depth ≤ n
  | .non, _ => by simp [toP, PyData.canLay0, PyData.depth]
  | .bl b, _ => by simp [toP, PyData.canLay0, PyData.depth]
  | .int i, _ => by simp [toP, PyData.canLay0, PyData.depth]
  | .str x, ok => by
    have : okS x = true := by simpa [D.okd] using ok
    simp [toP, PyData.canLay0, PyData.depth, strOk_of this]
  | .ref _, ok => by simp [D.okd] at ok
  | .tup xs, ok => by
    cases n with
    | zero => simp [D.okd] at ok
    | succ n =>
      obtain ⟨h1, h2⟩ := toPs_ok xs (n := n) (by simpa [D.okd] using ok)
      simp [toP, PyData.canLay0, PyData.depth, h1, h2]
theorem toPs_ok {n : Nat} : ∀ (ds : List D), okds n ds = true → PyData.canLayAll0 (toPs ds) = true ∧ PyData.depthAll (toPs ds) ≤ n
  | [], _ => by simp [toPs, PyData.canLayAll0, PyData.depthAll]
  | d :: ds, ok => by
    have ok' : D.okd n d = true ∧ okds n ds = true := by simpa [okds] using ok
    obtain ⟨h1, h2⟩ := toP_ok d ok'.1
    obtain ⟨h3, h4⟩ := toPs_ok ds ok'.2
    simp [toPs, PyData.canLayAll0, PyData.depthAll, h1, h3]
    omega
end
theorem shaped_of {d : D} (h : D.okd 60 d = true) : SeqAt.shaped (toP d) = true := by
  obtain ⟨h1, h2⟩ := toP_ok d h
  unfold SeqAt.shaped
  rw [h1, decide_eq_true (by omega)]
  rfl
theorem shaped_ofs {ds : List D} (h : okds 60 ds = true) : SeqAt.shaped (.list (toPs ds)) = true := by
  obtain ⟨h1, h2⟩ := toPs_ok ds h
  have e1 : (PyData.list (toPs ds)).canLay0 = true := by simpa [PyData.canLay0] using h1
  have e2 : (PyData.list (toPs ds)).depth = PyData.depthAll (toPs ds) + 1 := by simp [PyData.depth]
  unfold SeqAt.shaped
  rw [e1, e2, decide_eq_true (by omega)]
  rfl
mutual
theorem toP_eqv {n m : Nat} : ∀ (d e : D), D.okd n d = true → D.okd m e = true → PyData.eqv (toP d) (toP e) = D.eqb d e
  | .tup xs, .tup ys, h1, h2 => by
    cases n with
    | zero => simp [D.okd] at h1
    | succ n =>
      cases m with
      | zero => simp [D.okd] at h2
      | succ m => simpa [toP, PyData.eqv, D.eqb] using toPs_eqv xs ys (n := n) (m := m) (by simpa [D.okd] using h1) (by simpa [D.okd] using h2)
  | .ref _, _, h1, _ => by simp [D.okd] at h1
  | d, .ref _, _, h2 => by simp [D.okd] at h2
  | .non, .non, _, _ => by simp [toP, PyData.eqv, D.eqb]
  | .non, .bl _, _, _ => by simp [toP, PyData.eqv, D.eqb]
  | .non, .int _, _, _ => by simp [toP, PyData.eqv, D.eqb]
  | .non, .str _, _, _ => by simp [toP, PyData.eqv, D.eqb]
  | .non, .tup _, _, _ => by simp [toP, PyData.eqv, D.eqb]
  | .bl _, .non, _, _ => by simp [toP, PyData.eqv, D.eqb]
  | .bl _, .bl _, _, _ => by simp [toP, PyData.eqv, D.eqb]
  | .bl b, .int _, _, _ => by cases b <;> simp [toP, PyData.eqv, D.eqb, b2i]
  | .bl _, .str _, _, _ => by simp [toP, PyData.eqv, D.eqb]
  | .bl _, .tup _, _, _ => by simp [toP, PyData.eqv, D.eqb]
  | .int _, .non, _, _ => by simp [toP, PyData.eqv, D.eqb]
  | .int _, .bl b, _, _ => by cases b <;> simp [toP, PyData.eqv, D.eqb, b2i]
  | .int _, .int _, _, _ => by simp [toP, PyData.eqv, D.eqb]
  | .int _, .str _, _, _ => by simp [toP, PyData.eqv, D.eqb]
  | .int _, .tup _, _, _ => by simp [toP, PyData.eqv, D.eqb]
  | .str _, .non, _, _ => by simp [toP, PyData.eqv, D.eqb]
  | .str _, .bl _, _, _ => by simp [toP, PyData.eqv, D.eqb]
  | .str _, .int _, _, _ => by simp [toP, PyData.eqv, D.eqb]
  | .str x, .str y, _, _ => by simp only [toP, PyData.eqv, D.eqb]; by_cases h : x = y <;> simp [h]
  | .str _, .tup _, _, _ => by simp [toP, PyData.eqv, D.eqb]
  | .tup _, .non, _, _ => by simp [toP, PyData.eqv, D.eqb]
  | .tup _, .bl _, _, _ => by simp [toP, PyData.eqv, D.eqb]
  | .tup _, .int _, _, _ => by simp [toP, PyData.eqv, D.eqb]
  | .tup _, .str _, _, _ => by simp [toP, PyData.eqv, D.eqb]
theorem toPs_eqv {n m : Nat} : ∀ (ds es : List D), okds n ds = true → okds m es = true → PyData.eqvAll (toPs ds) (toPs es) = eqbs ds es
  | [], [], _, _ => by simp [toPs, PyData.eqvAll, eqbs]
  | [], _ :: _, _, _ => by simp [toPs, PyData.eqvAll, eqbs]
  | _ :: _, [], _, _ => by simp [toPs, PyData.eqvAll, eqbs]
  | d :: ds, e :: es, h1, h2 => by
    have ok1 : D.okd n d = true ∧ okds n ds = true := by simpa [okds] using h1
    have ok2 : D.okd m e = true ∧ okds m es = true := by simpa [okds] using h2
    simp [toPs, PyData.eqvAll, eqbs, toP_eqv d e ok1.1 ok2.1, toPs_eqv ds es ok1.2 ok2.2]
end
/-- a comparison's rule against the data-level one -/
def RealC (K : Kf) (r : L2.R2) (k : KC) : Prop := ∀ (f : List Addr) (st : Store) (H : Hp) (x y : D) (v w : L2.V) (Q' : Bool → Prop) (Q : L2.VK), RelS K f st H → RD K f H x v → RD K f H y w → k x y st Q' → (∀ b, Q' b → Q (.bl b) H) → r v w H Q
theorem RealC.real {r : L2.R2} {k : KC} (h : RealC K r k) : Real2 K r fun x y st Q => k x y st fun b => Q (.bl b) st := fun f st H x y v w Q' Q s r1 r2 hk l =>
  h f st H x y v w _ Q s r1 r2 hk fun b q => l.now s q (RD.bl.mpr rfl)
theorem eqC_dp {x y : D} {v w : L2.V} {Q' : Bool → Prop} (s : RelS K f st H) (r1 : RD K f H x v) (r2 : RD K f H y w) (h : eqC x y st Q') :
    ∃ d e, L2.Dp K H v d ∧ L2.Dp K H w e ∧ SeqAt.shaped d = true ∧ SeqAt.shaped e = true ∧ Q' (PyData.eqv d e) := by
  have lst : ∀ {n : Nat} {xs : List D} {u : L2.V}, rdA st n xs → okds 60 xs = true → RD K f H (.ref n) u → L2.Dp K H u (.list (toPs xs)) := fun {n xs u} h1 h2 h3 => by
    rw [RD.ref] at h3
    obtain ⟨a, e1, rfl⟩ := h3
    obtain ⟨a', vs, g1, g2, g3⟩ := s.rdA h1
    rw [e1] at g1; cases g1
    exact .lst g2 (toPs_dp xs h2 g3)
  have pur : ∀ {x y : D} {v w : L2.V}, RD K f H x v → RD K f H y w → (D.okd 60 x = true ∧ D.okd 60 y = true ∧ Q' (D.eqb x y)) → ∃ d e, L2.Dp K H v d ∧ L2.Dp K H w e ∧ SeqAt.shaped d = true ∧ SeqAt.shaped e = true ∧ Q' (PyData.eqv d e) := fun {x y v w} r1 r2 ⟨h1, h2, h3⟩ =>
    ⟨toP x, toP y, toP_dp x h1 r1, toP_dp y h2 r2, shaped_of h1, shaped_of h2, by rw [toP_eqv x y h1 h2]; exact h3⟩
  have lefts : ∀ {n : Nat} {xs : List D} {y : D}, (∀ m, y ≠ .ref m) → rdA st n xs → okds 60 xs = true → D.okd 60 y = true → Q' false → RD K f H (.ref n) v → RD K f H y w → ∃ d e, L2.Dp K H v d ∧ L2.Dp K H w e ∧ SeqAt.shaped d = true ∧ SeqAt.shaped e = true ∧ Q' (PyData.eqv d e) := fun {n xs y} hy h1 h2 h3 h4 r1 r2 =>
    ⟨_, toP y, lst h1 h2 r1, toP_dp y h3 r2, shaped_ofs h2, shaped_of h3, by
      have : PyData.eqv (.list (toPs xs)) (toP y) = false := by
        cases y <;> first | exact absurd rfl (hy _) | simp [toP, PyData.eqv]
      rw [this]; exact h4⟩
  have rights : ∀ {n : Nat} {xs : List D} {x : D}, (∀ m, x ≠ .ref m) → rdA st n xs → okds 60 xs = true → D.okd 60 x = true → Q' false → RD K f H x v → RD K f H (.ref n) w → ∃ d e, L2.Dp K H v d ∧ L2.Dp K H w e ∧ SeqAt.shaped d = true ∧ SeqAt.shaped e = true ∧ Q' (PyData.eqv d e) := fun {n xs x} hy h1 h2 h3 h4 r1 r2 =>
    ⟨toP x, _, toP_dp x h3 r1, lst h1 h2 r2, shaped_of h3, shaped_ofs h2, by
      have : PyData.eqv (toP x) (.list (toPs xs)) = false := by
        cases x <;> first | exact absurd rfl (hy _) | simp [toP, PyData.eqv]
      rw [this]; exact h4⟩
  by_cases hx : ∃ m, x = .ref m
  · obtain ⟨m, rfl⟩ := hx
    by_cases hy : ∃ n, y = .ref n
    · obtain ⟨n, rfl⟩ := hy
      obtain ⟨xs, ys, h1, h2, h3, h4, h5⟩ := h
      exact ⟨_, _, lst h1 h3 r1, lst h2 h4 r2, shaped_ofs h3, shaped_ofs h4, by rw [show PyData.eqv (.list (toPs xs)) (.list (toPs ys)) = PyData.eqvAll (toPs xs) (toPs ys) by simp [PyData.eqv], toPs_eqv xs ys h3 h4]; exact h5⟩
    · have h' : ∃ xs, rdA st m xs ∧ okds 60 xs = true ∧ D.okd 60 y = true ∧ Q' false := by
        cases y <;> first | exact h | exact absurd ⟨_, rfl⟩ hy
      obtain ⟨xs, h1, h2, h3, h4⟩ := h'
      exact lefts (fun k e => hy ⟨k, e⟩) h1 h2 h3 h4 r1 r2
  · by_cases hy : ∃ n, y = .ref n
    · obtain ⟨n, rfl⟩ := hy
      have h' : ∃ ys, rdA st n ys ∧ okds 60 ys = true ∧ D.okd 60 x = true ∧ Q' false := by
        cases x <;> first | exact h | exact absurd ⟨_, rfl⟩ hx
      obtain ⟨xs, h1, h2, h3, h4⟩ := h'
      exact rights (fun k e => hx ⟨k, e⟩) h1 h2 h3 h4 r1 r2
    · exact pur r1 r2 (by cases x <;> cases y <;> first | exact h | exact absurd ⟨_, rfl⟩ hx | exact absurd ⟨_, rfl⟩ hy)
theorem real_eq : RealC K (L2.rEqD K) eqC := fun f st H x y v w Q' Q s r1 r2 h l => by
  obtain ⟨d, e, h1, h2, h3, h4, h5⟩ := eqC_dp s r1 r2 h
  exact ⟨d, e, h1, h2, h3, h4, l _ h5⟩
theorem real_ne : RealC K (L2.rNeD K) neC := fun f st H x y v w Q' Q s r1 r2 h l => by
  obtain ⟨d, e, h1, h2, h3, h4, h5⟩ := eqC_dp s r1 r2 h
  exact ⟨d, e, h1, h2, h3, h4, l _ h5⟩
theorem real_cmp {g : Int → Int → Bool} {k : KC} (hk : ∀ x y st Q, k x y st Q → ∃ i j, x = .int i ∧ y = .int j ∧ Q (g i j)) : RealC K (L2.rI0 fun i j => .bl (g i j)) k := by
  intro f st H x y v w Q' Q s r1 r2 h l
  obtain ⟨i, j, rfl, rfl, q⟩ := hk x y st Q' h
  rw [RD.int] at r1 r2
  exact ⟨i, j, r1, r2, l _ q⟩
theorem real_lt : RealC K (L2.rI0 fun i j => .bl (decide (i < j))) ltC := real_cmp fun x y st Q h => by
  cases x <;> cases y <;> first | exact h.elim | exact ⟨_, _, rfl, rfl, h⟩
theorem real_le : RealC K (L2.rI0 fun i j => .bl (decide (i ≤ j))) leC := real_cmp fun x y st Q h => by
  cases x <;> cases y <;> first | exact h.elim | exact ⟨_, _, rfl, rfl, h⟩
theorem real_gt : RealC K (L2.rI0 fun i j => .bl (decide (j < i))) gtC := real_cmp fun x y st Q h => by
  cases x <;> cases y <;> first | exact h.elim | exact ⟨_, _, rfl, rfl, h⟩
theorem real_ge : RealC K (L2.rI0 fun i j => .bl (decide (j ≤ i))) geC := real_cmp fun x y st Q h => by
  cases x <;> cases y <;> first | exact h.elim | exact ⟨_, _, rfl, rfl, h⟩
theorem RD.isNon {x : D} {v : L2.V} (h : RD K f H x v) : decide (v = .non) = isNon x := by
  cases x with
  | non => rw [RD.non] at h; subst h; rfl
  | bl b => rw [RD.bl] at h; subst h; rfl
  | int i => rw [RD.int] at h; subst h; rfl
  | str y => rw [RD.str] at h; subst h; rfl
  | tup ds => rw [RD.tup] at h; obtain ⟨a, vs, rfl, _⟩ := h; rfl
  | ref n => rw [RD.ref] at h; obtain ⟨a, _, rfl⟩ := h; rfl
theorem real_is : RealC K (fun x y H Q => y = .non ∧ Q (.bl (decide (x = .non))) H) isC := fun f st H x y v w Q' Q s r1 r2 h l => by
  cases y <;> try (cases x <;> exact h.elim)
  rw [RD.non] at r2
  have h' : Q' (isNon x) := by cases x <;> exact h
  exact ⟨r2, by rw [r1.isNon]; exact l _ h'⟩
theorem real_isnt : RealC K (fun x y H Q => y = .non ∧ Q (.bl (!decide (x = .non))) H) isntC := fun f st H x y v w Q' Q s r1 r2 h l => by
  cases y <;> try (cases x <;> exact h.elim)
  rw [RD.non] at r2
  have h' : Q' (!isNon x) := by cases x <;> exact h
  exact ⟨r2, by rw [r1.isNon]; exact l _ h'⟩
theorem RD.flatV {x : D} {v : L2.V} (h : RD K f H x v) (hf : x.flat = true) : L2.flatV v = true := by
  cases x with
  | non => rw [RD.non] at h; subst h; rfl
  | bl b => rw [RD.bl] at h; subst h; rfl
  | int i => rw [RD.int] at h; subst h; rfl
  | str y => rw [RD.str] at h; subst h; rfl
  | tup ds => cases hf
  | ref n => cases hf
theorem RDs.flatV : ∀ {xs : List D} {vs : List L2.V}, RDs K f H xs vs → xs.all D.flat = true → vs.all L2.flatV = true
  | [], _, h, _ => by rw [RDs.nil] at h; subst h; rfl
  | x :: xs, _, h, hf => by
    rw [RDs.cons] at h
    obtain ⟨v, r, rfl, h1, h2⟩ := h
    have hf' : x.flat = true ∧ xs.all D.flat = true := by simpa using hf
    rw [List.all_cons, h1.flatV hf'.1, RDs.flatV h2 hf'.2]; rfl
end
end Pd
end PartPdSoundB

section PartPdSoundC
set_option Elab.async false
set_option linter.all false
set_option maxRecDepth 100000
set_option maxHeartbeats 1000000
/-! Pd over the hand layer: tests, items, slices, calls, built-ins. Own work. -/
namespace Pd
open PySem PySem.Spec
section
variable {X : L2.Cx} {K : Kf} {f f' : List Addr} {H H' : Hp} {st st' : Store} {ρ : Env} {σ : L2.St}
theorem b2i_eq (b : Bool) : b2i b = (if b then 1 else 0) := rfl
theorem RD.eqV {x y : D} {v w : L2.V} (h : RD K f H x v) (h' : RD K f H y w) (hx : x.flat = true) (hy : y.flat = true) : L2.eqV v w = D.eqb x y := by
  cases x <;> cases y <;> first | (exfalso; revert hx; simp [D.flat]; done) | (exfalso; revert hy; simp [D.flat]; done) | skip
  all_goals (simp only [RD.non, RD.bl, RD.int, RD.str] at h h'; subst h; subst h'; simp [L2.eqV, D.eqb, b2i])
  rename_i s t
  by_cases e : s = t <;> simp [e]
theorem RDs.inV {y : D} {w : L2.V} (h' : RD K f H y w) (hy : y.flat = true) : ∀ {xs : List D} {vs : List L2.V}, RDs K f H xs vs → xs.all D.flat = true → L2.inV w vs = xs.any fun x => D.eqb x y
  | [], _, h, _ => by rw [RDs.nil] at h; subst h; rfl
  | x :: xs, _, h, hf => by
    rw [RDs.cons] at h
    obtain ⟨v, r, rfl, h1, h2⟩ := h
    have hf' : x.flat = true ∧ xs.all D.flat = true := by simpa using hf
    have ih := RDs.inV h' hy h2 hf'.2
    unfold L2.inV at ih ⊢
    rw [List.any_cons, List.any_cons, ih, h1.eqV h' hf'.1 hy]
theorem real_in (neg : Bool) : RealC K (L2.rIn K neg) (fun x y st Q => inC x y st fun b => Q (if neg then !b else b)) := fun f st H x y v w Q' Q s r1 r2 h l => by
  cases y <;> try (exact h.elim)
  · rw [RD.tup] at r2
    obtain ⟨a, vs, rfl, t, d⟩ := r2
    obtain ⟨h1, h2, h3⟩ := h
    refine ⟨a, vs, rfl, .inr t, r1.flatV h1, d.flatV h2, ?_⟩
    rw [RDs.inV r1 h1 d h2]
    exact l _ h3
  · rw [RD.ref] at r2
    obtain ⟨a, e, rfl⟩ := r2
    obtain ⟨xs, h0, h1, h2, h3⟩ := h
    obtain ⟨a', vs, g1, g2, g3⟩ := s.rdA h0
    rw [e] at g1; cases g1
    refine ⟨a, vs, rfl, .inl g2, r1.flatV h1, g3.flatV h2, ?_⟩
    rw [RDs.inV r1 h1 g3 h2]
    exact l _ h3
section
variable {a b c : Expr} {ta tb tc : TE} {pos : Pos}
theorem pd_cmp {op : CmpOp} {r : L2.R2} {k : KC} (ho : L2.OpR X (compareOp op) r) (hr : RealC X.K r k) (hm : behindInMarks op b = false) (ha : PD X a ta) (hb : PD X b tb) : PD X (.Compare a [op] [b] pos) (dCmp k ta tb) :=
  pe_imp (L2.pe_cmpR ho ha hb hm) fun σ H Q h => two_imp hr.real h
theorem pt_cmp {op : CmpOp} {r : L2.R2} {k : KC} (ho : L2.OpR X (compareOp op) r) (hr : RealC X.K r k) (hm : behindInMarks op b = false) (ha : PD X a ta) (hb : PD X b tb) : PDT X (.Compare a [op] [b] pos) (tTru (dCmp k ta tb)) := by
  refine pt_imp (L2.pt_cmpR ho ha hb hm) fun σ H Q ⟨f, ρ, st, Q', R, h, l⟩ => ?_
  refine ⟨f, ρ, st, _, R, h, fun x st1 v f1 H1 h1 e1 s1 r1 => ⟨f1, ρ, st1, _, R.later e1 s1, h1, fun y st2 w f2 H2 h2 e2 s2 r2 => ?_⟩⟩
  exact hr f2 st2 H2 x y v w (fun b => Q' b st2) _ s2 (r1.mono e2) r2 h2 fun b q => ⟨b, rfl, l b st2 f2 H2 q (e1.trans e2) s2⟩
theorem chain_core {r r' : L2.R2} {k k' : KC} (hr : RealC K r k) (hr' : RealC K r' k') {Q' : Bool → Store → Prop} {Q : L2.VK} {f : List Addr} {ρ : Env} {st : Store}
    (R : Rel K f ρ st σ H) (h : ta ρ st fun x st1 => tb ρ st1 fun y st2 => k x y st2 fun b => (b = true → tc ρ st2 fun z st3 => k' y z st3 fun b' => Q' b' st3) ∧ (b = false → Q' false st2))
    (l : ∀ b st' f' H', Q' b st' → Ext K f H f' H' → RelS K f' st' H' → Q (.bl b) H') : L2.tChain r r' (lift K ta) (lift K tb) (lift K tc) σ H Q := by
  refine ⟨f, ρ, st, _, R, h, fun x st1 v f1 H1 h1 e1 s1 r1 => ⟨f1, ρ, st1, _, R.later e1 s1, h1, fun y st2 w f2 H2 h2 e2 s2 r2 => ?_⟩⟩
  refine hr f2 st2 H2 x y v w _ _ s2 (r1.mono e2) r2 h2 fun b q => ⟨b, rfl, ?_⟩
  cases b with
  | false => exact l false st2 f2 H2 (q.2 rfl) (e1.trans e2) s2
  | true => exact ⟨f2, ρ, st2, _, R.later (e1.trans e2) s2, q.1 rfl, fun z st3 u f3 H3 h3 e3 s3 r3 => hr' f3 st3 H3 y z w u (fun b' => Q' b' st3) _ s3 (r2.mono e3) r3 h3 fun b' q' => l b' st3 f3 H3 q' ((e1.trans e2).trans e3) s3⟩
theorem pd_chain {op op' : CmpOp} {r r' : L2.R2} {k k' : KC} (ho : L2.OpR X (compareOp op) r) (hr : RealC X.K r k) (ho' : L2.OpR X (compareOp op') r') (hr' : RealC X.K r' k') (ha : PD X a ta) (hb : PD X b tb) (hc : PD X c tc)
    (hm : lastMarks [op, op'] [b, c] = false := by with_unfolding_all rfl) : PD X (.Compare a [op, op'] [b, c] pos) (dChain k k' ta tb tc) := by
  refine pe_imp (L2.pe_chain ho ho' ha hb hc hm) fun σ H Q ⟨f, ρ, st, Q', R, h, l⟩ => ?_
  exact chain_core hr hr' (Q' := fun b st => Q' (.bl b) st) R h fun b st' f' H' q e s => l (.bl b) st' _ f' H' q e s (RD.bl.mpr rfl)
theorem pt_chain {op op' : CmpOp} {r r' : L2.R2} {k k' : KC} (ho : L2.OpR X (compareOp op) r) (hr : RealC X.K r k) (ho' : L2.OpR X (compareOp op') r') (hr' : RealC X.K r' k') (ha : PD X a ta) (hb : PD X b tb) (hc : PD X c tc)
    (hm : lastMarks [op, op'] [b, c] = false := by with_unfolding_all rfl) : PDT X (.Compare a [op, op'] [b, c] pos) (tTru (dChain k k' ta tb tc)) := by
  refine pt_imp (L2.pt_chain ho ho' ha hb hc hm) fun σ H Q ⟨f, ρ, st, Q', R, h, l⟩ => ?_
  exact chain_core (Q := fun x H' => ∃ k, x = .bl k ∧ Q k H') hr hr' (Q' := Q') R h fun b st' f' H' q e s => ⟨b, rfl, l b st' f' H' q e s⟩

/-! ### truth -/
theorem tru_of {x : D} {v : L2.V} {Q' : Bool → Prop} (s : RelS K f st H) (r : RD K f H x v) (h : truK x st Q') : ∃ k, L2.TruV K v H k ∧ Q' k := by
  cases x with
  | non => rw [RD.non] at r; subst r; exact ⟨_, rfl, h⟩
  | bl b => rw [RD.bl] at r; subst r; exact ⟨_, rfl, h⟩
  | int i => rw [RD.int] at r; subst r; exact ⟨_, rfl, h⟩
  | str y => rw [RD.str] at r; subst r; exact ⟨_, ⟨by rw [← szl_eq]; exact h.1, rfl⟩, h.2⟩
  | tup xs =>
    rw [RD.tup] at r
    obtain ⟨a, vs, rfl, t, d⟩ := r
    refine ⟨_, .inr (.inl ⟨vs, t, rfl⟩), ?_⟩
    have : vs.isEmpty = xs.isEmpty := by
      cases xs with
      | nil => rw [RDs.nil] at d; subst d; rfl
      | cons x xs => rw [RDs.cons] at d; obtain ⟨_, _, rfl, _⟩ := d; rfl
    rw [this]; exact h
  | ref n =>
    rw [RD.ref] at r
    obtain ⟨a, e, rfl⟩ := r
    obtain ⟨xs, h1, h2⟩ := h
    obtain ⟨a', vs, g1, g2, d⟩ := s.rdA h1
    rw [e] at g1; cases g1
    refine ⟨_, .inl ⟨vs, g2, rfl⟩, ?_⟩
    have : vs.isEmpty = xs.isEmpty := by
      cases xs with
      | nil => rw [RDs.nil] at d; subst d; rfl
      | cons x xs => rw [RDs.cons] at d; obtain ⟨_, _, rfl, _⟩ := d; rfl
    rw [this]; exact h2
theorem pt_tru (ha : PD X a ta) (he : ∀ whole, isTrue a X.env whole = (do let v ← whole; standAt a.pos; holding [v] (truthy v)) := by intro _; rfl) : PDT X a (tTru ta) := by
  refine pt_imp (L2.pt_truth ha he) fun σ H Q ⟨f, ρ, st, Q', R, h, l⟩ => ?_
  refine ⟨f, ρ, st, _, R, h, fun x st1 v f1 H1 h1 e1 s1 r1 => ?_⟩
  obtain ⟨k, t, q⟩ := tru_of s1 r1 h1
  exact ⟨k, t, l k st1 f1 H1 q e1 s1⟩
abbrev PDW (X : L2.Cx) (e : Expr) (t : TT) : Prop := L2.PW X e (liftT X.K t)
theorem ptw {e : Expr} {t : TT} (h : PDW X e t) : PDT X e t := L2.PW.pt h
theorem pw_imp {e : Expr} {t t' : L2.TT} (h : L2.PW X e t) (m : ∀ σ H Q, t' σ H Q → t σ H Q) : L2.PW X e t' := ⟨fun whole pins s σ H Q I q => h.run whole pins s σ H Q I (m σ H Q q)⟩
variable {es : List Expr} {tA tB tC : TT}
theorem pw_and1 (ha : PDT X a tA) : PDW X (.BoolOp .And [a] pos) tA := L2.pw_and1 ha
theorem pw_or1 (ha : PDT X a tA) : PDW X (.BoolOp .Or [a] pos) tA := L2.pw_or1 ha
theorem pw_and (ha : PDT X a tA) (hb : PDW X (.BoolOp .And (b :: es) pos) tB) : PDW X (.BoolOp .And (a :: b :: es) pos) (tAnd tA tB) :=
  pw_imp (L2.pw_and ha hb) fun σ H Q ⟨f, ρ, st, Q', R, h, l⟩ => ⟨f, ρ, st, _, R, h, fun c st1 f1 H1 h1 e1 s1 => by
    cases c with
    | false => exact l false st1 f1 H1 (h1.2 rfl) e1 s1
    | true => exact ⟨f1, ρ, st1, Q', R.later e1 s1, h1.1 rfl, fun b st2 f2 H2 q e2 s2 => l b st2 f2 H2 q (e1.trans e2) s2⟩⟩
theorem pw_or (ha : PDT X a tA) (hb : PDW X (.BoolOp .Or (b :: es) pos) tB) : PDW X (.BoolOp .Or (a :: b :: es) pos) (tOr tA tB) :=
  pw_imp (L2.pw_or ha hb) fun σ H Q ⟨f, ρ, st, Q', R, h, l⟩ => ⟨f, ρ, st, _, R, h, fun c st1 f1 H1 h1 e1 s1 => by
    cases c with
    | true => exact l true st1 f1 H1 (h1.1 rfl) e1 s1
    | false => exact ⟨f1, ρ, st1, Q', R.later e1 s1, h1.2 rfl, fun b st2 f2 H2 q e2 s2 => l b st2 f2 H2 q (e1.trans e2) s2⟩⟩
theorem pt_not (ha : PDT X a tA) : PDT X (.UnaryOp .Not a pos) (tNot tA) :=
  pt_imp (L2.pt_not ha) fun σ H Q ⟨f, ρ, st, Q', R, h, l⟩ => ⟨f, ρ, st, _, R, h, fun c st1 f1 H1 h1 e1 s1 => l _ st1 f1 H1 h1 e1 s1⟩
theorem pd_one {op : BoolOp} (ha : PD X a ta) : PD X (.BoolOp op [a] pos) ta := L2.pe_one ha
theorem pd_and' (ha : PD X a ta) (hb : PD X (.BoolOp .And (b :: es) pos) tb) : PD X (.BoolOp .And (a :: b :: es) pos) (dAndT ta tb) :=
  pe_imp (L2.pe_andT ha hb) fun σ H Q ⟨f, ρ, st, Q', R, h, l⟩ => ⟨f, ρ, st, _, R, h, fun x st1 v f1 H1 h1 e1 s1 r1 => by
    obtain ⟨k, t, q⟩ := tru_of s1 r1 h1
    refine ⟨k, t, ?_⟩
    cases k with
    | false => exact l x st1 v f1 H1 (q.2 rfl) e1 s1 r1
    | true => exact ⟨f1, ρ, st1, Q', R.later e1 s1, q.1 rfl, l.later e1⟩⟩
theorem pd_or' (ha : PD X a ta) (hb : PD X (.BoolOp .Or (b :: es) pos) tb) : PD X (.BoolOp .Or (a :: b :: es) pos) (dOrT ta tb) :=
  pe_imp (L2.pe_orT ha hb) fun σ H Q ⟨f, ρ, st, Q', R, h, l⟩ => ⟨f, ρ, st, _, R, h, fun x st1 v f1 H1 h1 e1 s1 r1 => by
    obtain ⟨k, t, q⟩ := tru_of s1 r1 h1
    refine ⟨k, t, ?_⟩
    cases k with
    | true => exact l x st1 v f1 H1 (q.1 rfl) e1 s1 r1
    | false => exact ⟨f1, ρ, st1, Q', R.later e1 s1, q.2 rfl, l.later e1⟩⟩
theorem pd_not (ha : PD X a ta) : PD X (.UnaryOp .Not a pos) (dNotT ta) :=
  pe_imp (L2.pe_notT ha) fun σ H Q ⟨f, ρ, st, Q', R, h, l⟩ => ⟨f, ρ, st, _, R, h, fun x st1 v f1 H1 h1 e1 s1 r1 => by
    obtain ⟨k, t, q⟩ := tru_of s1 r1 h1
    exact ⟨k, t, l _ st1 _ f1 H1 q e1 s1 (RD.bl.mpr rfl)⟩⟩
theorem pd_if (hc : PDT X c tC) (ha : PD X a ta) (hb : PD X b tb) : PD X (.IfExp c a b pos) (dIf tC ta tb) :=
  pe_imp (L2.pe_ifExp hc ha hb) fun σ H Q ⟨f, ρ, st, Q', R, h, l⟩ => ⟨f, ρ, st, _, R, h, fun k st1 f1 H1 h1 e1 s1 => by
    cases k with
    | true => exact ⟨f1, ρ, st1, Q', R.later e1 s1, h1.1 rfl, l.later e1⟩
    | false => exact ⟨f1, ρ, st1, Q', R.later e1 s1, h1.2 rfl, l.later e1⟩⟩
/-- a test that is an if-expression -/
theorem pt_if {t1 t2 : TT} (hc : PDT X c tC) (ha : PDT X a t1) (hb : PDT X b t2) : PDT X (.IfExp c a b pos) (fun σ st Q => tC σ st fun k st1 => (k = true → t1 σ st1 Q) ∧ (k = false → t2 σ st1 Q)) := by
  refine ⟨fun pins s σ H Q I ⟨f, ρ, st, Q', R, h, l⟩ => ?_⟩
  show wpAny _ _ (do if ← isTrue c X.env (eval c X.env) then isTrue a X.env (eval a X.env) else isTrue b X.env (eval b X.env)) _ _ s
  refine wpAny_bind (L2.thn (hc.run pins s σ H (fun k H1 => (k = true → liftT X.K t1 σ H1 Q) ∧ (k = false → liftT X.K t2 σ H1 Q)) I ⟨f, ρ, st, _, R, h, fun k st1 f1 H1 h1 e1 s1 => ?_⟩) fun k s1 ⟨H1, I1, q⟩ => ?_)
  · exact ⟨fun e => ⟨f1, ρ, st1, Q', R.later e1 s1, h1.1 e, fun b st2 f2 H2 q e2 s2 => l b st2 f2 H2 q (e1.trans e2) s2⟩, fun e => ⟨f1, ρ, st1, Q', R.later e1 s1, h1.2 e, fun b st2 f2 H2 q e2 s2 => l b st2 f2 H2 q (e1.trans e2) s2⟩⟩
  · cases k with
    | true => exact ha.run pins s1 σ H1 Q I1 (q.1 rfl)
    | false => exact hb.run pins s1 σ H1 Q I1 (q.2 rfl)

/-! ### items and slices -/
theorem atD_at {α : Type} (xs : List α) (i : Int) : L2.atI xs i = atD xs i := by
  unfold L2.atI L2.ixN atD
  by_cases h : 0 ≤ i
  · rw [if_pos h, if_pos h]
    by_cases h2 : i < xs.length
    · rw [if_pos h2]; rfl
    · rw [if_neg h2]
      show none = _
      rw [List.getElem?_eq_none (by omega)]
  · rw [if_neg h, if_neg h]
    by_cases h2 : -(xs.length : Int) ≤ i
    · rw [if_pos h2, if_pos h2]; rfl
    · rw [if_neg h2, if_neg h2]; rfl
theorem RDs.atD {ds : List D} {vs : List L2.V} {i : Int} {d : D} (h : RDs K f H ds vs) (e : atD ds i = some d) : ∃ v, L2.atI vs i = some v ∧ RD K f H d v := by
  rw [atD_at]
  unfold Pd.atD at e ⊢
  rw [h.length]
  by_cases c : 0 ≤ i
  · rw [if_pos c] at e ⊢
    obtain ⟨v, h1, h2⟩ := h.get e; exact ⟨v, h1, h2⟩
  · rw [if_neg c] at e ⊢
    by_cases c2 : -(ds.length : Int) ≤ i
    · rw [if_pos c2] at e ⊢
      obtain ⟨v, h1, h2⟩ := h.get e; exact ⟨v, h1, h2⟩
    · rw [if_neg c2] at e; cases e
theorem real_ix : Real2 K (L2.rIx K) ixK := fun f st H x y v w Q' Q s r1 r2 h l => by
  cases x <;> cases y <;> try (exact h.elim)
  · rw [RD.str] at r1
    rw [RD.int] at r2
    obtain ⟨c, h1, h2, h3⟩ := h
    exact .inr (.inr ⟨_, _, c, r1, r2, by rw [← szl_eq]; exact h1, by rw [atD_at]; exact h2, l.now s h3 (RD.str.mpr rfl)⟩)
  · rw [RD.tup] at r1
    rw [RD.int] at r2
    obtain ⟨a, vs, rfl, t, d⟩ := r1
    obtain ⟨d', h1, h2⟩ := h
    obtain ⟨v, g1, g2⟩ := d.atD h1
    exact .inr (.inl ⟨a, vs, _, v, rfl, r2, t, g1, l.now s h2 g2⟩)
  · rw [RD.ref] at r1
    rw [RD.int] at r2
    obtain ⟨a, e, rfl⟩ := r1
    obtain ⟨xs, d', h0, h1, h2⟩ := h
    obtain ⟨a', vs, k1, k2, d⟩ := s.rdA h0
    rw [e] at k1; cases k1
    obtain ⟨v, g1, g2⟩ := d.atD h1
    exact .inl ⟨a, vs, _, v, rfl, r2, k2, g1, l.now s h2 g2⟩
theorem pd_ix (hs : L2.PlainIx b) (ha : PD X a ta) (hb : PD X b tb) : PD X (.Subscript a b pos) (dOp ixK ta tb) :=
  pe_imp (L2.pe_ix L2.ix_seq ha hb hs) fun σ H Q h => two_imp real_ix h
def liftO (K : Kf) (t : TO) : L2.TO := fun σ H Q => ∃ f ρ st Q', Rel K f ρ st σ H ∧ t ρ st Q' ∧ ∀ (o : Option Int) (st' : Store) (f' : List Addr) (H' : Hp), Q' o st' → Ext K f H f' H' → RelS K f' st' H' → Q o H'
abbrev PDO (X : L2.Cx) (e : Option Expr) (t : TO) : Prop := L2.PO X e (liftO X.K t)
theorem po_imp {e : Option Expr} {t t' : L2.TO} (h : L2.PO X e t) (m : ∀ σ H Q, t' σ H Q → t σ H Q) : L2.PO X e t' := ⟨fun pins s σ H Q I q => h.run pins s σ H Q I (m σ H Q q)⟩
theorem po_none : PDO X none oNone := po_imp L2.po_none fun σ H Q ⟨f, ρ, st, Q', R, h, l⟩ => l none st f H h .refl R.toRelS
theorem po_some (ha : PD X a ta) : PDO X (some a) (oSome ta) := po_imp (L2.po_some ha) fun σ H Q ⟨f, ρ, st, Q', R, h, l⟩ => ⟨f, ρ, st, _, R, h, fun x st1 v f1 H1 h1 e1 s1 r1 => by
    obtain ⟨i, rfl, q⟩ := h1
    rw [RD.int] at r1
    exact ⟨i, r1, l _ st1 f1 H1 q e1 s1⟩⟩
theorem sIx_cl (n d : Nat) (o : Option Int) : HT.sIx n d o = (o.map (cl n)).getD d := by
  cases o with
  | none => rfl
  | some i => rfl
theorem cut_eq (xs : List L2.V) (lo hi : Option Int) : L2.cutV xs lo hi = cutD xs lo hi := by
  unfold L2.cutV cutD
  rw [sIx_cl, sIx_cl]
theorem RDs.cut {ds : List D} {vs : List L2.V} (h : RDs K f H ds vs) (lo hi : Option Int) : RDs K f H (cutD ds lo hi) (cutD vs lo hi) := by
  unfold cutD
  rw [h.length]
  exact (h.drop _).take _
theorem cut_whole {α : Type} (xs : List α) (lo hi : Option Int) (h1 : HT.sIx xs.length 0 lo = 0) (h2 : HT.sIx xs.length xs.length hi = xs.length) : cutD xs lo hi = xs := by
  unfold cutD
  rw [← sIx_cl, ← sIx_cl, h1, h2]
  simp
def rSl (K : Kf) : L2.V → Option Int → Option Int → Hp → L2.VK → Prop := fun x lo hi H Q => L2.rSlL K x lo hi H Q ∨ L2.rSlA K x lo hi H Q
theorem pd_sl {lo hi : Option Expr} {tl th : TO} {p2 : Pos} (ha : PD X a ta) (hl : PDO X lo tl) (hh : PDO X hi th) : PD X (.Subscript a (.Slice lo hi none p2) pos) (dSl ta tl th) := by
  refine pe_imp (L2.pe_slice (r := rSl X.K) (L2.SlR.or L2.sl_list L2.sl_tupA) ha hl hh) fun σ H Q ⟨f, ρ, st, Q', R, h, l⟩ => ?_
  refine ⟨f, ρ, st, _, R, h, fun x st1 v f1 H1 h1 e1 s1 r1 => ⟨f1, ρ, st1, _, R.later e1 s1, h1, fun o st2 f2 H2 h2 e2 s2 => ⟨f2, ρ, st2, _, R.later (e1.trans e2) s2, h2, fun o' st3 f3 H3 h3 e3 s3 => ?_⟩⟩⟩
  have r1' := r1.mono (e2.trans e3)
  have l' := l.later ((e1.trans e2).trans e3)
  cases x <;> try (exact h3.elim)
  · rw [RD.tup] at r1'
    obtain ⟨a, vs, rfl, t, d⟩ := r1'
    refine .inr ⟨a, vs, rfl, t, fun ⟨w1, w2⟩ => ?_, fun _ p hp => ?_⟩
    · rw [d.length] at w1 w2
      refine l'.now s3 h3 (RD.tup.mpr ⟨a, vs, rfl, t, ?_⟩)
      rw [cut_whole _ _ _ w1 w2]
      exact d
    · rw [cut_eq]
      exact l'.tup s3 h3 (d.cut o o') hp
  · rw [RD.ref] at r1'
    obtain ⟨a, e, rfl⟩ := r1'
    obtain ⟨xs, g0, g1⟩ := h3
    obtain ⟨a', vs, k1, k2, d⟩ := s3.rdA g0
    rw [e] at k1; cases k1
    refine .inl ⟨a, vs, rfl, k2, fun p hp => ?_⟩
    rw [cut_eq]
    exact l'.lst s3 g1 (d.cut o o') hp

/-! ### arguments, displays -/
theorem pa_nil : PDA X [] aNil := pa_imp L2.pa_nil fun σ H Q ⟨f, ρ, st, Q', R, h, l⟩ => l [] st [] f H h .refl R.toRelS (RDs.nil.mpr rfl)
theorem pa_cons {ts : TA} (ha : PD X a ta) (hr : PDA X es ts) (hs : starEach (a :: es) X.env = (false, eval a X.env) :: starEach es X.env := by rfl) : PDA X (a :: es) (aCons ta ts) :=
  pa_imp (L2.pa_cons ha hr hs) fun σ H Q ⟨f, ρ, st, Q', R, h, l⟩ => ⟨f, ρ, st, _, R, h, fun x st1 v f1 H1 h1 e1 s1 r1 => ⟨f1, ρ, st1, _, R.later e1 s1, h1, fun xs st2 vs f2 H2 h2 e2 s2 r2 =>
    l (x :: xs) st2 (v :: vs) f2 H2 h2 (e1.trans e2) s2 (RDs.cons.mpr ⟨v, vs, rfl, r1.mono e2, r2⟩)⟩⟩
theorem pd_tup {ts : TA} {x1} (h : PDA X es ts) : PD X (.Tuple es x1 pos) (dTup ts) :=
  pe_imp (L2.pe_tup h) fun σ H Q ⟨f, ρ, st, Q', R, h, l⟩ => ⟨f, ρ, st, _, R, h, fun xs st1 vs f1 H1 h1 e1 s1 r1 => ⟨by rw [r1.length, ← szl_eq]; exact h1.1, fun p hp => (l.later e1).tup s1 h1.2 r1 hp⟩⟩
theorem pd_lst {ts : TA} (h : PDA X es ts) : PD X (.List es pos) (dLst ts) :=
  pe_imp (L2.pe_lst h) fun σ H Q ⟨f, ρ, st, Q', R, h, l⟩ => ⟨f, ρ, st, _, R, h, fun xs st1 vs f1 H1 h1 e1 s1 r1 => ⟨by rw [r1.length, ← szl_eq]; exact h1.1, fun p hp => (l.later e1).lst s1 h1.2 r1 hp⟩⟩

/-! ### own defs -/
def liftF (K : Kf) (n : Nat) (c : List D → Store → Pd.K → Prop) : L2.Sp := fun vs H Q _ => vs.length = n ∧ ∃ f st ds Q', RelS K f st H ∧ RDs K f H ds vs ∧ c ds st Q' ∧ LQ K f H Q' Q
/-- a def that may be called by its name -/
structure Own (P : Program) (w : World) (K : Kf) (mg : Str → Option Value) (base : Heap) (k : Nat) (x : Str) (c : List D → Store → Pd.K → Prop) : Prop where
  ex : ∃ (fa : Addr) (fd : FuncData) (ps : List Str), L2.FnOk P w K mg base L2.CX0 k fa fd ps (liftF K ps.length c) ∧ mg x = some (.ref fa) ∧ PySem.W.keepIn K (.ref fa) = true ∧ L2.Binds K fd ps [] ∧ (∀ ds st Q, c ds st Q → ds.length = ps.length)
theorem pd_call {x : Str} {p : Pos} {k : Nat} {ts : TA} {cl : Cl} {y : String} (o : Own X.prog X.w X.K X.mg X.base k x (cl y)) (hr : L2.Room k X.A) (hg : L2.Gl X x) (ha : PDA X (a :: es) ts) (hdb : (x == ("__debug__" : Str)) = false := by decide)
    (he : starEach (a :: es) X.env = (false, eval a X.env) :: starEach es X.env := by rfl) (hpl : (backTo pos (starEach es X.env)).any (·.1) = false := by rfl) : PD X (.Call (.Name x p) (a :: es) [] pos) (dCall cl y ts) := by
  obtain ⟨fa, fd, ps, F, hm, hk, hb, hlen⟩ := o.ex
  refine pe_imp (L2.pe_call (E := fun _ _ _ => False) F hr hg hm hk hb .nil L2.pass0 ha hdb he hpl) fun σ H Q ⟨f, ρ, st, Q', R, h, l⟩ => ?_
  refine ⟨f, ρ, st, _, R, h, fun xs st1 vs f1 H1 h1 e1 s1 r1 => ?_⟩
  show liftF X.K ps.length (cl y) (vs ++ []) H1 Q _
  rw [List.append_nil]
  exact ⟨r1.length.trans (hlen _ _ _ h1), f1, st1, xs, Q', s1, r1, h1, l.later e1⟩
theorem pd_call0 {x : Str} {p : Pos} {k : Nat} {cl : Cl} {y : String} (o : Own X.prog X.w X.K X.mg X.base k x (cl y)) (hr : L2.Room k X.A) (hg : L2.Gl X x) (hdb : (x == ("__debug__" : Str)) = false := by decide) : PD X (.Call (.Name x p) [] [] pos) (dCall cl y aNil) := by
  obtain ⟨fa, fd, ps, F, hm, hk, hb, hlen⟩ := o.ex
  refine pe_imp (L2.pe_call0 (E := fun _ _ _ => False) F hr hg hm hk hb .nil L2.pass0 hdb) fun σ H Q ⟨f, ρ, st, Q', R, h, l⟩ => ?_
  exact (show liftF X.K ps.length (cl y) ([] ++ []) H Q (fun _ _ _ => False) from ⟨hlen _ _ _ h, f, st, [], Q', R.toRelS, RDs.nil.mpr rfl, h, l⟩)

/-! ### built-ins -/
def RealB (K : Kf) (r : List L2.V → Hp → L2.VK → Prop) (k : KB) : Prop := ∀ (f : List Addr) (st : Store) (H : Hp) (xs : List D) (vs : List L2.V) (Q' : Pd.K) (Q : L2.VK), RelS K f st H → RDs K f H xs vs → k xs st Q' → LQ K f H Q' Q → r vs H Q
theorem pd_callB {x : Str} {p : Pos} {id : String} {r : List L2.V → Hp → L2.VK → Prop} {k : KB} {ts : TA} (hc : L2.CallR X (.builtin id) r) (hr : RealB X.K r k) (hg : L2.Gl X x) (hm : X.mg x = none) (hv : bootBuiltins x = some (.builtin id)) (ha : PDA X (a :: es) ts) (hn : x ≠ "__name__" := by decide) (hdb : (x == ("__debug__" : Str)) = false := by decide)
    (he : starEach (a :: es) X.env = (false, eval a X.env) :: starEach es X.env := by rfl) (hpl : (backTo pos (starEach es X.env)).any (·.1) = false := by rfl) : PD X (.Call (.Name x p) (a :: es) [] pos) (dB k ts) :=
  pe_imp (L2.pe_callB hc hg hm hv ha hn hdb he hpl) fun σ H Q ⟨f, ρ, st, Q', R, h, l⟩ => ⟨f, ρ, st, _, R, h, fun xs st1 vs f1 H1 h1 e1 s1 r1 => hr f1 st1 H1 xs vs Q' Q s1 r1 h1 (l.later e1)⟩
theorem pd_callTy {x : Str} {p : Pos} {T : String} {r : List L2.V → Hp → L2.VK → Prop} {k : KB} {ts : TA} (hc : L2.CallR X (.type T) r) (hr : RealB X.K r k) (hg : L2.Gl X x) (hm : X.mg x = none) (hv : bootBuiltins x = some (.type T)) (ha : PDA X (a :: es) ts) (hn : x ≠ "__name__" := by decide) (hdb : (x == ("__debug__" : Str)) = false := by decide)
    (he : starEach (a :: es) X.env = (false, eval a X.env) :: starEach es X.env := by rfl) (hpl : (backTo pos (starEach es X.env)).any (·.1) = false := by rfl) : PD X (.Call (.Name x p) (a :: es) [] pos) (dB k ts) :=
  pe_imp (L2.pe_callTy hc hg hm hv ha hn hdb he hpl) fun σ H Q ⟨f, ρ, st, Q', R, h, l⟩ => ⟨f, ρ, st, _, R, h, fun xs st1 vs f1 H1 h1 e1 s1 r1 => hr f1 st1 H1 xs vs Q' Q s1 r1 h1 (l.later e1)⟩
end
theorem RDs.inv1 {x : D} {vs : List L2.V} (h : RDs K f H [x] vs) : ∃ v, vs = [v] ∧ RD K f H x v := by
  rw [RDs.cons] at h
  obtain ⟨v, r, rfl, h1, h2⟩ := h
  rw [RDs.nil] at h2
  subst h2
  exact ⟨v, rfl, h1⟩
theorem RDs.inv2 {x y : D} {vs : List L2.V} (h : RDs K f H [x, y] vs) : ∃ v w, vs = [v, w] ∧ RD K f H x v ∧ RD K f H y w := by
  rw [RDs.cons] at h
  obtain ⟨v, r, rfl, h1, h2⟩ := h
  obtain ⟨w, rfl, h3⟩ := h2.inv1
  exact ⟨v, w, rfl, h1, h3⟩
/-- one argument, two arguments, by cases -/
theorem realB1 {r : List L2.V → Hp → L2.VK → Prop} {k : KB} (h0 : ∀ xs st Q, k xs st Q → ∃ x, xs = [x])
    (h : ∀ (f : List Addr) (st : Store) (H : Hp) (x : D) (v : L2.V) (Q' : Pd.K) (Q : L2.VK), RelS K f st H → RD K f H x v → k [x] st Q' → LQ K f H Q' Q → r [v] H Q) : RealB K r k := fun f st H xs vs Q' Q s r1 hk l => by
  obtain ⟨x, rfl⟩ := h0 xs st Q' hk
  obtain ⟨v, rfl, h1⟩ := r1.inv1
  exact h f st H x v Q' Q s h1 hk l
theorem kb1 {k : KB} (h0 : ∀ st Q, ¬ k [] st Q) (h2 : ∀ x y xs st Q, ¬ k (x :: y :: xs) st Q) : ∀ xs st Q, k xs st Q → ∃ x, xs = [x] := fun xs st Q h => by
  match xs, h with
  | [], h => exact (h0 _ _ h).elim
  | [x], _ => exact ⟨x, rfl⟩
  | x :: y :: xs, h => exact (h2 _ _ _ _ _ h).elim
theorem real_intB : RealB K (fun xs H Q => (∃ i, xs = [.int i] ∧ Q (.int i) H) ∨ ∃ k, xs = [.bl k] ∧ Q (.int (if k then 1 else 0)) H) intB :=
  realB1 (kb1 (fun _ _ h => h) fun x y xs st Q h => by cases x <;> exact h) fun f st H x v Q' Q s r h l => by
    cases x <;> try (exact h.elim)
    · rw [RD.bl] at r; subst r; exact .inr ⟨_, rfl, l.now s h (RD.int.mpr rfl)⟩
    · rw [RD.int] at r; subst r; exact .inl ⟨_, rfl, l.now s h (RD.int.mpr rfl)⟩
theorem real_absB : RealB K (fun xs H Q => ∃ i, xs = [.int i] ∧ Q (.int (if i < 0 then -i else i)) H) absB :=
  realB1 (kb1 (fun _ _ h => h) fun x y xs st Q h => by cases x <;> exact h) fun f st H x v Q' Q s r h l => by
    cases x <;> try (exact h.elim)
    rw [RD.int] at r; subst r; exact ⟨_, rfl, l.now s h (RD.int.mpr rfl)⟩
theorem real_lenB : RealB K (fun xs H Q => ∃ x n, xs = [x] ∧ L2.LenV K x H n ∧ Q (.int n) H) lenB :=
  realB1 (kb1 (fun _ _ h => h) fun x y xs st Q h => by cases x <;> exact h) fun f st H x v Q' Q s r h l => by
    cases x <;> try (exact h.elim)
    · rw [RD.str] at r; subst r
      exact ⟨_, _, rfl, ⟨by rw [← szl_eq]; exact h.1, rfl⟩, l.now s h.2 (RD.int.mpr rfl)⟩
    · rw [RD.tup] at r
      obtain ⟨a, vs, rfl, t, d⟩ := r
      exact ⟨_, vs.length, rfl, .inr ⟨vs, t, rfl⟩, by rw [d.length]; exact l.now s h (RD.int.mpr rfl)⟩
    · rw [RD.ref] at r
      obtain ⟨a, e, rfl⟩ := r
      obtain ⟨xs, h1, h2⟩ := h
      obtain ⟨a', vs, k1, k2, d⟩ := s.rdA h1
      rw [e] at k1; cases k1
      exact ⟨_, vs.length, rfl, .inl ⟨vs, k2, rfl⟩, by rw [d.length]; exact l.now s h2 (RD.int.mpr rfl)⟩
theorem kb2 {k : KB} (h0 : ∀ st Q, ¬ k [] st Q) (h1 : ∀ x st Q, ¬ k [x] st Q) (h3 : ∀ x y z xs st Q, ¬ k (x :: y :: z :: xs) st Q) : ∀ xs st Q, k xs st Q → ∃ x y, xs = [x, y] := fun xs st Q h => by
  match xs, h with
  | [], h => exact (h0 _ _ h).elim
  | [x], h => exact (h1 _ _ _ h).elim
  | [x, y], _ => exact ⟨x, y, rfl⟩
  | x :: y :: z :: xs, h => exact (h3 _ _ _ _ _ _ h).elim
theorem real_min2B : RealB K (fun xs H Q => ∃ i j, xs = [.int i, .int j] ∧ Q (.int (if j < i then j else i)) H) min2B := fun f st H xs vs Q' Q s r h l => by
  obtain ⟨x, y, rfl⟩ := kb2 (k := min2B) (fun _ _ h => h) (fun x st Q h => by cases x <;> exact h) (fun x y z xs st Q h => by cases x <;> cases y <;> exact h) xs st Q' h
  obtain ⟨v, w, rfl, r1, r2⟩ := r.inv2
  cases x <;> cases y <;> try (exact h.elim)
  rw [RD.int] at r1 r2
  subst r1; subst r2
  exact ⟨_, _, rfl, l.now s h (RD.int.mpr rfl)⟩
theorem real_max2B : RealB K (fun xs H Q => ∃ i j, xs = [.int i, .int j] ∧ Q (.int (if j > i then j else i)) H) max2B := fun f st H xs vs Q' Q s r h l => by
  obtain ⟨x, y, rfl⟩ := kb2 (k := max2B) (fun _ _ h => h) (fun x st Q h => by cases x <;> exact h) (fun x y z xs st Q h => by cases x <;> cases y <;> exact h) xs st Q' h
  obtain ⟨v, w, rfl, r1, r2⟩ := r.inv2
  cases x <;> cases y <;> try (exact h.elim)
  rw [RD.int] at r1 r2
  subst r1; subst r2
  exact ⟨_, _, rfl, l.now s h (RD.int.mpr rfl)⟩
theorem real_listB : RealB K (fun xs H Q => ∃ p ys, xs = [.ref p] ∧ (L2.SqL K H p ys ∨ L2.SqT K H p ys) ∧ ∀ l, H l = none → Q (.ref l) (L2.upd H l (.lst ys))) listB :=
  realB1 (kb1 (fun _ _ h => h) fun x y xs st Q h => by cases x <;> exact h) fun f st H x v Q' Q s r h l => by
    cases x <;> try (exact h.elim)
    · rw [RD.tup] at r
      obtain ⟨a, vs, rfl, t, d⟩ := r
      exact ⟨a, vs, rfl, .inr t, fun p hp => l.lst s h d hp⟩
    · rw [RD.ref] at r
      obtain ⟨a, e, rfl⟩ := r
      obtain ⟨xs, h1, h2⟩ := h
      obtain ⟨a', vs, k1, k2, d⟩ := s.rdA h1
      rw [e] at k1; cases k1
      exact ⟨a, vs, rfl, .inl k2, fun p hp => l.lst s h2 d hp⟩
theorem real_tupleB : RealB K (fun xs H Q => ∃ p ys, xs = [.ref p] ∧ ((L2.SqL K H p ys ∧ ∀ l, H l = none → Q (.ref l) (L2.upd H l (.tup ys))) ∨ (L2.SqT K H p ys ∧ Q (.ref p) H))) tupleB :=
  realB1 (kb1 (fun _ _ h => h) fun x y xs st Q h => by cases x <;> exact h) fun f st H x v Q' Q s r h l => by
    cases x <;> try (exact h.elim)
    · rw [RD.tup] at r
      obtain ⟨a, vs, rfl, t, d⟩ := r
      exact ⟨a, vs, rfl, .inr ⟨t, l.now s h (RD.tup.mpr ⟨a, vs, rfl, t, d⟩)⟩⟩
    · rw [RD.ref] at r
      obtain ⟨a, e, rfl⟩ := r
      obtain ⟨xs, h1, h2⟩ := h
      obtain ⟨a', vs, k1, k2, d⟩ := s.rdA h1
      rw [e] at k1; cases k1
      exact ⟨a, vs, rfl, .inl ⟨k2, fun p hp => l.tup s h2 d hp⟩⟩
theorem real_sumB : RealB K (L2.rSum K) sumB :=
  realB1 (kb1 (fun _ _ h => h) fun x y xs st Q h => by cases x <;> exact h) fun f st H x v Q' Q s r h l => by
    cases x <;> try (exact h.elim)
    rw [RD.ref] at r
    obtain ⟨a, e, rfl⟩ := r
    obtain ⟨ns, h1, h2⟩ := h
    obtain ⟨a', vs, k1, k2, d⟩ := s.rdA h1
    rw [e] at k1; cases k1
    exact ⟨a, ns, rfl, by rw [← d.ints]; exact k2, l.now s h2 (RD.int.mpr rfl)⟩
def truV : L2.V → Bool
  | .bl b => b
  | .int i => i != 0
  | _ => false
def tfl : L2.V → Bool
  | .non => true
  | .bl _ => true
  | .int _ => true
  | _ => false
def rAnyF (K : Kf) : List L2.V → Hp → L2.VK → Prop := fun vs H Q => ∃ (a : Addr) (xs : List L2.V), vs = [L2.V.ref a] ∧ L2.SqL K H a xs ∧ xs.all tfl = true ∧ Q (.bl (xs.any truV)) H
def rAllF (K : Kf) : List L2.V → Hp → L2.VK → Prop := fun vs H Q => ∃ (a : Addr) (xs : List L2.V), vs = [L2.V.ref a] ∧ L2.SqL K H a xs ∧ xs.all tfl = true ∧ Q (.bl (xs.all truV)) H
theorem truth_tfl {prog : Program} {w : World} {A : Around} {xs : List L2.V} {its : List Value} (r : L2.Vals xs its) (h : xs.all tfl = true) :
    TruthOf prog w A (fun i v => its.toArray[i]? = some v) (fun i => (xs.map truV).getD i false) := fun i v s Q E hv hq => by
  have hv' : its[i]? = some v := by simpa using hv
  have hi : i < xs.length := by rw [r.length]; exact (List.getElem?_eq_some_iff.mp hv').1
  have hx : xs[i]? = some xs[i] := by simp [hi]
  obtain ⟨u, hu, ru⟩ := r.get hx
  rw [hv'] at hu; cases hu
  have hg : (xs.map truV).getD i false = truV xs[i] := by rw [List.getD_eq_getElem?_getD, List.getElem?_map, hx]; rfl
  have hq' : Q ((xs.map truV).getD i false) s := hq
  rw [hg] at hq'
  have ht : tfl xs[i] = true := by
    rw [List.all_eq_true] at h
    exact h _ (List.getElem_mem hi)
  generalize xs[i] = x at ru hq' ht
  cases x with
  | non => cases ru; exact PyProof.Rows.truthy_none hq'
  | bl b => cases ru; exact wpAny_truthy_bool hq'
  | int j => obtain ⟨t, rfl⟩ := ru; exact PySem.P.truthy_int hq'
  | _ => exact absurd ht (by simp [tfl])
theorem cr_anyF (hc : X.calm = true) : L2.CallR X (.builtin "any") (rAnyF X.K) := by
  intro pins s σ H vs us Q I r h
  obtain ⟨a, xs, rfl, hs, ht, q⟩ := h
  obtain ⟨its, rv, hl, _⟩ := I.list hs
  rw [L2.Vals.ref1 r]
  refine call_any_walk (L2.iter_any hl.isList fun s₂ e2 st hne => ?_)
  subst e2
  refine ⟨_, _, _, _, _, _, _, rfl, Walks.list (A := X.A.in1) (I.ok.hd hc) _ a hne its.toArray, st, truth_tfl rv ht, fun h' tk hk => ?_⟩
  refine ⟨.bl _, H, I.kept fun b o eo => hk b o (fun hmem => ?_) (Heap.get?_push_of_some _ eo), ?_, q⟩
  · rcases List.mem_cons.mp hmem with e1 | hmem
    · exact absurd (e1 ▸ Heap.lt_size eo) (Nat.lt_irrefl _)
    · cases hmem
  · show Value.bool _ = Value.bool _
    have e1 : its.toArray.size = (xs.map truV).length := by rw [List.size_toArray, List.length_map]; exact rv.length.symm
    rw [e1, L2.any_range, List.any_map]
    rfl
theorem cr_allF (hc : X.calm = true) : L2.CallR X (.builtin "all") (rAllF X.K) := by
  intro pins s σ H vs us Q I r h
  obtain ⟨a, xs, rfl, hs, ht, q⟩ := h
  obtain ⟨its, rv, hl, _⟩ := I.list hs
  rw [L2.Vals.ref1 r]
  refine call_all_walk (L2.iter_any hl.isList fun s₂ e2 st hne => ?_)
  subst e2
  refine ⟨_, _, _, _, _, _, _, rfl, Walks.list (A := X.A.in1) (I.ok.hd hc) _ a hne its.toArray, st, truth_tfl rv ht, fun h' tk hk => ?_⟩
  refine ⟨.bl _, H, I.kept fun b o eo => hk b o (fun hmem => ?_) (Heap.get?_push_of_some _ eo), ?_, q⟩
  · rcases List.mem_cons.mp hmem with e1 | hmem
    · exact absurd (e1 ▸ Heap.lt_size eo) (Nat.lt_irrefl _)
    · cases hmem
  · show Value.bool _ = Value.bool _
    have e1 : its.toArray.size = (xs.map truV).length := by rw [List.size_toArray, List.length_map]; exact rv.length.symm
    rw [e1, L2.all_range, List.all_map]
    rfl
theorem RD.tru {x : D} {v : L2.V} (h : RD K f H x v) (hx : x.tflat = true) : tfl v = true ∧ truV v = x.tru := by
  cases x with
  | non => rw [RD.non] at h; subst h; exact ⟨rfl, rfl⟩
  | bl b => rw [RD.bl] at h; subst h; exact ⟨rfl, rfl⟩
  | int i => rw [RD.int] at h; subst h; exact ⟨rfl, rfl⟩
  | str _ => cases hx
  | tup _ => cases hx
  | ref _ => cases hx
theorem RDs.tru : ∀ {xs : List D} {vs : List L2.V}, RDs K f H xs vs → xs.all D.tflat = true → vs.all tfl = true ∧ vs.any truV = xs.any D.tru ∧ vs.all truV = xs.all D.tru
  | [], _, h, _ => by rw [RDs.nil] at h; subst h; exact ⟨rfl, rfl, rfl⟩
  | x :: xs, _, h, hf => by
    rw [RDs.cons] at h
    obtain ⟨v, r, rfl, h1, h2⟩ := h
    have hf' : x.tflat = true ∧ xs.all D.tflat = true := by simpa using hf
    obtain ⟨a, b⟩ := h1.tru hf'.1
    obtain ⟨c, d, e⟩ := RDs.tru h2 hf'.2
    simp [a, b, c, d, e]
theorem real_allB : RealB K (rAllF K) allB :=
  realB1 (kb1 (fun _ _ h => h) fun x y xs st Q h => by cases x <;> exact h) fun f st H x v Q' Q s r h l => by
    cases x <;> try (exact h.elim)
    rw [RD.ref] at r
    obtain ⟨a, e, rfl⟩ := r
    obtain ⟨xs, h1, h2, h3⟩ := h
    obtain ⟨a', vs, k1, k2, d⟩ := s.rdA h1
    rw [e] at k1; cases k1
    obtain ⟨t1, t2, t3⟩ := d.tru h2
    exact ⟨a, vs, rfl, k2, t1, by rw [t3]; exact l.now s h3 (RD.bl.mpr rfl)⟩
theorem real_anyB : RealB K (rAnyF K) anyB :=
  realB1 (kb1 (fun _ _ h => h) fun x y xs st Q h => by cases x <;> exact h) fun f st H x v Q' Q s r h l => by
    cases x <;> try (exact h.elim)
    rw [RD.ref] at r
    obtain ⟨a, e, rfl⟩ := r
    obtain ⟨xs, h1, h2, h3⟩ := h
    obtain ⟨a', vs, k1, k2, d⟩ := s.rdA h1
    rw [e] at k1; cases k1
    obtain ⟨t1, t2, t3⟩ := d.tru h2
    exact ⟨a, vs, rfl, k2, t1, by rw [t2]; exact l.now s h3 (RD.bl.mpr rfl)⟩
theorem real_min1B : RealB K (L2.rMin K) min1B :=
  realB1 (kb1 (fun _ _ h => h) fun x y xs st Q h => by cases x <;> exact h) fun f st H x v Q' Q s r h l => by
    cases x <;> try (exact h.elim)
    rw [RD.ref] at r
    obtain ⟨a, e, rfl⟩ := r
    obtain ⟨ns, h1, h2, h3⟩ := h
    obtain ⟨a', vs, k1, k2, d⟩ := s.rdA h1
    rw [e] at k1; cases k1
    exact ⟨a, ns, rfl, by rw [← d.ints]; exact k2, h2, fun m hm hy => l.now s (h3 m hm hy) (RD.int.mpr rfl)⟩
theorem real_max1B : RealB K (L2.rMax K) max1B :=
  realB1 (kb1 (fun _ _ h => h) fun x y xs st Q h => by cases x <;> exact h) fun f st H x v Q' Q s r h l => by
    cases x <;> try (exact h.elim)
    rw [RD.ref] at r
    obtain ⟨a, e, rfl⟩ := r
    obtain ⟨ns, h1, h2, h3⟩ := h
    obtain ⟨a', vs, k1, k2, d⟩ := s.rdA h1
    rw [e] at k1; cases k1
    exact ⟨a, ns, rfl, by rw [← d.ints]; exact k2, h2, fun m hm hy => l.now s (h3 m hm hy) (RD.int.mpr rfl)⟩
end
end Pd
end PartPdSoundC

section PartPdSoundD
set_option Elab.async false
set_option linter.all false
set_option maxRecDepth 100000
set_option maxHeartbeats 1000000
/-! Pd over the hand layer: targets, loops, statements, comprehensions, methods, defs. Own work. -/
namespace Pd
open PySem PySem.Spec
section
variable {X : L2.Cx} {K : Kf} {f f' : List Addr} {H H' : Hp} {st st' : Store} {ρ : Env} {σ : L2.St}
/-! ### targets -/
def LG (K : Kf) (f : List Addr) (H : Hp) (σ : L2.St) (vs : List Nat) (Q' : Env → Store → Prop) (Q : L2.St → Hp → Prop) : Prop :=
  ∀ (ρ' : Env) (st' : Store) (σ' : L2.St) (f' : List Addr) (H' : Hp), Q' ρ' st' → Ext K f H f' H' → Rel K f' ρ' st' σ' H' → Out vs σ σ' → Q σ' H'
def liftG (K : Kf) (g : TG) (vs : List Nat) : L2.TG := fun v σ H Q => ∃ f ρ st d Q', Rel K f ρ st σ H ∧ RD K f H d v ∧ g d ρ st Q' ∧ LG K f H σ vs Q' Q
def liftGs (K : Kf) (g : TGs) (vs : List Nat) : L2.TGs := fun us σ H Q => ∃ f ρ st ds Q', Rel K f ρ st σ H ∧ RDs K f H ds us ∧ g ds ρ st Q' ∧ LG K f H σ vs Q' Q
abbrev PDG (X : L2.Cx) (e : Expr) (g : TG) (vs : List Nat) : Prop := L2.PG X e (liftG X.K g vs)
abbrev PDGs (X : L2.Cx) (es : List Expr) (g : TGs) (vs : List Nat) : Prop := L2.PGs X es (liftGs X.K g vs)
theorem pg_imp {e : Expr} {t t' : L2.TG} (h : L2.PG X e t) (m : ∀ v σ H Q, t' v σ H Q → t v σ H Q) : L2.PG X e t' := ⟨fun pins s σ H v u Q I r q => h.run pins s σ H v u Q I r (m v σ H Q q)⟩
theorem pgs_imp {e : List Expr} {t t' : L2.TGs} (h : L2.PGs X e t) (m : ∀ v σ H Q, t' v σ H Q → t v σ H Q) : L2.PGs X e t' := ⟨fun pins s σ H v u Q I r q => h.run pins s σ H v u Q I r (m v σ H Q q)⟩
theorem Out.refl {vs : List Nat} {σ : L2.St} : Out vs σ σ := ⟨rfl, fun _ _ => rfl⟩
theorem Out.set {i : Nat} {v : L2.V} {σ : L2.St} : Out [i] σ (σ.set i (some v)) := ⟨by rw [List.length_set], fun j h => by
  have : j ≠ i := fun e => h (by simp [e])
  rw [List.getElem?_set_ne (Ne.symm this)]⟩
theorem Out.trans {vs ws : List Nat} {σ σ1 σ2 : L2.St} (a : Out vs σ σ1) (b : Out ws σ1 σ2) : Out (vs ++ ws) σ σ2 :=
  ⟨b.1.trans a.1, fun j h => (b.2 j fun e => h (List.mem_append_right _ e)).trans (a.2 j fun e => h (List.mem_append_left _ e))⟩
theorem pg_name {i : Nat} {x : Str} {pos : Pos} (hN : X.N.Nodup) (hi : X.N[i]? = some x) (hx : L2.Loc X.env.scope x) (hf : X.fn x = true ∨ X.env.scope.names.lookup x = some .local := by first | exact .inl rfl | exact .inr rfl | assumption) : PDG X (.Name x pos) (gName i) [i] :=
  pg_imp (L2.pg_name hN hi hx hf) fun v σ H Q ⟨f, ρ, st, d, Q', R, r, h, l⟩ => l _ st _ f H h .refl (R.put r) Out.set
theorem pgs_nil : PDGs X [] gsNil [] := pgs_imp L2.pgs_nil fun us σ H Q ⟨f, ρ, st, ds, Q', R, r, h, l⟩ => by
  obtain ⟨rfl, h⟩ := h
  rw [RDs.nil] at r
  exact ⟨r, l ρ st σ f H h .refl R .refl⟩
theorem pgs_cons {e : Expr} {es : List Expr} {g : TG} {gs : TGs} {vs ws : List Nat} (h1 : PDG X e g vs) (h2 : PDGs X es gs ws) (hs : (assignEach (e :: es) X.env).map (·.2) = assign e X.env :: (assignEach es X.env).map (·.2) := by rfl) : PDGs X (e :: es) (gsCons g gs) (vs ++ ws) :=
  pgs_imp (L2.pgs_cons h1 h2 hs) fun us σ H Q ⟨f, ρ, st, ds, Q', R, r, h, l⟩ => by
    obtain ⟨d, ds', rfl, h⟩ := h
    rw [RDs.cons] at r
    obtain ⟨v, rr, rfl, r1, r2⟩ := r
    refine ⟨v, rr, rfl, f, ρ, st, d, _, R, r1, h, fun ρ1 st1 σ1 f1 H1 q e1 R1 o1 => ?_⟩
    exact ⟨f1, ρ1, st1, ds', Q', R1, r2.mono e1, q, fun ρ2 st2 σ2 f2 H2 q2 e2 R2 o2 => l ρ2 st2 σ2 f2 H2 q2 (e1.trans e2) R2 (o1.trans o2)⟩
theorem pg_tup {es : List Expr} {k : Nat} {pos : Pos} {gs : TGs} {vs : List Nat} {n : Nat} (hc : X.calm = true) (h : PDGs X es gs vs)
    (hn : (assignEach es X.env).length = n := by rfl) (hst : (assignEach es X.env).findIdx? (·.1) = none := by rfl) : PDG X (.Tuple es k pos) (gTup gs n) vs :=
  pg_imp (L2.pg_tup hc h hn hst) fun v σ H Q ⟨f, ρ, st, d, Q', R, r, h, l⟩ => by
    obtain ⟨ds, rfl, hl, h⟩ := h
    rw [RD.tup] at r
    obtain ⟨a, us, rfl, t, rs⟩ := r
    exact ⟨a, us, rfl, t, by rw [rs.length]; exact hl, f, ρ, st, ds, Q', R, rs, h, l⟩
def RealSet (K : Kf) (r : L2.V → L2.V → L2.V → Hp → (Hp → Prop) → Prop) (k : D → D → D → Store → (Store → Prop) → Prop) : Prop :=
  ∀ (f : List Addr) (st : Store) (H : Hp) (o i v : D) (ov iv vv : L2.V) (Q' : Store → Prop) (Q : Hp → Prop), RelS K f st H → RD K f H o ov → RD K f H i iv → RD K f H v vv → k o i v st Q' →
    (∀ st' H', Q' st' → Ext K f H f H' → RelS K f st' H' → Q H') → r ov iv vv H Q
theorem real_set : RealSet K L2.rSetL setK := fun f st H o i v ov iv vv Q' Q s r1 r2 r3 h l => by
  cases o <;> try (exact h.elim)
  cases i <;> try (exact h.elim)
  rename_i n i
  rw [RD.ref] at r1
  rw [RD.int] at r2
  obtain ⟨a, e, rfl⟩ := r1
  obtain ⟨xs, h1, ⟨d, h2⟩, h3, h4⟩ := h
  obtain ⟨a', vs, k1, k2, k3⟩ := s.rdL h1
  rw [e] at k1; cases k1
  have hlt : i < (vs.length : Int) := by
    rw [k3.length]
    unfold atD at h2
    rw [if_pos h3] at h2
    have := (List.getElem?_eq_some_iff.mp h2).1
    omega
  obtain ⟨s', e'⟩ := s.put e h1 k2 (k3.set i.toNat r3)
  exact ⟨a, vs, i, i.toNat, rfl, r2, k2, by unfold L2.ixN; rw [if_pos h3, if_pos hlt], l _ _ h4 e' s'⟩
section
variable {a b c e o i : Expr} {es : List Expr} {ta tb te to ti : TE} {pos tpos : Pos}
theorem pg_sub (h1 : PD X o to) (h2 : PD X i ti) (ha : ∀ v, assign (.Subscript o i pos) X.env v = (do
      let ov ← holding [v] (eval o X.env)
      let iv ← holding [v, ov] (eval i X.env)
      standAt pos
      holding [v, ov, iv] (setItem ov iv v)
      release [v, ov, iv] []) := by intro _; rfl) : PDG X (.Subscript o i pos) (gSub to ti) [] :=
  pg_imp (L2.pg_sub h1 h2 L2.set_list ha) fun v σ H Q ⟨f, ρ, st, d, Q', R, r, h, l⟩ => ⟨f, ρ, st, _, R, h, fun x st1 u f1 H1 q1 e1 s1 r1 => ⟨f1, ρ, st1, _, R.later e1 s1, q1, fun y st2 w f2 H2 q2 e2 s2 r2 =>
    real_set f2 st2 H2 x y d u w v _ _ s2 (r1.mono e2) r2 (r.mono (e1.trans e2)) q2 fun st3 H3 q3 e3 s3 => l ρ st3 σ f2 H3 q3 ((e1.trans e2).trans e3) (R.later ((e1.trans e2).trans e3) s3) .refl⟩⟩

/-! ### iterables -/
/-- what is walked: data and walk -/
structure RealI (K : Kf) (f : List Addr) (H : Hp) (I : Iter) (J : L2.It) : Prop where
  go : ∀ (i : Nat) (f2 : List Addr) (st2 : Store) (H2 : Hp), Ext K f H f2 H2 → RelS K f2 st2 H2 → I.guard st2 → i < I.items.length → J.go i H2
  stop : ∀ (f2 : List Addr) (st2 : Store) (H2 : Hp), Ext K f H f2 H2 → RelS K f2 st2 H2 → I.guard st2 → J.stop I.items.length H2
  yld : ∀ (i : Nat) (f2 : List Addr) (st2 : Store) (H2 : Hp) (d : D) (x : L2.V) (H3 : Hp), Ext K f H f2 H2 → RelS K f2 st2 H2 → I.guard st2 → I.items[i]? = some d → J.yld i H2 x H3 → Ext K f2 H2 f2 H3 ∧ RelS K f2 st2 H3 ∧ RD K f2 H3 d x
def liftI (K : Kf) (t : TI) : L2.TI := fun σ H R => ∃ f ρ st R', Rel K f ρ st σ H ∧ t ρ st R' ∧ ∀ (I : Iter) (st' : Store) (J : L2.It) (f' : List Addr) (H' : Hp), R' I st' → Ext K f H f' H' → RelS K f' st' H' → RealI K f' H' I J → R J H'
abbrev PDI (X : L2.Cx) (tg e : Expr) (t : TI) : Prop := L2.PI X tg e (liftI X.K t)
theorem pi_imp {tg e : Expr} {t t' : L2.TI} (h : L2.PI X tg e t) (m : ∀ σ H R, t' σ H R → t σ H R) : L2.PI X tg e t' := ⟨fun pins s σ H R I q => h.run pins s σ H R I (m σ H R q)⟩
def iSeqV (K : Kf) (tl : L2.TE) : L2.TI := fun σ H R => tl σ H fun x H1 => ∃ a, x = .ref a ∧ ((∃ xs, L2.SqL K H1 a xs ∧ R (L2.Itl K a) H1) ∨ (∃ xs, L2.SqT K H1 a xs ∧ R (L2.Itt K a) H1))
theorem pi_seqV {tg l : Expr} {tl : L2.TE} (hl : L2.PE X l tl) : L2.PI X tg l (iSeqV X.K tl) := by
  refine ⟨fun pins s σ H R I h => ?_⟩
  refine L2.thn (hl.run pins s σ H _ I h) fun v s1 ⟨x, H1, I1, r1, q1⟩ => ?_
  obtain ⟨a, e, q1⟩ := q1
  subst e
  cases r1
  have fin : ∀ b ∈ [s1.heap.objs.size], L2.FpOk X pins H1 b := fun b hb => by
    have e : b = s1.heap.objs.size := by simpa using hb
    subst e
    exact I1.fpOk (Nat.le_refl _) (I1.hok.fresh (Nat.le_refl _))
  rcases q1 with ⟨xs, hq, q⟩ | ⟨xs, hq, q⟩
  · obtain ⟨its, rv, p, hz⟩ := I1.list hq
    refine wpAny_pyIter_list p.isList ?_
    exact ⟨s1.heap.objs.size, [s1.heap.objs.size], _, _, H1, rfl, I1.kept (t' := s1.toks) fun b o e => Heap.get?_push_of_some _ e, L2.turn_list a _, ⟨_, Heap.get?_push_size _ rfl, rfl, rfl⟩, fin, q⟩
  · obtain ⟨its, rv, p, hz⟩ := I1.tuple hq
    refine wpAny_pyIter_tuple (show s1.heap.IsTuple a its.toArray from p) ?_
    exact ⟨s1.heap.objs.size, [s1.heap.objs.size], _, _, H1, rfl, I1.kept (t' := s1.toks) fun b o e => Heap.get?_push_of_some _ e, L2.turn_tuple a _, ⟨_, Heap.get?_push_size _ rfl, rfl, rfl⟩, fin, q⟩
theorem RDs.at_lt {ds : List D} {vs : List L2.V} (h : RDs K f H ds vs) {i : Nat} (hi : i < ds.length) : ∃ v, vs[i]? = some v := by
  have := h.length
  exact ⟨vs[i]'(by omega), by simp [this, hi]⟩
theorem realI_list {n : Nat} {a : Addr} {xs : List D} (hn : f[n]? = some a) : RealI K f H ⟨xs, fun s => rdA s n xs⟩ (L2.Itl K a) where
  go := fun i f2 st2 H2 e2 s2 g hi => by
    obtain ⟨a', vs, k1, k2, k3⟩ := s2.rdA g
    rw [e2.at hn] at k1; cases k1
    obtain ⟨v, hv⟩ := k3.at_lt hi
    exact ⟨vs, v, k2, hv⟩
  stop := fun f2 st2 H2 e2 s2 g => by
    obtain ⟨a', vs, k1, k2, k3⟩ := s2.rdA g
    rw [e2.at hn] at k1; cases k1
    exact ⟨vs, k2, by rw [k3.length]; exact Nat.le_refl _⟩
  yld := fun i f2 st2 H2 d x H3 e2 s2 g hd y => by
    obtain ⟨a', vs, k1, k2, k3⟩ := s2.rdA g
    rw [e2.at hn] at k1; cases k1
    obtain ⟨rfl, y⟩ := y
    obtain ⟨v, h1, h2⟩ := k3.get hd
    have := y vs k2
    rw [h1] at this; cases this
    exact ⟨.refl, s2, h2⟩
theorem realI_tup {a : Addr} {xs : List D} {vs : List L2.V} (t : L2.SqT K H a vs) (r : RDs K f H xs vs) : RealI K f H ⟨xs, fun _ => True⟩ (L2.Itt K a) where
  go := fun i f2 st2 H2 e2 s2 g hi => by
    obtain ⟨v, hv⟩ := r.at_lt hi
    exact ⟨vs, v, e2.tup _ _ t, hv⟩
  stop := fun f2 st2 H2 e2 s2 g => ⟨vs, e2.tup _ _ t, by rw [r.length]; exact Nat.le_refl _⟩
  yld := fun i f2 st2 H2 d x H3 e2 s2 g hd y => by
    obtain ⟨rfl, y⟩ := y
    obtain ⟨v, h1, h2⟩ := r.get hd
    have := y vs (e2.tup _ _ t)
    rw [h1] at this; cases this
    exact ⟨.refl, s2, h2.mono e2⟩
theorem realI_rng {lo : Int} {n : Nat} : RealI K f H ⟨rng lo n, fun _ => True⟩ (L2.Itr lo n) where
  go := fun i f2 st2 H2 e2 s2 g hi => by
    have : i < n := by simpa [rng] using hi
    exact this
  stop := fun f2 st2 H2 e2 s2 g => by
    show n ≤ (rng lo n).length
    simp [rng]
  yld := fun i f2 st2 H2 d x H3 e2 s2 g hd y => by
    obtain ⟨rfl, rfl⟩ := y
    refine ⟨.refl, s2, ?_⟩
    have hd' : (rng lo n)[i]? = some d := hd
    unfold rng at hd'
    rw [List.getElem?_map] at hd'
    cases q : (List.range n)[i]? with
    | none => rw [q] at hd'; cases hd'
    | some j =>
      rw [q] at hd'
      obtain ⟨h1, h2⟩ := List.getElem?_eq_some_iff.mp q
      simp at h2
      subst h2
      simp at hd'
      subst hd'
      rw [RD.int]
theorem pi_seq {tg : Expr} (h : PD X a ta) : PDI X tg a (iSeq ta) :=
  pi_imp (pi_seqV h) fun σ H R ⟨f, ρ, st, R', Re, h, l⟩ => ⟨f, ρ, st, _, Re, h, fun x st1 v f1 H1 q1 e1 s1 r1 => by
    cases x <;> try (exact q1.elim)
    · rw [RD.tup] at r1
      obtain ⟨a, vs, rfl, t, d⟩ := r1
      exact ⟨a, rfl, .inr ⟨vs, t, l _ st1 _ f1 H1 q1 e1 s1 (realI_tup t d)⟩⟩
    · rw [RD.ref] at r1
      obtain ⟨a, e, rfl⟩ := r1
      obtain ⟨xs, g1, g2⟩ := q1
      obtain ⟨a', vs, k1, k2, k3⟩ := s1.rdA g1
      rw [e] at k1; cases k1
      exact ⟨a, rfl, .inl ⟨vs, k2, l _ st1 _ f1 H1 g2 e1 s1 (realI_list e)⟩⟩⟩
theorem pi_r1 {tg : Expr} {p : Pos} (hg : L2.Gl X "range") (hm : X.mg "range" = none) (h : PD X a ta) (hs : starEach [a] X.env = [(false, eval a X.env)] := by rfl) : PDI X tg (.Call (.Name "range" p) [a] [] pos) (iR1 ta) :=
  pi_imp (L2.pi_range1 hg hm (L2.pa_cons h L2.pa_nil hs) hs) fun σ H R ⟨f, ρ, st, R', Re, h, l⟩ => ⟨f, ρ, st, _, Re, h, fun x st1 v f1 H1 q1 e1 s1 r1 => by
    obtain ⟨j, rfl, h1, h2, h3⟩ := q1
    rw [RD.int] at r1
    subst r1
    exact ⟨j, rfl, h1, h2, l _ st1 _ f1 H1 h3 e1 s1 realI_rng⟩⟩
theorem pi_r2 {tg : Expr} {p : Pos} (hg : L2.Gl X "range") (hm : X.mg "range" = none) (h : PD X a ta) (h' : PD X b tb) (hs : starEach [a, b] X.env = [(false, eval a X.env), (false, eval b X.env)] := by rfl) (hs2 : starEach [b] X.env = [(false, eval b X.env)] := by rfl) : PDI X tg (.Call (.Name "range" p) [a, b] [] pos) (iR2 ta tb) :=
  pi_imp (L2.pi_range2 hg hm (L2.pa_cons h (L2.pa_cons h' L2.pa_nil hs2) (hs.trans (by rw [hs2]))) hs hs2) fun σ H R ⟨f, ρ, st, R', Re, h, l⟩ => ⟨f, ρ, st, _, Re, h, fun x st1 v f1 H1 q1 e1 s1 r1 => ⟨f1, ρ, st1, _, Re.later e1 s1, q1, fun y st2 w f2 H2 q2 e2 s2 r2 => by
    obtain ⟨i, j, rfl, rfl, h2, h3⟩ := q2
    have r1' := r1.mono e2
    rw [RD.int] at r1' r2
    subst r1'; subst r2
    exact ⟨i, j, rfl, h2, l _ st2 _ f2 H2 h3 (e1.trans e2) s2 realI_rng⟩⟩⟩
theorem zipD_get : ∀ {xs ys : List D} {i : Nat} {d : D}, (zipD xs ys)[i]? = some d → ∃ x y, d = .tup [x, y] ∧ xs[i]? = some x ∧ ys[i]? = some y
  | [], _, _, _, h => by simp [zipD] at h
  | _ :: _, [], _, _, h => by simp [zipD] at h
  | x :: xs, y :: ys, 0, d, h => by simp [zipD] at h; exact ⟨x, y, h.symm, rfl, rfl⟩
  | x :: xs, y :: ys, i + 1, d, h => by
    obtain ⟨x', y', h1, h2, h3⟩ := zipD_get (xs := xs) (ys := ys) (i := i) (by simpa [zipD] using h)
    exact ⟨x', y', h1, by simpa using h2, by simpa using h3⟩
theorem zipD_length : ∀ (xs ys : List D), (zipD xs ys).length = min xs.length ys.length
  | [], _ => by simp [zipD]
  | _ :: _, [] => by simp [zipD]
  | x :: xs, y :: ys => by simp [zipD, zipD_length xs ys]
theorem realI_zipT {a b : Addr} {xs ys : List D} {vs ws : List L2.V} (t : L2.SqT K H a vs) (r : RDs K f H xs vs) (t' : L2.SqT K H b ws) (r' : RDs K f H ys ws) : RealI K f H ⟨zipD xs ys, fun _ => True⟩ (RZ.ItzT K a b) where
  go := fun i f2 st2 H2 e2 s2 g hi => by
    have hi : i < (zipD xs ys).length := hi
    rw [zipD_length] at hi
    obtain ⟨v, hv⟩ := r.at_lt (i := i) (by omega)
    obtain ⟨w, hw⟩ := r'.at_lt (i := i) (by omega)
    exact ⟨vs, ws, v, w, e2.tup _ _ t, e2.tup _ _ t', hv, hw⟩
  stop := fun f2 st2 H2 e2 s2 g => ⟨vs, ws, e2.tup _ _ t, e2.tup _ _ t', by
    show vs.length ≤ (zipD xs ys).length ∨ ws.length ≤ (zipD xs ys).length
    rw [zipD_length, r.length, r'.length]; omega⟩
  yld := fun i f2 st2 H2 d x H3 e2 s2 g hd y => by
    obtain ⟨T, x1, x2, rfl, hT, rfl, y1, y2⟩ := y
    obtain ⟨d1, d2, rfl, g1, g2⟩ := zipD_get hd
    obtain ⟨v, h1, h2⟩ := r.get g1
    obtain ⟨w, h3, h4⟩ := r'.get g2
    have q1 := y1 vs (e2.tup _ _ t)
    have q2 := y2 ws (e2.tup _ _ t')
    rw [h1] at q1; cases q1
    rw [h3] at q2; cases q2
    obtain ⟨s', e'⟩ := s2.lay (o := .tup [x1, x2]) hT
    refine ⟨e', s', RD.tup.mpr ⟨T, [x1, x2], rfl, .of L2.upd_same, ?_⟩⟩
    rw [RDs.cons]
    exact ⟨x1, [x2], rfl, (h2.mono e2).mono e', RDs.one ((h4.mono e2).mono e')⟩
theorem realI_zipL {m n : Nat} {a b : Addr} {xs ys : List D} (hm : f[m]? = some a) (hn : f[n]? = some b) : RealI K f H ⟨zipD xs ys, fun s => rdA s m xs ∧ rdA s n ys⟩ (L2.Itz K a b) where
  go := fun i f2 st2 H2 e2 s2 g hi => by
    have hi : i < (zipD xs ys).length := hi
    rw [zipD_length] at hi
    obtain ⟨a', vs, k1, k2, k3⟩ := s2.rdA g.1
    obtain ⟨b', ws, j1, j2, j3⟩ := s2.rdA g.2
    rw [e2.at hm] at k1; cases k1
    rw [e2.at hn] at j1; cases j1
    obtain ⟨v, hv⟩ := k3.at_lt (i := i) (by omega)
    obtain ⟨w, hw⟩ := j3.at_lt (i := i) (by omega)
    exact ⟨vs, ws, v, w, k2, j2, hv, hw⟩
  stop := fun f2 st2 H2 e2 s2 g => by
    obtain ⟨a', vs, k1, k2, k3⟩ := s2.rdA g.1
    obtain ⟨b', ws, j1, j2, j3⟩ := s2.rdA g.2
    rw [e2.at hm] at k1; cases k1
    rw [e2.at hn] at j1; cases j1
    refine ⟨vs, ws, k2, j2, ?_⟩
    show vs.length ≤ (zipD xs ys).length ∨ ws.length ≤ (zipD xs ys).length
    rw [zipD_length, k3.length, j3.length]; omega
  yld := fun i f2 st2 H2 d x H3 e2 s2 g hd y => by
    obtain ⟨a', vs, k1, k2, k3⟩ := s2.rdA g.1
    obtain ⟨b', ws, j1, j2, j3⟩ := s2.rdA g.2
    rw [e2.at hm] at k1; cases k1
    rw [e2.at hn] at j1; cases j1
    obtain ⟨T, x1, x2, rfl, hT, rfl, y1, y2⟩ := y
    obtain ⟨d1, d2, rfl, g1, g2⟩ := zipD_get hd
    obtain ⟨v, h1, h2⟩ := k3.get g1
    obtain ⟨w, h3, h4⟩ := j3.get g2
    have q1 := y1 vs k2
    have q2 := y2 ws j2
    rw [h1] at q1; cases q1
    rw [h3] at q2; cases q2
    obtain ⟨s', e'⟩ := s2.lay (o := .tup [x1, x2]) hT
    refine ⟨e', s', RD.tup.mpr ⟨T, [x1, x2], rfl, .of L2.upd_same, ?_⟩⟩
    rw [RDs.cons]
    exact ⟨x1, [x2], rfl, h2.mono e', RDs.one (h4.mono e')⟩
theorem pi_zip {p tp : Pos} {kk : Nat} (hg : L2.Gl X "zip") (hm : X.mg "zip" = none) (h : PD X a ta) (h' : PD X b tb) (hs : starEach [a, b] X.env = (false, eval a X.env) :: starEach [b] X.env := by rfl) (hs2 : starEach [b] X.env = (false, eval b X.env) :: starEach [] X.env := by rfl)
    (hpl : (backTo pos (starEach [b] X.env)).any (·.1) = false := by rfl) : PDI X (.Tuple es kk tp) (.Call (.Name "zip" p) [a, b] [] pos) (iZip2 ta tb) :=
  pi_imp (RZ.pi_zipA hg hm (L2.pa_cons h (L2.pa_cons h' L2.pa_nil hs2) hs) hs hpl) fun σ H R ⟨f, ρ, st, R', Re, h, l⟩ => ⟨f, ρ, st, _, Re, h, fun x st1 v f1 H1 q1 e1 s1 r1 => ⟨f1, ρ, st1, _, Re.later e1 s1, q1, fun y st2 w f2 H2 q2 e2 s2 r2 => by
    have r1' := r1.mono e2
    cases x <;> cases y <;> try (exact q2.elim)
    · rw [RD.tup] at r1' r2
      obtain ⟨a, vs, rfl, t, d⟩ := r1'
      obtain ⟨b, ws, rfl, t', d'⟩ := r2
      exact ⟨a, b, vs, ws, rfl, .inr ⟨t, t', l _ st2 _ f2 H2 q2 (e1.trans e2) s2 (realI_zipT t d t' d')⟩⟩
    · rw [RD.ref] at r1' r2
      obtain ⟨a, g1, rfl⟩ := r1'
      obtain ⟨b, g2, rfl⟩ := r2
      obtain ⟨xs, ys, q3, q4, q5⟩ := q2
      obtain ⟨a', vs, k1, k2, k3⟩ := s2.rdA q3
      obtain ⟨b', ws, j1, j2, j3⟩ := s2.rdA q4
      rw [g1] at k1; cases k1
      rw [g2] at j1; cases j1
      exact ⟨a, b, vs, ws, rfl, .inl ⟨k2, j2, l _ st2 _ f2 H2 q5 (e1.trans e2) s2 (realI_zipL g1 g2)⟩⟩⟩⟩
end
end
end Pd
end PartPdSoundD

section PartPdSoundE
set_option Elab.async false
set_option linter.all false
set_option maxRecDepth 100000
set_option maxHeartbeats 1000000
/-! Pd over the hand layer: statements, comprehensions, methods, defs. Own work. -/
namespace Pd
open PySem PySem.Spec
section
variable {X : L2.Cx} {K : Kf} {f f' : List Addr} {H H' : Hp} {st st' : Store} {ρ : Env} {σ : L2.St}
/-! ### statements -/
structure LD (K : Kf) (f : List Addr) (H : Hp) (D' : Ends) (D : L2.Ends) : Prop where
  nx : ∀ (ρ' : Env) (st' : Store) (σ' : L2.St) (f' : List Addr) (H' : Hp), D'.nx ρ' st' → Ext K f H f' H' → Rel K f' ρ' st' σ' H' → D.nx σ' H'
  rt : LQ K f H D'.rt D.rt
  bk : ∀ (ρ' : Env) (st' : Store) (σ' : L2.St) (f' : List Addr) (H' : Hp), D'.bk ρ' st' → Ext K f H f' H' → Rel K f' ρ' st' σ' H' → D.bk σ' H'
  ct : ∀ (ρ' : Env) (st' : Store) (σ' : L2.St) (f' : List Addr) (H' : Hp), D'.ct ρ' st' → Ext K f H f' H' → Rel K f' ρ' st' σ' H' → D.ct σ' H'
def liftS (K : Kf) (t : TS) : L2.TS := fun D σ H => ∃ f ρ st D', Rel K f ρ st σ H ∧ t D' ρ st ∧ LD K f H D' D
abbrev PDS (X : L2.Cx) (s : Stmt) (t : TS) : Prop := L2.PS X s (liftS X.K t)
abbrev PDSs (X : L2.Cx) (s : List Stmt) (t : TS) : Prop := L2.PSs X s (liftS X.K t)
theorem ps_imp {s : Stmt} {t t' : L2.TS} (h : L2.PS X s t) (m : ∀ D σ H, t' D σ H → t D σ H) : L2.PS X s t' := ⟨fun pins s σ H D I q => h.run pins s σ H D I (m D σ H q)⟩
theorem pss_imp {s : List Stmt} {t t' : L2.TS} (h : L2.PSs X s t) (m : ∀ D σ H, t' D σ H → t D σ H) : L2.PSs X s t' := ⟨fun pins s σ H D I q => h.run pins s σ H D I (m D σ H q)⟩
theorem LD.later {D' : Ends} {D : L2.Ends} (l : LD K f H D' D) (e : Ext K f H f' H') : LD K f' H' D' D :=
  ⟨fun a b c d g q e2 r => l.nx a b c d g q (e.trans e2) r, l.rt.later e, fun a b c d g q e2 r => l.bk a b c d g q (e.trans e2) r, fun a b c d g q e2 r => l.ct a b c d g q (e.trans e2) r⟩
section
variable {a b c e o i : Expr} {es : List Expr} {ta tb te to ti : TE} {tC : TT} {pos tpos : Pos} {s : Stmt} {ss ss' : List Stmt} {t u : TS}
theorem pss_nil : PDSs X [] sNext := pss_imp L2.pss_nil fun D σ H ⟨f, ρ, st, D', R, h, l⟩ => l.nx ρ st σ f H h .refl R
theorem pss_cons (h1 : PDS X s t) (h2 : PDSs X ss u) : PDSs X (s :: ss) (sSeq t u) := pss_imp (L2.pss_cons h1 h2) fun D σ H ⟨f, ρ, st, D', R, h, l⟩ =>
  ⟨f, ρ, st, _, R, h, fun ρ1 st1 σ1 f1 H1 q e r => ⟨f1, ρ1, st1, D', r, q.go, l.later e⟩, l.rt, l.bk, l.ct⟩
theorem pss_one (h1 : PDS X s t) : PDSs X [s] t := L2.pss_one h1
theorem ps_pass : PDS X (.Pass pos) sNext := ps_imp L2.ps_pass fun D σ H ⟨f, ρ, st, D', R, h, l⟩ => l.nx ρ st σ f H h .refl R
theorem ps_doc {x j pos'} : PDS X (.Expr (.Constant (.str x) j pos) pos') sNext := ps_imp L2.ps_doc fun D σ H ⟨f, ρ, st, D', R, h, l⟩ => l.nx ρ st σ f H h .refl R
theorem ps_break : PDS X (.Break pos) sBreak := ps_imp L2.ps_break fun D σ H ⟨f, ρ, st, D', R, h, l⟩ => l.bk ρ st σ f H h .refl R
theorem ps_continue : PDS X (.Continue pos) sCont := ps_imp L2.ps_continue fun D σ H ⟨f, ρ, st, D', R, h, l⟩ => l.ct ρ st σ f H h .refl R
theorem ps_expr (he : PD X e te) (hs : swapsWith e none pos.line X.env = pure false := by rfl) : PDS X (.Expr e pos) (sExpr te) := ps_imp (L2.ps_expr he hs) fun D σ H ⟨f, ρ, st, D', R, h, l⟩ =>
  ⟨f, ρ, st, _, R, h, fun x st1 v f1 H1 q e1 s1 r1 => l.nx ρ st1 σ f1 H1 q e1 (R.later e1 s1)⟩
theorem ps_ret (he : PD X e te) : PDS X (.Return (some e) pos) (sRet te) := ps_imp (L2.ps_ret he) fun D σ H ⟨f, ρ, st, D', R, h, l⟩ => ⟨f, ρ, st, _, R, h, l.rt⟩
theorem ps_retN : PDS X (.Return none pos) sRetN := ps_imp L2.ps_retN fun D σ H ⟨f, ρ, st, D', R, h, l⟩ => l.rt.now R.toRelS h (RD.non.mpr rfl)
theorem ps_if (hc : PDT X c tC) (ha : PDSs X ss t) (hb : PDSs X ss' u) : PDS X (.If c ss ss' pos) (sIf tC t u) := ps_imp (L2.ps_if hc ha hb) fun D σ H ⟨f, ρ, st, D', R, h, l⟩ =>
  ⟨f, ρ, st, _, R, h, fun k st1 f1 H1 q e1 s1 => by
    cases k with
    | true => exact ⟨f1, ρ, st1, D', R.later e1 s1, q.1 rfl, l.later e1⟩
    | false => exact ⟨f1, ρ, st1, D', R.later e1 s1, q.2 rfl, l.later e1⟩⟩
theorem asg_core {g : TG} {vs : List Nat} {te : TE} {D : L2.Ends} (h : liftS K (sAsg te g) D σ H) : L2.tAsg (lift K te) (liftG K g vs) D σ H := by
  obtain ⟨f, ρ, st, D', R, h, l⟩ := h
  exact ⟨f, ρ, st, _, R, h, fun x st1 v f1 H1 q e1 s1 r1 => ⟨f1, ρ, st1, x, _, R.later e1 s1, r1, q, fun ρ2 st2 σ2 f2 H2 q2 e2 R2 _ => l.nx ρ2 st2 σ2 f2 H2 q2 (e1.trans e2) R2⟩⟩
theorem ps_asg {tg : Expr} {g : TG} {vs : List Nat} (he : PD X e te) (hg : PDG X tg g vs) (hs : swapsWithSole [tg] e pos.line X.env = pure false := by rfl) (hw : swappedStores [tg] e X.env = pure none := by rfl)
    (h1 : (assignEach [tg] X.env).map (·.2) = [assign tg X.env] := by rfl) : PDS X (.Assign [tg] e pos) (sAsg te g) := ps_imp (L2.ps_asg he hg hs hw h1) fun D σ H h => asg_core h
theorem ps_set {i : Nat} {x : Str} {pos' : Pos} (hN : X.N.Nodup) (hi : X.N[i]? = some x) (hx : L2.Loc X.env.scope x) (he : PD X e te) (hs : swapsWith e (some (.Name x pos')) pos.line X.env = pure false := by rfl) (hf : X.fn x = true ∨ X.env.scope.names.lookup x = some .local := by first | exact .inl rfl | exact .inr rfl | assumption) :
    PDS X (.Assign [.Name x pos'] e pos) (sAsg te (gName i)) := ps_imp (L2.ps_set hN hi hx he hs hf) fun D σ H ⟨f, ρ, st, D', R, h, l⟩ =>
  ⟨f, ρ, st, _, R, h, fun y st1 v f1 H1 q e1 s1 r1 => l.nx _ st1 _ f1 H1 q e1 ((R.later e1 s1).put r1)⟩
theorem ps_par {i j : Nat} {x y : Str} {ts : TA} {px py pt : Pos} {kt k2 pt2} (hc : X.calm = true) (hN : X.N.Nodup) (hi : X.N[i]? = some x) (hj : X.N[j]? = some y) (hij : i ≠ j)
    (h0 : L2.PS X (.Assign [.Tuple [.Name x px, .Name y py] kt pt] (.Tuple [a, b] k2 pt2) pos) (L2.tPar i j (liftA X.K ts))) : PDS X (.Assign [.Tuple [.Name x px, .Name y py] kt pt] (.Tuple [a, b] k2 pt2) pos) (sPar i j ts) := ps_imp h0 fun D σ H ⟨f, ρ, st, D', R, h, l⟩ =>
  ⟨f, ρ, st, _, R, h, fun xs st1 vs f1 H1 q e1 s1 r1 => by
    obtain ⟨x, y, rfl, q⟩ := q
    obtain ⟨v, w, rfl, r2, r3⟩ := r1.inv2
    exact ⟨v, w, rfl, l.nx _ st1 _ f1 H1 q e1 (((R.later e1 s1).put r2).put r3)⟩⟩
theorem real_iadd : Real2 K (fun x y H Q => (∃ i j, x = .int i ∧ y = .int j ∧ Q (.int (i + j)) H) ∨ (∃ i j, x = .str i ∧ y = .str j ∧ i.length + j.length ≤ sizeLine ∧ Q (.str (i ++ j)) H)) iaddK := by
  intro f st H x y v w Q' Q s r1 r2 h l
  cases x <;> cases y <;> try (exact h.elim)
  · rw [RD.int] at r1 r2
    exact .inl ⟨_, _, r1, r2, l.now s h (RD.int.mpr rfl)⟩
  · rw [RD.str] at r1 r2
    exact .inr ⟨_, _, r1, r2, by rw [← szl_eq]; exact h.1, l.now s h.2 (RD.str.mpr rfl)⟩
theorem ip_add : L2.PIp X .Add (fun x y H Q => (∃ i j, x = .int i ∧ y = .int j ∧ Q (.int (i + j)) H) ∨ (∃ i j, x = .str i ∧ y = .str j ∧ i.length + j.length ≤ sizeLine ∧ Q (.str (i ++ j)) H)) :=
  fun pins s σ H x y v u Q I rx ry h => (L2.OpR.or (X := X) L2.iop_add L2.iop_add_str) pins s σ H x y v u Q I rx ry h
theorem ip_of {op : Operator} {r : L2.R2} (h : L2.OpR X (inplaceOp op) r) : L2.PIp X op r := fun pins s σ H x y v u Q I rx ry q => h pins s σ H x y v u Q I rx ry q
theorem ps_aug {i : Nat} {x : Str} {op : Operator} {r : L2.R2} {k : K2} {pos' : Pos} (hp : L2.PIp X op r) (hr : Real2 X.K r k) (hN : X.N.Nodup) (hi : X.N[i]? = some x) (hx : L2.Loc X.env.scope x) (he : PD X e te)
    (hf : X.fn x = true ∨ X.env.scope.names.lookup x = some .local := by first | exact .inl rfl | exact .inr rfl | assumption) : PDS X (.AugAssign (.Name x pos') op e pos) (sAug i k te) := ps_imp (L2.ps_aug hN hi hx he hp hf) fun D σ H ⟨f, ρ, st, D', R, h, l⟩ => by
  obtain ⟨d, h1, h⟩ := h
  obtain ⟨v, e, rv⟩ := R.env i d h1
  exact ⟨v, e, f, ρ, st, _, R, h, fun y st1 w f1 H1 q e1 s1 r1 => hr f1 st1 H1 d y v w _ _ s1 (rv.mono e1) r1 q fun z st2 u f2 H2 q2 e2 s2 r2 => l.nx _ st2 _ f2 H2 q2 (e1.trans e2) ((R.later (e1.trans e2) s2).put r2)⟩
/-- xs[i] op= e of a list -/
theorem get_list : L2.PGet X (L2.rIxL X.K) := by
  intro pins s σ H x y v u Q I rx ry h
  obtain ⟨p, xs, i, z, rfl, rfl, hq, he, q⟩ := h
  cases rx
  obtain ⟨t, rfl⟩ := ry
  obtain ⟨its, r, pl, hz⟩ := I.list hq
  obtain ⟨j, h1, h2, h3, h4, h5⟩ := L2.atI_get he
  obtain ⟨w, ew, rw'⟩ := r.get h2
  have hl := r.length
  have hn := L2.line63
  have fin : L2.EP X pins σ Q w s := ⟨z, H, I, rw', q⟩
  by_cases h0 : 0 ≤ i
  · have hj : i.toNat = j := by
      rw [seqIndex_of h0 h5] at h1
      exact Option.some.inj h1
    exact wpAny_getItem_list (x := w) pl.isList h0 (by omega) (by rw [hj]; simpa using ew) fin
  · have hj : (i + (its.toArray.size : Int)).toNat = j := by
      rw [seqIndex_neg (by omega) h4] at h1
      rw [List.size_toArray, ← hl]
      exact Option.some.inj h1
    exact wpAny_getItem_list_neg (x := w) pl.isList (by omega) (by rw [List.size_toArray] <;> omega) (by omega) (by rw [hj]; simpa using ew) fin
theorem real_ixL : Real2 K (L2.rIxL K) ixLK := fun f st H x y v w Q' Q s r1 r2 h l => by
  cases x <;> cases y <;> try (exact h.elim)
  rw [RD.ref] at r1
  rw [RD.int] at r2
  obtain ⟨a, e, rfl⟩ := r1
  obtain ⟨xs, d', h0, h1, h2⟩ := h
  obtain ⟨a', vs, k1, k2, d⟩ := s.rdA h0
  rw [e] at k1; cases k1
  obtain ⟨v, g1, g2⟩ := d.atD h1
  exact ⟨a, vs, _, v, rfl, r2, k2, g1, l.now s h2 g2⟩
theorem ps_augS {op : Operator} {r : L2.R2} {k : K2} (hp : L2.PIp X op r) (hr : Real2 X.K r k) (ho : PD X o to) (hi : PD X i ti) (he : PD X e te)
    (ha : ∀ ov iv new, augStore i ov iv new = (do holding [new, ov, iv] (setItem ov iv new); release [new, ov, iv] []; pure .next) := by intros; rfl) : PDS X (.AugAssign (.Subscript o i tpos) op e pos) (sAugL k to ti te) :=
  ps_imp (L2.ps_augS ho hi get_list he hp L2.set_list ha) fun D σ H ⟨f, ρ, st, D', R, h, l⟩ => ⟨f, ρ, st, _, R, h, fun x st1 v f1 H1 q1 e1 s1 r1 => ⟨f1, ρ, st1, _, R.later e1 s1, q1, fun y st2 w f2 H2 q2 e2 s2 r2 =>
    real_ixL f2 st2 H2 x y v w _ _ s2 (r1.mono e2) r2 q2 fun z st3 u f3 H3 q3 e3 s3 r3 => ⟨f3, ρ, st3, _, R.later ((e1.trans e2).trans e3) s3, q3, fun z' st4 u' f4 H4 q4 e4 s4 r4 =>
      hr f4 st4 H4 z z' u u' _ _ s4 (r3.mono e4) r4 q4 fun z5 st5 u5 f5 H5 q5 e5 s5 r5 =>
        real_set f5 st5 H5 x y z5 v w u5 _ _ s5 (r1.mono (((e2.trans e3).trans e4).trans e5)) (r2.mono ((e3.trans e4).trans e5)) r5 q5 fun st6 H6 q6 e6 s6 =>
          have ee := (((((e1.trans e2).trans e3).trans e4).trans e5).trans e6)
          l.nx ρ st6 σ f5 H6 q6 ee (R.later ee s6)⟩⟩⟩

/-! ### loops -/
theorem ps_for {tg iter : Expr} {wi : TI} {g : TG} {vs : List Nat} {tb : TS} (hp : PassesOwn (model X.prog X.w) X.A X.env X.xe) (hc : X.calm = true) (hi : PDI X tg iter wi) (hg : PDG X tg g vs) (hb : PDSs X ss tb)
    (hs : ∀ x, foldedSetIterable iter X.env x = pure x := by intro _; rfl) : PDS X (.For tg iter ss [] pos) (sFor wi g tb) :=
  ps_imp (L2.ps_for hp hc hi hg hb hs) fun D σ H ⟨f, ρ, st, D', R, h, l⟩ => ⟨f, ρ, st, _, R, h, fun I st1 J f1 H1 q1 e1 s1 rI => by
    refine ⟨fun i m σ2 H2 => m = I.items.length - i ∧ i ≤ I.items.length ∧ ∃ f2 ρ2 st2, Ext X.K f1 H1 f2 H2 ∧ Rel X.K f2 ρ2 st2 σ2 H2 ∧ forLoop I.guard g tb D' (I.items.drop i) ρ2 st2, ⟨_, rfl, Nat.zero_le _, f1, ρ, st1, .refl, R.later e1 s1, by simpa using q1⟩, ?_⟩
    rintro i m σ2 H2 ⟨rfl, hi, f2, ρ2, st2, e2, R2, q2⟩
    by_cases hlt : i < I.items.length
    · have hd : I.items.drop i = I.items[i] :: I.items.drop (i + 1) := by rw [List.drop_eq_getElem_cons hlt]
      rw [hd] at q2
      obtain ⟨gd, q2⟩ := q2
      refine .inr ⟨rI.go i f2 st2 H2 e2 R2.toRelS gd hlt, fun σ3 H3 => ∃ f3 ρ3 st3, Ext X.K f1 H1 f3 H3 ∧ Rel X.K f3 ρ3 st3 σ3 H3 ∧ forLoop I.guard g tb D' (I.items.drop (i + 1)) ρ3 st3, fun σ3 H3 ⟨f3, ρ3, st3, e3, R3, q3⟩ => ⟨I.items.length - (i + 1), by omega, rfl, hlt, f3, ρ3, st3, e3, R3, q3⟩, fun x H3 y => ?_⟩
      obtain ⟨e3, s3, r3⟩ := rI.yld i f2 st2 H2 I.items[i] x H3 e2 R2.toRelS gd (by simp [hlt]) y
      refine ⟨f2, ρ2, st2, I.items[i], _, R2.later e3 s3, r3, q2, fun ρ4 st4 σ4 f4 H4 q4 e4 R4 _ => ⟨f4, ρ4, st4, _, R4, q4, ?_⟩⟩
      have ee := (e1.trans (e2.trans (e3.trans e4)))
      have e1' := (e2.trans (e3.trans e4))
      exact ⟨fun ρ5 st5 σ5 f5 H5 q5 e5 R5 => ⟨f5, ρ5, st5, e1'.trans e5, R5, q5⟩, l.rt.later ee, fun ρ5 st5 σ5 f5 H5 q5 e5 R5 => l.nx ρ5 st5 σ5 f5 H5 q5 (ee.trans e5) R5, fun ρ5 st5 σ5 f5 H5 q5 e5 R5 => ⟨f5, ρ5, st5, e1'.trans e5, R5, q5⟩⟩
    · have e : i = I.items.length := by omega
      subst e
      rw [List.drop_length] at q2
      obtain ⟨gd, q2⟩ := q2
      exact .inl ⟨rI.stop f2 st2 H2 e2 R2.toRelS gd, l.nx ρ2 st2 σ2 f2 H2 q2 (e1.trans e2) R2⟩⟩
theorem ps_while {tb : TS} (hp : PassesOwn (model X.prog X.w) X.A X.env X.xe) (hc : PDT X c tC) (hb : PDSs X ss tb) : PDS X (.While c ss [] pos) (sWhile tC tb) :=
  ps_imp (L2.ps_while hp hc hb) fun D σ H ⟨f, ρ, st, D', R, h, l⟩ => by
    obtain ⟨n, h⟩ := h
    refine ⟨fun m σ2 H2 => ∃ f2 ρ2 st2, Ext X.K f H f2 H2 ∧ Rel X.K f2 ρ2 st2 σ2 H2 ∧ whileN tC tb D' m ρ2 st2, ⟨n, f, ρ, st, .refl, R, h⟩, ?_⟩
    rintro m σ2 H2 ⟨f2, ρ2, st2, e2, R2, q2⟩
    cases m with
    | zero => exact q2.elim
    | succ m =>
      refine ⟨f2, ρ2, st2, _, R2, q2, fun k st3 f3 H3 q3 e3 s3 => ?_⟩
      have ee := e2.trans e3
      cases k with
      | false => exact l.nx ρ2 st3 σ2 f3 H3 (q3.2 rfl) ee (R2.later e3 s3)
      | true =>
        refine ⟨fun σ4 H4 => ∃ f4 ρ4 st4, Ext X.K f H f4 H4 ∧ Rel X.K f4 ρ4 st4 σ4 H4 ∧ whileN tC tb D' m ρ4 st4, fun σ4 H4 q4 => ⟨m, Nat.lt_succ_self _, q4⟩, f3, ρ2, st3, _, R2.later e3 s3, q3.1 rfl, ?_⟩
        exact ⟨fun ρ5 st5 σ5 f5 H5 q5 e5 R5 => ⟨f5, ρ5, st5, ee.trans e5, R5, q5⟩, l.rt.later ee, fun ρ5 st5 σ5 f5 H5 q5 e5 R5 => l.nx ρ5 st5 σ5 f5 H5 q5 (ee.trans e5) R5, fun ρ5 st5 σ5 f5 H5 q5 e5 R5 => ⟨f5, ρ5, st5, ee.trans e5, R5, q5⟩⟩

/-! ### comprehensions -/
abbrev PDTs (X : L2.Cx) (es : List Expr) (t : TT) : Prop := L2.PTs X es (liftT X.K t)
theorem pts_imp {e : List Expr} {t t' : L2.TT} (h : L2.PTs X e t) (m : ∀ σ H Q, t' σ H Q → t σ H Q) : L2.PTs X e t' := ⟨fun pins s σ H Q I q => h.run pins s σ H Q I (m σ H Q q)⟩
theorem pts_nil : PDTs X [] tYes := pts_imp L2.pts_nil fun σ H Q ⟨f, ρ, st, Q', R, h, l⟩ => l true st f H h .refl R.toRelS
theorem pts_one {t : TT} (h : PDT X c t) : PDTs X [c] t := L2.pts_one h
theorem lc_core {wi : TI} {g : TG} {tt : TT} {te : TE} {vs ws : List Nat} {Q : L2.VK} (hws : ∀ j, j ∈ ws → j ∈ vs) (h : lift K (dLc wi g tt te vs) σ H Q) : L2.tLc (liftI K wi) (liftG K g ws) (liftT K tt) (lift K te) vs σ H Q := by
  obtain ⟨f, ρ, st, Q', R, h, l⟩ := h
  refine ⟨f, ρ, st, _, R, h, fun I st1 J f1 H1 q1 e1 s1 rI D hD => ?_⟩
  obtain ⟨s0, e0⟩ := s1.new (o := .lst []) (c := .lst []) hD ⟨[], L2.upd_same, RDs.nil.mpr rfl⟩
  have hn0 : (f1 ++ [D])[st1.length]? = some D := by rw [← s1.len]; simp
  refine ⟨fun i m H2 => m = I.items.length - i ∧ i ≤ I.items.length ∧ ∃ f2 st2 acc, Ext K (f1 ++ [D]) (L2.upd H1 D (.lst [])) f2 H2 ∧ RelS K f2 st2 H2 ∧ rdL st2 st1.length acc ∧ lcLoop I.guard g tt te (wipeE ρ vs) st1.length Q' (I.items.drop i) acc st2,
    ⟨_, rfl, Nat.zero_le _, f1 ++ [D], st1 ++ [.lst []], [], .refl, s0, by unfold rdL; simp, by simpa using q1⟩, ?_⟩
  rintro i m H2 ⟨rfl, hi, f2, st2, acc, e2, s2, hacc, q2⟩
  have eI : Ext K f1 H1 f2 H2 := e0.trans e2
  by_cases hlt : i < I.items.length
  · have hd : I.items.drop i = I.items[i] :: I.items.drop (i + 1) := by rw [List.drop_eq_getElem_cons hlt]
    rw [hd] at q2
    obtain ⟨gd, q2⟩ := q2
    refine .inr ⟨rI.go i f2 st2 H2 eI s2 gd hlt, fun H3 => ∃ f3 st3 acc', Ext K (f1 ++ [D]) (L2.upd H1 D (.lst [])) f3 H3 ∧ RelS K f3 st3 H3 ∧ rdL st3 st1.length acc' ∧ lcLoop I.guard g tt te (wipeE ρ vs) st1.length Q' (I.items.drop (i + 1)) acc' st3,
      fun H3 q3 => ⟨I.items.length - (i + 1), by omega, rfl, hlt, q3⟩, fun x H3 y => ?_⟩
    obtain ⟨e3, s3, r3⟩ := rI.yld i f2 st2 H2 I.items[i] x H3 eI s2 gd (by simp [hlt]) y
    have R3 : Rel K f2 (wipeE ρ vs) st2 (L2.wipe σ vs) H3 := (Rel.wipe R).later ((e1.trans eI).trans e3) s3
    refine ⟨f2, _, st2, I.items[i], _, R3, r3, q2, fun ρ4 st4 σ4 f4 H4 q4 e4 R4 o4 => ⟨Out.wipe ⟨o4.1, fun j hj => o4.2 j fun z => hj (hws j z)⟩, ?_⟩⟩
    refine ⟨f4, ρ4, st4, _, R4, q4, fun b st5 f5 H5 q5 e5 s5 => ?_⟩
    have e15 := e2.trans (e3.trans (e4.trans e5))
    cases b with
    | false =>
      obtain ⟨h1, h2⟩ := q5.2 rfl
      exact ⟨f5, st5, acc, e15, s5, h1, h2⟩
    | true =>
      refine ⟨f5, ρ4, st5, _, R4.later e5 s5, q5.1 rfl, fun y st6 v f6 H6 q6 e6 s6 r6 => ?_⟩
      obtain ⟨h1, h2, h3⟩ := q6
      have e16 := e15.trans e6
      obtain ⟨a', us, k1, k2, k3⟩ := s6.rdL h1
      rw [e16.at hn0] at k1; cases k1
      obtain ⟨s7, e7⟩ := s6.put (e16.at hn0) h1 k2 (k3.append (RDs.one r6))
      refine ⟨us, k2, by rw [k3.length, ← szl_eq]; exact h2, f6, _, acc ++ [y], e16.trans e7, s7, ?_, h3⟩
      have hl : st1.length < st6.length := (List.getElem?_eq_some_iff.mp h1).1
      unfold rdL
      rw [List.getElem?_set_self hl]
  · have e : i = I.items.length := by omega
    subst e
    rw [List.drop_length] at q2
    obtain ⟨gd, h1, h2⟩ := q2
    exact .inl ⟨rI.stop f2 st2 H2 eI s2 gd, l _ st2 _ f2 H2 h2 (e1.trans eI) s2 (RD.ref.mpr ⟨D, e2.at hn0, rfl⟩)⟩
theorem pd_lc {elt tg iter : Expr} {ifs : List Expr} {scope : Scope} {own : List (Str × Nat)} {wi : TI} {g : TG} {tt : TT} {te : TE} {ws : List Nat} (hc : X.calm = true) (hN : X.N.Nodup) (hi : PDI X tg iter wi) (ok : L2.BlkOk X.N X.env.scope scope own)
    (hg : ∀ (s : Shared) (H : Hp) (C : Addr) (cl : List (Str × Addr)) (fp : List Addr), PDG (X.blk s H scope (compEnvC scope cl C X.env) fp) tg g ws) (ht : ∀ (s : Shared) (H : Hp) (C : Addr) (cl : List (Str × Addr)) (fp : List Addr), PDTs (X.blk s H scope (compEnvC scope cl C X.env) fp) ifs tt)
    (he : ∀ (s : Shared) (H : Hp) (C : Addr) (cl : List (Str × Addr)) (fp : List Addr), PD (X.blk s H scope (compEnvC scope cl C X.env) fp) elt te) (hws : ∀ j, j ∈ ws → j ∈ own.map (·.2)) (hs : ∀ x, foldedSetIterable iter X.env x = pure x := by intro _; rfl) :
    PD X (.ListComp elt [⟨tg, iter, ifs, 0⟩] scope pos) (dLc wi g tt te (own.map (·.2))) :=
  pe_imp (L2.pe_lc hc hN hi ok hg ht he hs) fun σ H Q h => lc_core hws h
theorem ps_setLc {j : Nat} {y : Str} {py spos : Pos} {elt tg iter : Expr} {ifs : List Expr} {scope : Scope} {own : List (Str × Nat)} {wi : TI} {g : TG} {tt : TT} {te : TE} {ws : List Nat} (hc : X.calm = true) (hN : X.N.Nodup) (hy : X.N[j]? = some y) (hyl : X.env.scope.names.lookup y = some .local)
    (hsw : swapsWith (.ListComp elt [⟨tg, iter, ifs, 0⟩] scope pos) (some (.Name y py)) spos.line X.env = pure true) (hi : PDI X tg iter wi) (ok : L2.BlkOk X.N X.env.scope scope own)
    (hg : ∀ (s : Shared) (H : Hp) (C : Addr) (cl : List (Str × Addr)) (fp : List Addr), PDG (X.blk s H scope (compEnvC scope cl C X.env) fp) tg g ws) (ht : ∀ (s : Shared) (H : Hp) (C : Addr) (cl : List (Str × Addr)) (fp : List Addr), PDTs (X.blk s H scope (compEnvC scope cl C X.env) fp) ifs tt)
    (he : ∀ (s : Shared) (H : Hp) (C : Addr) (cl : List (Str × Addr)) (fp : List Addr), PD (X.blk s H scope (compEnvC scope cl C X.env) fp) elt te) (hws : ∀ j, j ∈ ws → j ∈ own.map (·.2)) (hs : ∀ x, foldedSetIterable iter X.env x = pure x := by intro _; rfl) :
    PDS X (.Assign [.Name y py] (.ListComp elt [⟨tg, iter, ifs, 0⟩] scope pos) spos) (sAsg (dLc wi g tt te (own.map (·.2))) (gName j)) :=
  ps_imp (L2.ps_setLc hc hN hy hyl hsw hi ok hg ht he hs) fun D σ H ⟨f, ρ, st, D', R, h, l⟩ =>
    lc_core (Q := fun x H1 => L2.gName j x σ H1 D.nx) hws ⟨f, ρ, st, _, R, h, fun x st1 v f1 H1 q e1 s1 r1 => l.nx _ st1 _ f1 H1 q e1 ((R.later e1 s1).put r1)⟩
end
end
end Pd
end PartPdSoundE

section PartPdSoundF
set_option Elab.async false
set_option linter.all false
set_option maxRecDepth 100000
set_option maxHeartbeats 1000000
/-! Pd over the hand layer: methods, isinstance, defs, the end. Own work. -/
namespace Pd
open PySem PySem.Spec
open PyProof.Rows (envOfC)
section
variable {X : L2.Cx} {K : Kf} {f f' : List Addr} {H H' : Hp} {st st' : Store} {ρ : Env} {σ : L2.St}
/-! ### methods -/
def RealM (K : Kf) (r : L2.V → List L2.V → Hp → L2.VK → Prop) (k : KM) : Prop := ∀ (f : List Addr) (st : Store) (H : Hp) (x : D) (xs : List D) (v : L2.V) (vs : List L2.V) (Q' : Pd.K) (Q : L2.VK), RelS K f st H → RD K f H x v → RDs K f H xs vs → k x xs st Q' → LQ K f H Q' Q → r v vs H Q
def RealTy (K : Kf) (T : String) (ty : D → Store → Prop) : Prop := ∀ (f : List Addr) (st : Store) (H : Hp) (x : D) (v : L2.V), RelS K f st H → RD K f H x v → ty x st → L2.tyV K T v H
section
variable {a b c e o i : Expr} {es : List Expr} {ta tb te to ti : TE} {pos apos : Pos} {name : Str} {T id : String}
theorem pd_m {r : L2.V → List L2.V → Hp → L2.VK → Prop} {k : KM} {ty : D → Store → Prop} {ts : TA} (hm : L2.MtR X id r) (hk : RealM X.K r k) (ht : RealTy X.K T ty) (pa : PlainAttrs T) (slot : Slot T name id) (hty : typeOf (.builtin id) = pure (.type "method_descriptor")) (ho : PD X o to) (ha : PDA X (e :: es) ts)
    (hbase : attributeBase o name X.env (eval o X.env) = eval o X.env := by rfl)
    (hfew : ((backTo pos (starEach (e :: es) X.env)).all (fun x => !x.1) && (backToKw pos (keywordEach [] X.env)).all (fun x => x.1.isSome)
      && decide ((e :: es).length + ([] : List Keyword).length + (if ([] : List Keyword).isEmpty then 0 else 1) < 30)) = true := by rfl)
    (hline : (apos.endLine == pos.line) = true := by rfl) (hs : starEach (e :: es) X.env = (false, eval e X.env) :: starEach es X.env := by rfl) (hplain : (backTo pos (starEach es X.env)).any (·.1) = false := by rfl) :
    PD X (.Call (.Attribute o name apos) (e :: es) [] pos) (dM ty k to ts) :=
  pe_imp (L2.pe_bm pa slot hty hm ho ha hbase hfew hline hs hplain) fun σ H Q ⟨f, ρ, st, Q', R, h, l⟩ => ⟨f, ρ, st, _, R, h, fun x st1 v f1 H1 q1 e1 s1 r1 => ⟨ht f1 st1 H1 x v s1 r1 q1.1, f1, ρ, st1, _, R.later e1 s1, q1.2, fun xs st2 vs f2 H2 q2 e2 s2 r2 => hk f2 st2 H2 x xs v vs Q' Q s2 (r1.mono e2) r2 q2 (l.later (e1.trans e2))⟩⟩
end
theorem ty_list : RealTy K "list" tyLst := fun f st H x v s r h => by
  cases x <;> try (exact h.elim)
  rw [RD.ref] at r
  obtain ⟨a, e, rfl⟩ := r
  obtain ⟨xs, h⟩ := h
  obtain ⟨a', vs, k1, k2, k3⟩ := s.rdL h
  rw [e] at k1; cases k1
  exact .inl ⟨rfl, vs, .of k2⟩
theorem ty_str : RealTy K "str" tyStr := fun f st H x v s r h => by
  cases x <;> try (exact h.elim)
  rw [RD.str] at r
  subst r
  rfl
theorem real_append : RealM K L2.rAppend appendM := fun f st H x xs v vs Q' Q s r1 r2 h l => by
  cases x <;> try (exact h.elim)
  match xs, h with
  | [], h => exact h.elim
  | _ :: _ :: _, h => exact h.elim
  | [y], h =>
    rw [RD.ref] at r1
    obtain ⟨a, e, rfl⟩ := r1
    obtain ⟨w, rfl, r3⟩ := r2.inv1
    obtain ⟨ys, h1, h2, h3⟩ := h
    obtain ⟨a', us, k1, k2, k3⟩ := s.rdL h1
    rw [e] at k1; cases k1
    obtain ⟨s', e'⟩ := s.put e h1 k2 (k3.append (RDs.one r3))
    exact ⟨a, us, w, rfl, rfl, k2, by rw [k3.length, ← szl_eq]; exact h2, l _ _ _ f _ h3 e' s' (RD.non.mpr rfl)⟩
theorem real_extend : RealM K L2.rExtend extendM := fun f st H x xs v vs Q' Q s r1 r2 h l => by
  cases x <;> try (exact h.elim)
  match xs, h with
  | [], h => exact h.elim
  | _ :: _ :: _, h => rename_i y _ _; cases y <;> exact h.elim
  | [.non], h => exact h.elim
  | [.bl _], h => exact h.elim
  | [.int _], h => exact h.elim
  | [.str _], h => exact h.elim
  | [.tup _], h => exact h.elim
  | [.ref m], h =>
    rw [RD.ref] at r1
    obtain ⟨a, e, rfl⟩ := r1
    obtain ⟨w, rfl, r3⟩ := r2.inv1
    rw [RD.ref] at r3
    obtain ⟨b, e2, rfl⟩ := r3
    obtain ⟨ys, zs, h1, h2, h3, h4, h5⟩ := h
    obtain ⟨a', us, k1, k2, k3⟩ := s.rdL h1
    obtain ⟨b', ws, j1, j2, j3⟩ := s.rdL h2
    rw [e] at k1; cases k1
    rw [e2] at j1; cases j1
    obtain ⟨s', e'⟩ := s.put e h1 k2 (k3.append j3)
    exact ⟨a, b, us, ws, rfl, rfl, k2, j2, by rw [k3.length, j3.length, ← szl_eq]; exact h4, l _ _ _ f _ h5 e' s' (RD.non.mpr rfl)⟩
theorem real_popAt : RealM K L2.rPopAt popM := fun f st H x xs v vs Q' Q s r1 r2 h l => by
  cases x <;> try (exact h.elim)
  match xs, h with
  | [], h => exact h.elim
  | _ :: _ :: _, h => rename_i y _ _; cases y <;> exact h.elim
  | [.non], h => exact h.elim
  | [.bl _], h => exact h.elim
  | [.ref _], h => exact h.elim
  | [.str _], h => exact h.elim
  | [.tup _], h => exact h.elim
  | [.int i], h =>
    rw [RD.ref] at r1
    obtain ⟨a, e, rfl⟩ := r1
    obtain ⟨w, rfl, r3⟩ := r2.inv1
    rw [RD.int] at r3
    subst r3
    obtain ⟨ys, d, h1, h2, h3, h4⟩ := h
    obtain ⟨a', us, k1, k2, k3⟩ := s.rdL h1
    rw [e] at k1; cases k1
    unfold atD at h3
    rw [if_pos h2.1] at h3
    have hl := (List.getElem?_eq_some_iff.mp h3).1
    obtain ⟨u, g1, g2⟩ := k3.get h3
    obtain ⟨s', e'⟩ := s.put e h1 k2 (k3.eraseIdx i.toNat)
    have hus := k3.length
    exact ⟨a, us, i, i.toNat, u, rfl, rfl, k2, by omega, by omega, seqIndex_of h2.1 (by omega), g1, l _ _ _ f _ h4 e' s' (g2.mono e')⟩
theorem real_index : RealM K (L2.rIndex K) indexM := fun f st H x xs v vs Q' Q s r1 r2 h l => by
  cases x <;> try (exact h.elim)
  match xs, h with
  | [], h => exact h.elim
  | _ :: _ :: _, h => exact h.elim
  | [y], h =>
    rw [RD.ref] at r1
    obtain ⟨a, e, rfl⟩ := r1
    obtain ⟨w, rfl, r3⟩ := r2.inv1
    obtain ⟨ys, j, z, h1, h2, h3, h4, h5, h6, h7⟩ := h
    obtain ⟨a', us, k1, k2, k3⟩ := s.rdA h1
    rw [e] at k1; cases k1
    obtain ⟨u, g1, g2⟩ := k3.get h4
    have fl : ∀ (m : Nat) (z : D), ys[m]? = some z → z.flat = true := fun m z hz => by
      rw [List.all_eq_true] at h3
      exact h3 z (List.mem_of_getElem? hz)
    refine ⟨a, us, w, j, u, rfl, rfl, k2, r3.flatV h2, k3.flatV h3, g1, by rw [g2.eqV r3 (fl j z h4) h2]; exact h5, fun m z' hm hz => ?_, l.now s h7 (RD.int.mpr rfl)⟩
    have hml : m < ys.length := by rw [← k3.length]; exact (List.getElem?_eq_some_iff.mp hz).1
    obtain ⟨u', g3, g4⟩ := k3.get (show ys[m]? = some ys[m] by simp [hml])
    rw [hz] at g3; cases g3
    rw [g4.eqV r3 (fl m _ (by simp [hml])) h2]
    exact h6 m _ hm (by simp [hml])

/-! ### the built-ins' values -/
theorem bt_int : bootBuiltins "int" = some (.type "int") := by decide +kernel
theorem bt_abs : bootBuiltins "abs" = some (.builtin "abs") := by decide +kernel
theorem bt_len : bootBuiltins "len" = some (.builtin "len") := by decide +kernel
theorem bt_min : bootBuiltins "min" = some (.builtin "min") := by decide +kernel
theorem bt_max : bootBuiltins "max" = some (.builtin "max") := by decide +kernel
theorem bt_list : bootBuiltins "list" = some (.type "list") := by decide +kernel
theorem bt_tuple : bootBuiltins "tuple" = some (.type "tuple") := by decide +kernel
theorem bt_sum : bootBuiltins "sum" = some (.builtin "sum") := by decide +kernel
theorem bt_all : bootBuiltins "all" = some (.builtin "all") := by decide +kernel
theorem bt_any : bootBuiltins "any" = some (.builtin "any") := by decide +kernel
theorem bt_sorted : bootBuiltins "sorted" = some (.builtin "sorted") := by decide +kernel
theorem bt_bool : bootBuiltins "bool" = some (.type "bool") := by decide +kernel
theorem bt_str : bootBuiltins "str" = some (.type "str") := by decide +kernel
theorem bt_repr : bootBuiltins "repr" = some (.builtin "repr") := by decide +kernel
theorem bt_set : bootBuiltins "set" = some (.type "set") := by decide +kernel
theorem bt_dict : bootBuiltins "dict" = some (.type "dict") := by decide +kernel

/-! ### isinstance -/
def tyN : Ty → String
  | .int => "int" | .bool => "bool" | .str => "str" | .tuple => "tuple" | .list => "list"
theorem SqT.ty {a : Addr} {vs : List L2.V} (h : L2.SqT K H a vs) : L2.TyX K H (.ref a) (.type "tuple") := by
  rcases h with (h | ⟨o, h⟩) | ⟨o, its, n, h1, h2, _⟩
  · exact .base (.tup h)
  · exact .fTuple h
  · exact .kTuple h1 h2
theorem isTy_kit {x : D} {v : L2.V} {t : Ty} {Q' : Bool → Prop} (s : RelS K f st H) (r : RD K f H x v) (h : isTy x st t Q') : ∃ (u : Value) (b : Bool), L2.TyX K H v u ∧ PySem.W.kitOne K u (.type (tyN t)) = some b ∧ Q' b := by
  cases x with
  | non => rw [RD.non] at r; subst r; exact ⟨_, false, .base .non, L2.kit_ty (by cases t <;> decide +kernel), h⟩
  | bl b => rw [RD.bl] at r; subst r; exact ⟨_, _, .base (.bl b), L2.kit_ty (by cases t <;> decide +kernel), h⟩
  | int i => rw [RD.int] at r; subst r; exact ⟨_, _, .base (.int i), L2.kit_ty (by cases t <;> decide +kernel), h⟩
  | str y => rw [RD.str] at r; subst r; exact ⟨_, _, .base (.str y), L2.kit_ty (by cases t <;> decide +kernel), h⟩
  | tup xs =>
    rw [RD.tup] at r
    obtain ⟨a, vs, rfl, q, d⟩ := r
    exact ⟨_, _, SqT.ty q, L2.kit_ty (by cases t <;> decide +kernel), h⟩
  | ref n =>
    rw [RD.ref] at r
    obtain ⟨a, e, rfl⟩ := r
    obtain ⟨xs, h1, h2⟩ := h
    obtain ⟨a', vs, k1, k2, k3⟩ := s.rdL h1
    rw [e] at k1; cases k1
    exact ⟨_, _, .base (.lst k2), L2.kit_ty (by cases t <;> decide +kernel), h2⟩
theorem pd_isi {a : Expr} {ta : TE} {p pos q : Pos} {T : Str} (t : Ty) (hg : L2.Gl X "isinstance") (hm : X.mg "isinstance" = none) (hT : T = Str.ofString (tyN t)) (hgT : L2.Gl X T) (hmT : X.mg T = none) (hv : bootBuiltins T = some (.type (tyN t))) (ha : PD X a ta)
    (hs : starEach [a, .Name T q] X.env = (false, eval a X.env) :: starEach [.Name T q] X.env := by rfl) : PD X (.Call (.Name "isinstance" p) [a, .Name T q] [] pos) (dIsi t ta) := by
  have hT1 : T ≠ "__name__" := by rw [hT]; cases t <;> decide
  have hT2 : (T == ("__debug__" : Str)) = false := by rw [hT]; cases t <;> decide
  have pT : L2.PE X (.Name T q) (L2.tC (.ty (tyN t))) := L2.pe_bltn hgT hmT hv rfl hT1 hT2
  refine pe_imp (L2.pe_callB L2.call_isi hg hm (by decide +kernel) (L2.pa_cons ha (L2.pa_cons pT L2.pa_nil rfl) hs) (by decide) (by decide) hs rfl) fun σ H Q ⟨f, ρ, st, Q', R, h, l⟩ => ⟨f, ρ, st, _, R, h, fun x st1 v f1 H1 q1 e1 s1 r1 => ?_⟩
  obtain ⟨u, b, h1, h2, h3⟩ := isTy_kit s1 r1 q1
  exact ⟨v, .ty (tyN t), u, _, b, rfl, .ty _, h1, h2, l _ st1 _ f1 H1 h3 e1 s1 (RD.bl.mpr rfl)⟩

/-! ### defs -/
theorem start_rel {n : Nat} {ds : List D} {vs : List L2.V} {N : List Str} (s : RelS K f st H) (r : RDs K f H ds vs) (hn : n = N.length) : Rel K f (start n ds) st (L2.start N vs) H := by
  have hl := r.length
  have lk_app : ∀ (ds : List D) (m i : Nat) (d : D), lk (ds.map some ++ List.replicate m none) i = some d → ds[i]? = some d := by
    intro ds
    induction ds with
    | nil =>
      intro m
      induction m with
      | zero => intro i d h; simp [lk] at h
      | succ m ih =>
        intro i d h
        cases i with
        | zero => simp [lk, List.replicate_succ] at h
        | succ i =>
          have := ih i d (by simpa [lk, List.replicate_succ] using h)
          simp at this
    | cons x ds ih =>
      intro m i d h
      cases i with
      | zero => simpa [lk] using h
      | succ i =>
        have := ih m i d (by simpa [lk] using h)
        simpa using this
  refine ⟨s, fun i d h => ?_, ?_⟩
  · have hd := lk_app ds _ i d h
    obtain ⟨v, h1, h2⟩ := r.get hd
    refine ⟨v, ?_, h2⟩
    unfold L2.start
    have hi := (List.getElem?_eq_some_iff.mp h1).1
    rw [List.getElem?_append_left (by simpa using hi), List.getElem?_map, h1]
    rfl
  · unfold start L2.start
    simp only [List.length_append, List.length_map, List.length_replicate]
    omega
/-- the def's own facts, and that its body keeps what is run -/
structure Step (P : Program) (w : World) (K : Kf) (mg : Str → Option Value) (base : Heap) (names : List String) (x : String) (d : Def) : Prop where
  ex : ∃ (fa : Addr) (fd : FuncData) (ps : List Str), mg x = some (.ref fa) ∧ PySem.W.keepIn K (.ref fa) = true ∧ L2.Binds K fd ps [] ∧ d.ps = ps.length ∧
    ∀ (k : Nat) (c : Cl), (∀ y ∈ names, Own P w K mg base k (Str.ofString y) (c y)) → L2.FnOk P w K mg base L2.CX0 (k + 1) fa fd ps (liftF K ps.length (d.run c))
variable {P : Program} {w : World} {mg : Str → Option Value} {base : Heap} {names : List String}
theorem fn_ok {qual x : Str} {sm : Stmt} {fa : Addr} {fd : FuncData} {N ps : List Str} {k : Nat} {d : Def} {c : Cl} (F : L2.Fun K x qual sm fa fd) (S : L2.FnScope N ps (L2.defScope sm)) (hn : d.ns = N.length) (hp : d.ps = ps.length)
    (der : ∀ (cdv : Value) (A : Around) (outer : List PySem.Env) (s : Shared) (H : Hp) (E : L2.XK), L2.Room k (A.deeper (envOfC qual (L2.defScope sm) s.heap.objs.size fa cdv)) →
      PDSs (L2.cxOf L2.CX0 P w K mg base N qual (L2.defScope sm) fa cdv A outer s H E).nox (L2.defBody sm) (d.body c)) : L2.FnOk P w K mg base L2.CX0 (k + 1) fa fd ps (liftF K ps.length (d.run c)) := by
  refine F.ok S (fun vs H Q E h => h.1) (fun cdv A outer s H vs Q E hr h => ⟨_, der cdv A outer s H E hr, ?_⟩)
  obtain ⟨_, f, st, ds, Q', s', r, ⟨hl, h⟩, l⟩ := h
  refine ⟨f, start d.ns ds, st, _, start_rel s' r hn, h, ?_⟩
  exact ⟨fun ρ1 st1 σ1 f1 H1 q e r1 => l .non st1 .non f1 H1 q e r1.toRelS (RD.non.mpr rfl), l, fun _ _ _ _ _ q _ _ => q, fun _ _ _ _ _ q _ _ => q⟩
theorem fn_zero {fa : Addr} {fd : FuncData} {ps : List Str} {n : Nat} : L2.FnOk P w K mg base L2.CX0 0 fa fd ps (liftF K n fun _ _ _ => False) :=
  ⟨fun vs H Q E h => by obtain ⟨_, _, _, _, _, _, _, h, _⟩ := h; exact h.elim, fun A outer s H args us vs Q E hr e0 hb hv h => by obtain ⟨_, _, _, _, _, _, _, h, _⟩ := h; exact h.elim⟩
theorem all_own {prog : String → Option Def} (hs : ∀ x ∈ names, ∃ d, prog x = some d ∧ Step P w K mg base names x d) : ∀ (k : Nat) (x : String), x ∈ names → Own P w K mg base k (Str.ofString x) (callN prog k x)
  | 0, x, hx => by
    obtain ⟨d, h1, fa, fd, ps, h2, h3, h4, h5, h6⟩ := hs x hx
    exact ⟨fa, fd, ps, fn_zero, h2, h3, h4, fun _ _ _ h => h.elim⟩
  | k + 1, x, hx => by
    obtain ⟨d, h1, fa, fd, ps, h2, h3, h4, h5, h6⟩ := hs x hx
    refine ⟨fa, fd, ps, (h6 k _ fun y hy => all_own hs k y hy).imp fun vs H Q E ⟨g0, f, st, ds, Q', s, r, ⟨d', e', g⟩, l⟩ => ?_, h2, h3, h4, fun ds st Q ⟨d', e', g⟩ => ?_⟩
    · rw [h1] at e'; cases e'
      exact ⟨g0, f, st, ds, Q', s, r, g, l⟩
    · rw [h1] at e'; cases e'
      exact g.1.trans h5
/-- the law's call, from the data-level statement -/
theorem law_sp {c : List D → Store → Pd.K → Prop} {H : Hp} {a : Addr} {ns : List Int} (h : c [.ref 0] [.frz (ns.map D.int)] fun d _ => d = .bl true) (hO : L2.Only H) (hS : L2.SqL K H a (ns.map L2.V.int)) : liftF K 1 c [.ref a] H (fun v _ => v = .bl true) fun _ _ _ => False := by
  refine ⟨rfl, [a], [.frz (ns.map D.int)], [.ref 0], _, ⟨rfl, fun n m c c' b h1 h2 m1 m2 h3 h4 => ?_, fun n c' b h1 h2 => ?_⟩, RDs.one (RD.ref.mpr ⟨a, rfl, rfl⟩), h, fun d st' v f' H' q e s r => ?_⟩
  · match n, h1 with
    | 0, h1 => simp at h1; subst h1; cases m1
    | n + 1, h1 => simp at h1
  · match n, h1, h2 with
    | 0, h1, h2 =>
      simp at h1 h2
      subst h1; subst h2
      refine ⟨ns.map L2.V.int, ?_, RDs.of_ints ns⟩
      rcases hS with (hS | ⟨o, hS⟩) | hS
      · rcases hO a with q | ⟨o, xs, q⟩ <;> rw [q] at hS <;> cases hS
      · exact .inl ⟨o, hS⟩
      · exact .inr hS
    | n + 1, h1, _ => simp at h1
  · subst q
    rw [RD.bl] at r
    exact r
end
end Pd
end PartPdSoundF

section PartPdTac
set_option Elab.async false
set_option linter.all false
set_option maxRecDepth 100000
/-! Pd: how a data-level statement is walked. Own work. -/
namespace Pd
open PySem

/-- one step of a reading: it suffices to show P' -/
class Red (P : Prop) (P' : outParam Prop) : Prop where
  red : P' → P
/-- look-up and store of slots, by the environment's shape -/
class Lk (σ : Env) (i : Nat) (d : outParam D) : Prop where
  eq : lk σ i = some d
class SetE (σ : Env) (i : Nat) (d : Option D) (σ' : outParam Env) : Prop where
  eq : σ.set i d = σ'
instance : Lk (some d :: σ) 0 d := ⟨rfl⟩
instance [h : Lk σ n d] : Lk (x :: σ) (n + 1) d := ⟨h.eq⟩
instance : SetE (x :: σ) 0 d (d :: σ) := ⟨rfl⟩
instance [h : SetE σ n d σ'] : SetE (x :: σ) (n + 1) d (x :: σ') := ⟨by rw [List.set_cons_succ, h.eq]⟩
class WipeE (σ : Env) (vs : List Nat) (σ' : outParam Env) : Prop where
  eq : wipeE σ vs = σ'
instance : WipeE σ [] σ := ⟨rfl⟩
instance [h : WipeE σ vs σ'] [h2 : SetE σ' v none σ''] : WipeE σ (v :: vs) σ'' := ⟨by show (wipeE σ vs).set v none = σ''; rw [h.eq, h2.eq]⟩

section
variable {σ σ' : Env} {st st' : Store} {Q : K} {d x y z : D} {ta tb tc te to ti : TE} {T U : TT} {Ar Br : TA} {D0 : Ends} {S S' : TS} {xs ys : List D}
-- statements
instance : Red (sSeq S S' D0 σ st) (S { D0 with nx := fun σ' st' => Nxt (S' D0 σ' st') } σ st) := ⟨id⟩
instance : Red (sNext D0 σ st) (D0.nx σ st) := ⟨id⟩
instance : Red (sBreak D0 σ st) (D0.bk σ st) := ⟨id⟩
instance : Red (sCont D0 σ st) (D0.ct σ st) := ⟨id⟩
instance : Red (sExpr te D0 σ st) (te σ st fun _ st1 => D0.nx σ st1) := ⟨id⟩
instance : Red (sRet te D0 σ st) (te σ st D0.rt) := ⟨id⟩
instance : Red (sRetN D0 σ st) (D0.rt .non st) := ⟨id⟩
instance : Red (sIf T S S' D0 σ st) (T σ st fun b st1 => (b = true → S D0 σ st1) ∧ (b = false → S' D0 σ st1)) := ⟨id⟩
instance {g : TG} : Red (sAsg te g D0 σ st) (te σ st fun x st1 => g x σ st1 D0.nx) := ⟨id⟩
instance : Red (sPar i j Ar D0 σ st) (Ar σ st fun xs st1 => ∃ x y, xs = [x, y] ∧ D0.nx ((σ.set i (some x)).set j (some y)) st1) := ⟨id⟩
instance [h : Lk σ i x] : Red (sAug i k te D0 σ st) (te σ st fun y st1 => k x y st1 fun z st2 => gName i z σ st2 D0.nx) := ⟨fun p => ⟨x, h.eq, p⟩⟩
instance : Red (sAugL k to ti te D0 σ st) (to σ st fun o st1 => ti σ st1 fun i st2 => ixLK o i st2 fun x st3 => te σ st3 fun y st4 => k x y st4 fun z st5 => setK o i z st5 fun st6 => D0.nx σ st6) := ⟨id⟩
instance {i : TI} {g : TG} : Red (sFor i g S D0 σ st) (i σ st fun I st1 => forLoop I.guard g S D0 I.items σ st1) := ⟨id⟩
-- targets
instance {q : Env → Store → Prop} [h : SetE σ i (some d) σ'] : Red (gName i d σ st q) (q σ' st) := ⟨fun p => by show q (σ.set i (some d)) st; rw [h.eq]; exact p⟩
instance {q : Env → Store → Prop} : Red (gSub to ti d σ st q) (to σ st fun o st1 => ti σ st1 fun i st2 => setK o i d st2 fun st3 => q σ st3) := ⟨id⟩
instance {q : Env → Store → Prop} {gs : TGs} : Red (gTup gs n (.tup xs) σ st q) (xs.length = n ∧ gs xs σ st q) := ⟨fun p => ⟨xs, rfl, p⟩⟩
instance {q : Env → Store → Prop} : Red (gsNil [] σ st q) (q σ st) := ⟨fun p => ⟨rfl, p⟩⟩
instance {q : Env → Store → Prop} {g : TG} {gs : TGs} : Red (gsCons g gs (d :: xs) σ st q) (g d σ st fun σ1 st1 => gs xs σ1 st1 q) := ⟨fun p => ⟨d, xs, rfl, p⟩⟩
-- expressions
instance : Red (dC d σ st Q) (Q d st) := ⟨id⟩
instance [h : Lk σ i d] : Red (dVar i σ st Q) (Q d st) := ⟨fun p => ⟨d, h.eq, p⟩⟩
instance : Red (dOp k ta tb σ st Q) (ta σ st fun x st1 => tb σ st1 fun y st2 => k x y st2 Q) := ⟨id⟩
instance : Red (dUn k ta σ st Q) (ta σ st fun x st1 => k x st1 Q) := ⟨id⟩
instance : Red (dCmp k ta tb σ st Q) (ta σ st fun x st1 => tb σ st1 fun y st2 => k x y st2 fun b => Q (.bl b) st2) := ⟨id⟩
instance : Red (dChain k k' ta tb tc σ st Q) (ta σ st fun x st1 => tb σ st1 fun y st2 => k x y st2 fun b => (b = true → tc σ st2 fun z st3 => k' y z st3 fun b' => Q (.bl b') st3) ∧ (b = false → Q (.bl false) st2)) := ⟨id⟩
instance : Red (dAndT ta tb σ st Q) (ta σ st fun x st1 => truK x st1 fun c => (c = true → tb σ st1 Q) ∧ (c = false → Q x st1)) := ⟨id⟩
instance : Red (dOrT ta tb σ st Q) (ta σ st fun x st1 => truK x st1 fun c => (c = true → Q x st1) ∧ (c = false → tb σ st1 Q)) := ⟨id⟩
instance : Red (dNotT ta σ st Q) (ta σ st fun x st1 => truK x st1 fun c => Q (.bl (!c)) st1) := ⟨id⟩
instance : Red (dIf T ta tb σ st Q) (T σ st fun k st1 => (k = true → ta σ st1 Q) ∧ (k = false → tb σ st1 Q)) := ⟨id⟩
instance : Red (dSl te tl th σ st Q) (te σ st fun x st1 => tl σ st1 fun lo st2 => th σ st2 fun hi st3 => slK x lo hi st3 Q) := ⟨id⟩
instance {q : Option Int → Store → Prop} : Red (oNone σ st q) (q none st) := ⟨id⟩
instance {q : Option Int → Store → Prop} : Red (oSome te σ st q) (te σ st fun x st1 => ∃ i, x = .int i ∧ q (some i) st1) := ⟨id⟩
instance {q : List D → Store → Prop} : Red (aNil σ st q) (q [] st) := ⟨id⟩
instance {q : List D → Store → Prop} : Red (aCons te Ar σ st q) (te σ st fun x st1 => Ar σ st1 fun xs st2 => q (x :: xs) st2) := ⟨id⟩
instance : Red (dTup Ar σ st Q) (Ar σ st fun xs st1 => xs.length ≤ szl ∧ Q (.tup xs) st1) := ⟨id⟩
instance : Red (dLst Ar σ st Q) (Ar σ st fun xs st1 => xs.length ≤ szl ∧ Q (.ref st1.length) (st1 ++ [.lst xs])) := ⟨id⟩
instance : Red (dCall c f Ar σ st Q) (Ar σ st fun xs st1 => c f xs st1 Q) := ⟨id⟩
instance : Red (dB k Ar σ st Q) (Ar σ st fun xs st1 => k xs st1 Q) := ⟨id⟩
instance : Red (dM ty k to Ar σ st Q) (to σ st fun o st1 => ty o st1 ∧ Ar σ st1 fun xs st2 => k o xs st2 Q) := ⟨id⟩
instance : Red (dIsi t te σ st Q) (te σ st fun x st1 => isTy x st1 t fun b => Q (.bl b) st1) := ⟨id⟩
instance {i : TI} {g : TG} [h : WipeE σ vs σ'] : Red (dLc i g T te vs σ st Q) (i σ st fun I st1 => lcLoop I.guard g T te σ' st1.length Q I.items [] (st1 ++ [.lst []])) := ⟨fun p => by unfold dLc; rw [h.eq]; exact p⟩
-- tests
instance {q : Bool → Store → Prop} : Red (tTru te σ st q) (te σ st fun x st1 => truK x st1 fun b => q b st1) := ⟨id⟩
instance {q : Bool → Store → Prop} : Red (tAnd T U σ st q) (T σ st fun c st1 => (c = true → U σ st1 q) ∧ (c = false → q false st1)) := ⟨id⟩
instance {q : Bool → Store → Prop} : Red (tOr T U σ st q) (T σ st fun c st1 => (c = true → q true st1) ∧ (c = false → U σ st1 q)) := ⟨id⟩
instance {q : Bool → Store → Prop} : Red (tNot T σ st q) (T σ st fun c st1 => q (!c) st1) := ⟨id⟩
instance {q : Bool → Store → Prop} : Red (tYes σ st q) (q true st) := ⟨id⟩
-- iterables
instance {R : Iter → Store → Prop} : Red (iSeq te σ st R) (te σ st fun x st1 => itK x st1 R) := ⟨id⟩
instance {R : Iter → Store → Prop} : Red (iR1 te σ st R) (te σ st fun x st1 => ∃ j, x = .int j ∧ -(2 ^ 62) ≤ j ∧ j < 2 ^ 62 ∧ R ⟨rng 0 j.toNat, fun _ => True⟩ st1) := ⟨id⟩
instance {R : Iter → Store → Prop} : Red (iR2 ta tb σ st R) (ta σ st fun x st1 => tb σ st1 fun y st2 => ∃ i j, x = .int i ∧ y = .int j ∧ (-(2 ^ 62) ≤ i ∧ i < 2 ^ 62 ∧ -(2 ^ 62) ≤ j ∧ j < 2 ^ 62) ∧ R ⟨rng i (j - i).toNat, fun _ => True⟩ st2) := ⟨id⟩
instance {R : Iter → Store → Prop} : Red (iZip2 ta tb σ st R) (ta σ st fun x st1 => tb σ st1 fun y st2 => zipK x y st2 R) := ⟨id⟩
instance {R : Iter → Store → Prop} : Red (itK (.tup xs) st R) (R ⟨xs, fun _ => True⟩ st) := ⟨id⟩
instance {R : Iter → Store → Prop} : Red (zipK (.tup xs) (.tup ys) st R) (R ⟨zipD xs ys, fun _ => True⟩ st) := ⟨id⟩
-- values
section
variable {a b : Int} {u v : Str} {p q : Bool}
instance : Red (addK (.int a) (.int b) st Q) (Q (.int (a + b)) st) := ⟨id⟩
instance : Red (addK (.tup xs) (.tup ys) st Q) (xs.length + ys.length ≤ szl ∧ Q (.tup (xs ++ ys)) st) := ⟨id⟩
instance : Red (addK (.str u) (.str v) st Q) (u.length + v.length ≤ szl ∧ Q (.str (u ++ v)) st) := ⟨id⟩
instance : Red (iaddK (.int a) (.int b) st Q) (Q (.int (a + b)) st) := ⟨id⟩
instance : Red (subK (.int a) (.int b) st Q) (Q (.int (a - b)) st) := ⟨id⟩
instance : Red (mulK (.int a) (.int b) st Q) (cMul a b ∧ Q (.int (a * b)) st) := ⟨id⟩
instance : Red (fdivK (.int a) (.int b) st Q) ((0 < b ∧ b < 1073741824) ∧ Q (.int (a / b)) st) := ⟨id⟩
instance : Red (modK (.int a) (.int b) st Q) (0 < b ∧ Q (.int (a % b)) st) := ⟨id⟩
instance : Red (powK (.int a) (.int b) st Q) (cPow a b ∧ Q (.int (a ^ b.toNat)) st) := ⟨id⟩
instance : Red (shlK (.int a) (.int b) st Q) (cPow a b ∧ Q (.int (a * 2 ^ b.toNat)) st) := ⟨id⟩
instance : Red (shrK (.int a) (.int b) st Q) (0 ≤ b ∧ Q (.int (a / 2 ^ b.toNat)) st) := ⟨id⟩
instance : Red (andK (.int a) (.int b) st Q) (Q (.int (Builtin.bitAnd a b)) st) := ⟨id⟩
instance : Red (orK (.int a) (.int b) st Q) (Q (.int (Builtin.bitOr a b)) st) := ⟨id⟩
instance : Red (xorK (.int a) (.int b) st Q) (Q (.int (Builtin.bitXor a b)) st) := ⟨id⟩
instance : Red (negK (.int a) st Q) (Q (.int (-a)) st) := ⟨id⟩
instance : Red (invK (.int a) st Q) (Q (.int (Builtin.bitNot a)) st) := ⟨id⟩
instance {r : Bool → Prop} : Red (ltC (.int a) (.int b) st r) (r (decide (a < b))) := ⟨id⟩
instance {r : Bool → Prop} : Red (leC (.int a) (.int b) st r) (r (decide (a ≤ b))) := ⟨id⟩
instance {r : Bool → Prop} : Red (gtC (.int a) (.int b) st r) (r (decide (b < a))) := ⟨id⟩
instance {r : Bool → Prop} : Red (geC (.int a) (.int b) st r) (r (decide (b ≤ a))) := ⟨id⟩
theorem eq_ii {r : Bool → Prop} (h : r (decide (a = b))) : eqC (.int a) (.int b) st r := by
  have e : D.eqb (.int a) (.int b) = decide (a = b) := by
    simp only [D.eqb]
    by_cases e : a = b <;> simp [e]
  refine ⟨by simp [D.okd], by simp [D.okd], ?_⟩
  rw [e]; exact h
theorem eq_ss {r : Bool → Prop} (h : okS u = true ∧ okS v = true ∧ r (decide (u = v))) : eqC (.str u) (.str v) st r := by
  refine ⟨by simpa [D.okd] using h.1, by simpa [D.okd] using h.2.1, ?_⟩
  simpa [D.eqb] using h.2.2
instance {r : Bool → Prop} : Red (eqC (.int a) (.int b) st r) (r (decide (a = b))) := ⟨eq_ii⟩
instance {r : Bool → Prop} : Red (neC (.int a) (.int b) st r) (r (!decide (a = b))) := ⟨fun h => eq_ii (r := fun b => r (!b)) h⟩
instance {r : Bool → Prop} : Red (eqC (.str u) (.str v) st r) (okS u = true ∧ okS v = true ∧ r (decide (u = v))) := ⟨eq_ss⟩
instance {r : Bool → Prop} : Red (neC (.str u) (.str v) st r) (okS u = true ∧ okS v = true ∧ r (!decide (u = v))) := ⟨fun h => eq_ss (r := fun b => r (!b)) h⟩
instance {r : Bool → Prop} : Red (isC x .non st r) (r (isNon x)) := ⟨fun h => by cases x <;> exact h⟩
instance {r : Bool → Prop} : Red (isntC x .non st r) (r (!isNon x)) := ⟨fun h => by cases x <;> exact h⟩
instance {r : Bool → Prop} : Red (truK (.bl p) st r) (r p) := ⟨id⟩
instance {r : Bool → Prop} : Red (truK (.int a) st r) (r (a != 0)) := ⟨id⟩
instance {r : Bool → Prop} : Red (truK .non st r) (r false) := ⟨id⟩
instance {r : Bool → Prop} : Red (truK (.tup xs) st r) (r (!xs.isEmpty)) := ⟨id⟩
instance : Red (ixK (.tup xs) (.int a) st Q) (∃ d, atD xs a = some d ∧ Q d st) := ⟨id⟩
instance : Red (slK (.tup xs) lo hi st Q) (Q (.tup (cutD xs lo hi)) st) := ⟨id⟩
instance : Red (intB [.int a] st Q) (Q (.int a) st) := ⟨id⟩
instance : Red (intB [.bl p] st Q) (Q (.int (b2i p)) st) := ⟨id⟩
instance : Red (absB [.int a] st Q) (Q (.int (if a < 0 then -a else a)) st) := ⟨id⟩
instance : Red (lenB [.tup xs] st Q) (Q (.int xs.length) st) := ⟨id⟩
instance : Red (min2B [.int a, .int b] st Q) (Q (.int (if b < a then b else a)) st) := ⟨id⟩
instance : Red (max2B [.int a, .int b] st Q) (Q (.int (if b > a then b else a)) st) := ⟨id⟩
instance : Red (listB [.tup xs] st Q) (Q (.ref st.length) (st ++ [.lst xs])) := ⟨id⟩
instance : Red (tupleB [.tup xs] st Q) (Q (.tup xs) st) := ⟨id⟩
instance {r : Bool → Prop} : Red (isTy (.int a) st t r) (r (decide (t = .int))) := ⟨id⟩
instance {r : Bool → Prop} : Red (isTy (.bl p) st t r) (r (decide (t = .bool) || decide (t = .int))) := ⟨id⟩
instance {r : Bool → Prop} : Red (isTy (.tup xs) st t r) (r (decide (t = .tuple))) := ⟨id⟩
instance {r : Bool → Prop} : Red (isTy .non st t r) (r false) := ⟨id⟩
instance {P : Int → Prop} : Red (∃ i, D.int a = D.int i ∧ P i) (P a) := ⟨fun h => ⟨a, rfl, h⟩⟩
instance {P : Int → Int → Prop} : Red (∃ i j, D.int a = D.int i ∧ D.int b = D.int j ∧ P i j) (P a b) := ⟨fun h => ⟨a, b, rfl, rfl, h⟩⟩
-- known ways
instance {A B : Prop} : Red ((true = true → A) ∧ (true = false → B)) A := ⟨fun h => ⟨fun _ => h, fun e => nomatch e⟩⟩
instance {A B : Prop} : Red ((false = true → A) ∧ (false = false → B)) B := ⟨fun h => ⟨fun e => (nomatch e), fun _ => h⟩⟩
end
end

/-! lemmas for what is open -/
theorem way {b : Bool} {A B : Prop} (h1 : b = true → A) (h2 : b = false → B) : (b = true → A) ∧ (b = false → B) := ⟨h1, h2⟩
theorem wayT {b : Bool} {A B : Prop} (h : b = true) (h1 : A) : (b = true → A) ∧ (b = false → B) := ⟨fun _ => h1, fun e => by rw [h] at e; cases e⟩
theorem wayF {b : Bool} {A B : Prop} (h : b = false) (h1 : B) : (b = true → A) ∧ (b = false → B) := ⟨fun e => (by rw [h] at e; cases e), fun _ => h1⟩
/-- where ways meet: J holds there -/
theorem seq_cut {S S' : TS} {D0 : Ends} {σ : Env} {st : Store} (J : Env → Store → Prop) (h : ∀ N : Env → Store → Prop, (∀ σ st, J σ st → N σ st) → S { D0 with nx := N } σ st) (hJ : ∀ σ st, J σ st → S' D0 σ st) : sSeq S S' D0 σ st := h _ fun σ st j => ⟨hJ σ st j⟩
class StartE (n : Nat) (ds : List D) (σ : outParam Env) : Prop where
  eq : start n ds = σ
instance : StartE 0 [] [] := ⟨rfl⟩
instance [h : StartE n [] σ] : StartE (n + 1) [] (none :: σ) := ⟨by rw [← h.eq]; unfold start; simp [List.replicate_succ]⟩
instance [h : StartE n ds σ] : StartE (n + 1) (d :: ds) (some d :: σ) := ⟨by rw [← h.eq]; unfold start; simp⟩
/-- a call of a def of the program -/
theorem call_intro {prog : String → Option Def} {k : Nat} {f : String} {ds : List D} {st : Store} {Q : K} {ps ns : Nat} {body : Cl → TS} {σ : Env} (h : prog f = some ⟨ps, ns, body⟩) (hl : ds.length = ps) [hσ : StartE ns ds σ] (hb : body (callN prog k) { nx := fun _ st' => Q .non st', rt := Q } σ st) : callN prog (k + 1) f ds st Q :=
  ⟨_, h, hl, by rw [hσ.eq]; exact hb⟩

/-! ### loops -/
/-- a for by an invariant over the items gone through; N: what the body is to reach -/
theorem for_inv {gd : Store → Prop} {g : TG} {tb : TS} {D0 : Ends} (Pv : List D → Env → Store → Prop) {items : List D} 
    (hs : ∀ pre x post σ st, items = pre ++ x :: post → Pv pre σ st → ∀ N : Env → Store → Prop, (∀ σ st, Pv (pre ++ [x]) σ st → N σ st) → gd st ∧ g x σ st fun σ2 st2 => tb { D0 with nx := N, ct := N, bk := D0.nx } σ2 st2)
    (hd : ∀ σ st, Pv items σ st → gd st ∧ D0.nx σ st) : ∀ (todo pre : List D) {σ : Env} {st : Store}, items = pre ++ todo → Pv pre σ st → forLoop gd g tb D0 todo σ st
  | [], pre, σ, st, e, h => by
    rw [List.append_nil] at e
    subst e
    exact hd σ st h
  | x :: post, pre, σ, st, e, h => hs pre x post σ st e h _ fun σ st h' => for_inv Pv hs hd post (pre ++ [x]) (by rw [e]; simp) h'
theorem for_by {gd : Store → Prop} {g : TG} {tb : TS} {D0 : Ends} {items : List D} {σ : Env} {st : Store} (Pv : List D → Env → Store → Prop) (h0 : Pv [] σ st)
    (hs : ∀ pre x post σ st, items = pre ++ x :: post → Pv pre σ st → ∀ N : Env → Store → Prop, (∀ σ st, Pv (pre ++ [x]) σ st → N σ st) → gd st ∧ g x σ st fun σ2 st2 => tb { D0 with nx := N, ct := N, bk := D0.nx } σ2 st2)
    (hd : ∀ σ st, Pv items σ st → gd st ∧ D0.nx σ st) : forLoop gd g tb D0 items σ st := for_inv Pv hs hd items [] rfl h0
/-- over range(n) -/
theorem for_rng {gd : Store → Prop} {g : TG} {tb : TS} {D0 : Ends} {lo : Int} {n : Nat} {σ : Env} {st : Store} (Pv : Nat → Env → Store → Prop) (h0 : Pv 0 σ st)
    (hs : ∀ k σ st, k < n → Pv k σ st → ∀ N : Env → Store → Prop, (∀ σ st, Pv (k + 1) σ st → N σ st) → gd st ∧ g (.int (lo + k)) σ st fun σ2 st2 => tb { D0 with nx := N, ct := N, bk := D0.nx } σ2 st2)
    (hd : ∀ σ st, Pv n σ st → gd st ∧ D0.nx σ st) : forLoop gd g tb D0 (rng lo n) σ st := by
  refine for_by (fun pre σ st => Pv pre.length σ st) h0 (fun pre x post σ st e h N hN => ?_) (fun σ st h => hd σ st (by simpa [rng] using h))
  have hl : pre.length < n := by
    have := congrArg List.length e
    simp [rng] at this
    omega
  have hx : x = .int (lo + pre.length) := by
    have h2 : (rng lo n)[pre.length]? = some x := by rw [e]; simp
    unfold rng at h2
    rw [List.getElem?_map, List.getElem?_range hl] at h2
    simpa using h2.symm
  subst hx
  exact hs pre.length σ st hl h N fun σ st h' => hN σ st (by simpa using h')
/-- a comprehension by an invariant; N: behind the element, M: where a test leaves it out -/
theorem lc_inv {gd : Store → Prop} {g : TG} {tt : TT} {te : TE} {ρ : Env} {n : Nat} {Q : K} (Pv : List D → List D → Store → Prop) {items : List D}
    (hs : ∀ pre x post acc st, items = pre ++ x :: post → Pv pre acc st → ∀ (N : D → Store → Prop) (M : Store → Prop), (∀ y st', rdL st' n acc → acc.length < szl → Pv (pre ++ [x]) (acc ++ [y]) (st'.set n (.lst (acc ++ [y]))) → N y st') → (∀ st', rdL st' n acc → Pv (pre ++ [x]) acc st' → M st') →
      gd st ∧ g x ρ st fun ρ2 st2 => tt ρ2 st2 fun b st3 => (b = true → te ρ2 st3 N) ∧ (b = false → M st3))
    (hd : ∀ acc st, Pv items acc st → gd st ∧ rdL st n acc ∧ Q (.ref n) st) : ∀ (todo pre acc : List D) {st : Store}, items = pre ++ todo → Pv pre acc st → lcLoop gd g tt te ρ n Q todo acc st
  | [], pre, acc, st, e, h => by
    rw [List.append_nil] at e
    subst e
    exact hd acc st h
  | x :: post, pre, acc, st, e, h => hs pre x post acc st e h _ _ (fun y st' h1 h2 h3 => ⟨h1, h2, lc_inv Pv hs hd post (pre ++ [x]) (acc ++ [y]) (by rw [e]; simp) h3⟩) fun st' h1 h2 => ⟨h1, lc_inv Pv hs hd post (pre ++ [x]) acc (by rw [e]; simp) h2⟩
theorem lc_by {gd : Store → Prop} {g : TG} {tt : TT} {te : TE} {ρ : Env} {n : Nat} {Q : K} {items : List D} {st : Store} (Pv : List D → List D → Store → Prop) (h0 : Pv [] [] st)
    (hs : ∀ pre x post acc st, items = pre ++ x :: post → Pv pre acc st → ∀ (N : D → Store → Prop) (M : Store → Prop), (∀ y st', rdL st' n acc → acc.length < szl → Pv (pre ++ [x]) (acc ++ [y]) (st'.set n (.lst (acc ++ [y]))) → N y st') → (∀ st', rdL st' n acc → Pv (pre ++ [x]) acc st' → M st') →
      gd st ∧ g x ρ st fun ρ2 st2 => tt ρ2 st2 fun b st3 => (b = true → te ρ2 st3 N) ∧ (b = false → M st3))
    (hd : ∀ acc st, Pv items acc st → gd st ∧ rdL st n acc ∧ Q (.ref n) st) : lcLoop gd g tt te ρ n Q items [] st := lc_inv Pv hs hd items [] [] rfl h0
theorem set_app {α : Type} (xs : List α) (a b : α) : (xs ++ [a]).set xs.length b = xs ++ [b] := by
  rw [List.set_append_right _ _ (Nat.le_refl _)]; simp
/-- the element reads alone: the new list is the map -/
theorem lc_map {α : Type} {gd : Store → Prop} {g : TG} {te : TE} {ρ : Env} {st : Store} {Q : K} (xs : List α) (f h : α → D) {items : List D} (hi : items = xs.map f) (hl : xs.length ≤ szl) (hg : ∀ acc, gd (st ++ [.lst acc]))
    (hs : ∀ x, x ∈ xs → ∀ (acc : List D) (N : D → Store → Prop), N (h x) (st ++ [.lst acc]) → g (f x) ρ (st ++ [.lst acc]) fun ρ2 st2 => te ρ2 st2 N)
    (hd : Q (.ref st.length) (st ++ [.lst (xs.map h)])) : lcLoop gd g tYes te ρ st.length Q items [] (st ++ [.lst []]) := by
  subst hi
  refine lc_by (fun pre acc st' => acc = (xs.take pre.length).map h ∧ st' = st ++ [.lst acc]) ⟨rfl, rfl⟩ (fun pre x post acc st' e ⟨h1, h2⟩ N M hN hM => ?_) (fun acc st' ⟨h1, h2⟩ => ?_)
  · subst h1; subst h2
    refine ⟨hg _, ?_⟩
    have hlen : pre.length < xs.length := by
      have := congrArg List.length e
      simp at this; omega
    have hx : xs[pre.length] ∈ xs := List.getElem_mem hlen
    have hfx : x = f xs[pre.length] := by
      have h2 : (xs.map f)[pre.length]? = some x := by rw [e]; simp
      rw [List.getElem?_map, List.getElem?_eq_getElem hlen] at h2
      simpa using h2.symm
    subst hfx
    have e1 : (fun (ρ2 : Env) (st2 : Store) => tYes ρ2 st2 fun b st3 => (b = true → te ρ2 st3 N) ∧ (b = false → M st3)) = fun ρ2 st2 => te ρ2 st2 N := by
      funext ρ2 st2
      exact propext ⟨fun q => q.1 rfl, fun q => ⟨fun _ => q, fun e => nomatch e⟩⟩
    rw [e1]
    refine hs _ hx _ N (hN _ _ (by unfold rdL; simp) (by simp; omega) ⟨?_, ?_⟩)
    · rw [List.length_append]
      show _ = List.map h (List.take (pre.length + 1) xs)
      rw [List.take_add_one, List.map_append, List.getElem?_eq_getElem hlen]
      rfl
    · rw [set_app]
  · subst h1; subst h2
    have e2 : List.take (List.map f xs).length xs = xs := by simp
    rw [e2] at *
    exact ⟨hg _, by unfold rdL; simp, hd⟩
theorem map_id_int (xs : List Int) : xs.map D.int = xs.map D.int := rfl
end Pd
end PartPdTac

section PartPdMore
set_option Elab.async false
set_option linter.all false
set_option maxRecDepth 100000
/-! Pd: more readings: texts split, range as a list or a tuple, sorted. Own work. -/
namespace Pd
open PySem
def splitM : KM
  | .str a, [.str b], st, Q => (b.length == 0) = false ∧ a.length + 2 ≤ szl ∧ Q (.ref st.length) (st ++ [.lst ((PySem.Txt.split a b).map D.str)])
  | _, _, _, _ => False
/-- range(..) as an argument -/
abbrev TR := Env → Store → (Int → Int → Store → Prop) → Prop
def rg1 (t : TE) : TR := fun σ st Q => t σ st fun x st1 => ∃ j, x = .int j ∧ Q 0 j st1
def rg2 (t u : TE) : TR := fun σ st Q => t σ st fun x st1 => u σ st1 fun y st2 => ∃ i j, x = .int i ∧ y = .int j ∧ Q i j st2
def rgOk (a b : Int) : Prop := -(2 ^ 62) ≤ a ∧ a < 2 ^ 62 ∧ -(2 ^ 62) ≤ b ∧ b < 2 ^ 62 ∧ (b - a).toNat ≤ 2 ^ 24
def dLR (r : TR) : TE := fun σ st Q => r σ st fun a b st1 => rgOk a b ∧ Q (.ref st1.length) (st1 ++ [.lst (rng a (b - a).toNat)])
def dTR (r : TR) : TE := fun σ st Q => r σ st fun a b st1 => rgOk a b ∧ Q (.tup (rng a (b - a).toNat)) st1
/-- sorted: of whole numbers -/
def sortedB : KB
  | [.ref n], st, Q => ∃ ns : List Int, rdA st n (ns.map D.int) ∧ ∀ ns' : List Int, ns'.Perm ns → ns'.Pairwise (· ≤ ·) → Q (.ref st.length) (st ++ [.lst (ns'.map D.int)])
  | _, _, _ => False
/-- a call of a def with n parameters and one that takes what is left over -/
def dCallS (c : Cl) (f : String) (n : Nat) (t : TA) : TE := fun σ st Q => t σ st fun xs st1 => n ≤ xs.length ∧ (xs.drop n).length ≤ szl ∧ c f (xs.take n ++ [.tup (xs.drop n)]) st1 Q
section
variable {c : Cl} {fn : String} {nn : Nat} {Ar : TA}
instance {σ : Env} {st : Store} {Q : K} : Red (dCallS c fn nn Ar σ st Q) (Ar σ st fun xs st1 => nn ≤ xs.length ∧ (xs.drop nn).length ≤ szl ∧ c fn (xs.take nn ++ [.tup (xs.drop nn)]) st1 Q) := ⟨id⟩
end
section
variable {σ : Env} {st : Store} {Q : K} {r : TR} {ta tb : TE} {q : Int → Int → Store → Prop} {a b : Int} {u v : Str}
instance : Red (dLR r σ st Q) (r σ st fun a b st1 => rgOk a b ∧ Q (.ref st1.length) (st1 ++ [.lst (rng a (b - a).toNat)])) := ⟨id⟩
instance : Red (dTR r σ st Q) (r σ st fun a b st1 => rgOk a b ∧ Q (.tup (rng a (b - a).toNat)) st1) := ⟨id⟩
instance : Red (rg1 ta σ st q) (ta σ st fun x st1 => ∃ j, x = .int j ∧ q 0 j st1) := ⟨id⟩
instance : Red (rg2 ta tb σ st q) (ta σ st fun x st1 => tb σ st1 fun y st2 => ∃ i j, x = .int i ∧ y = .int j ∧ q i j st2) := ⟨id⟩
instance : Red (splitM (.str u) [.str v] st Q) ((v.length == 0) = false ∧ u.length + 2 ≤ szl ∧ Q (.ref st.length) (st ++ [.lst ((PySem.Txt.split u v).map D.str)])) := ⟨id⟩
instance : Red (tyStr (.str u) st) True := ⟨id⟩
end
end Pd
end PartPdMore

section PartPdSoundG
set_option Elab.async false
set_option linter.all false
set_option maxRecDepth 100000
set_option maxHeartbeats 1000000
/-! Pd over the hand layer: texts split, range as a list or a tuple, sorted. Own work. -/
namespace Pd
open PySem PySem.Spec
section
variable {X : L2.Cx} {K : Kf} {f f' : List Addr} {H H' : Hp} {st st' : Store} {ρ : Env} {σ : L2.St}
theorem RDs.of_strs : ∀ (ss : List Str), RDs K f H (ss.map D.str) (ss.map L2.V.str)
  | [] => by simp [RDs.nil]
  | n :: ns => by
    rw [List.map_cons, List.map_cons, RDs.cons]
    exact ⟨_, _, rfl, by rw [RD.str], RDs.of_strs ns⟩
theorem real_split : RealM K (fun x xs H Q => ∃ a b, x = .str a ∧ xs = [.str b] ∧ (b.length == 0) = false ∧ a.length + 2 ≤ sizeLine ∧ L2.rNewStrs (Txt.split a b) H Q) splitM := fun f st H x xs v vs Q' Q s r1 r2 h l => by
  cases x <;> try (exact h.elim)
  match xs, h with
  | [], h => exact h.elim
  | y :: _ :: _, h => cases y <;> exact (show False from h).elim
  | [y], h =>
    cases y <;> try (exact h.elim)
    rw [RD.str] at r1
    obtain ⟨w, rfl, r3⟩ := r2.inv1
    rw [RD.str] at r3
    subst r1; subst r3
    obtain ⟨h1, h2, h3⟩ := h
    exact ⟨_, _, rfl, rfl, h1, by rw [← szl_eq]; exact h2, fun p hp => l.lst s h3 (RDs.of_strs _) hp⟩
/-! range(..) as an argument -/
def liftR (K : Kf) (t : TR) : L2.St → Hp → (Int → Int → Hp → Prop) → Prop := fun σ H Q => ∃ f ρ st Q', Rel K f ρ st σ H ∧ t ρ st Q' ∧ ∀ (a b : Int) (st' : Store) (f' : List Addr) (H' : Hp), Q' a b st' → Ext K f H f' H' → RelS K f' st' H' → Q a b H'
abbrev PDR (X : L2.Cx) (e : Expr) (t : TR) : Prop := L2.PRg X e (liftR X.K t)
theorem prg_imp {e : Expr} {t t' : L2.St → Hp → (Int → Int → Hp → Prop) → Prop} (h : L2.PRg X e t) (m : ∀ σ H Q, t' σ H Q → t σ H Q) : L2.PRg X e t' := fun pins s σ H Q I q => h pins s σ H Q I (m σ H Q q)
section
variable {a b e : Expr} {ta tb : TE} {tr : TR} {pos : Pos}
theorem pr_1 {p : Pos} (hg : L2.Gl X "range") (hm : X.mg "range" = none) (ha : PD X a ta) (na : starEach [a] X.env = (false, eval a X.env) :: starEach [] X.env := by rfl) : PDR X (.Call (.Name "range" p) [a] [] pos) (rg1 ta) :=
  prg_imp (L2.prg_1 hg hm ha na) fun σ H R ⟨f, ρ, st, R', Re, h, l⟩ => ⟨f, ρ, st, _, Re, h, fun x st1 v f1 H1 q1 e1 s1 r1 => by
    obtain ⟨j, rfl, h1⟩ := q1
    rw [RD.int] at r1
    subst r1
    exact ⟨j, rfl, l _ _ st1 f1 H1 h1 e1 s1⟩⟩
theorem pr_2 {p : Pos} (hg : L2.Gl X "range") (hm : X.mg "range" = none) (ha : PD X a ta) (hb : PD X b tb) (na : starEach [a, b] X.env = (false, eval a X.env) :: starEach [b] X.env := by rfl)
    (nb : starEach [b] X.env = (false, eval b X.env) :: starEach [] X.env := by rfl) (hp : (backTo pos (starEach [b] X.env)).any (·.1) = false := by rfl) : PDR X (.Call (.Name "range" p) [a, b] [] pos) (rg2 ta tb) :=
  prg_imp (L2.prg_2 hg hm ha hb na nb hp) fun σ H R ⟨f, ρ, st, R', Re, h, l⟩ => ⟨f, ρ, st, _, Re, h, fun x st1 v f1 H1 q1 e1 s1 r1 => ⟨f1, ρ, st1, _, Re.later e1 s1, q1, fun y st2 w f2 H2 q2 e2 s2 r2 => by
    obtain ⟨i, j, rfl, rfl, h3⟩ := q2
    have r1' := r1.mono e2
    rw [RD.int] at r1' r2
    subst r1'; subst r2
    exact ⟨i, j, rfl, rfl, l _ _ st2 f2 H2 h3 (e1.trans e2) s2⟩⟩⟩
theorem rng_rgV (a b : Int) : RDs K f H (rng a (b - a).toNat) (L2.rgV a b) := by
  have e1 : rng a (b - a).toNat = ((List.range (b - a).toNat).map fun (k : Nat) => a + (k : Int)).map D.int := by unfold rng; simp
  have e2 : L2.rgV a b = ((List.range (b - a).toNat).map fun (k : Nat) => a + (k : Int)).map L2.V.int := by unfold L2.rgV; simp
  rw [e1, e2]; exact RDs.of_ints _
theorem pd_listRg {p : Pos} (hc : X.calm = true) (hg : L2.Gl X "list") (hm : X.mg "list" = none) (he : PDR X e tr) (na : starEach [e] X.env = (false, eval e X.env) :: starEach [] X.env := by rfl) : PD X (.Call (.Name "list" p) [e] [] pos) (dLR tr) :=
  pe_imp (L2.pe_listRg hc hg hm he na) fun σ H Q ⟨f, ρ, st, Q', R, h, l⟩ => ⟨f, ρ, st, _, R, h, fun a b st1 f1 H1 q1 e1 s1 => ⟨q1.1, fun p hp => (l.later e1).lst s1 q1.2 (rng_rgV a b) hp⟩⟩
theorem pd_tupRg {p : Pos} (hc : X.calm = true) (hg : L2.Gl X "tuple") (hm : X.mg "tuple" = none) (he : PDR X e tr) (na : starEach [e] X.env = (false, eval e X.env) :: starEach [] X.env := by rfl) : PD X (.Call (.Name "tuple" p) [e] [] pos) (dTR tr) :=
  pe_imp (L2.pe_tupRg hc hg hm he na) fun σ H Q ⟨f, ρ, st, Q', R, h, l⟩ => ⟨f, ρ, st, _, R, h, fun a b st1 f1 H1 q1 e1 s1 => ⟨q1.1, fun p hp => (l.later e1).tup s1 q1.2 (rng_rgV a b) hp⟩⟩
end
theorem real_sortedB : RealB K (L2.rSortedI K) sortedB :=
  realB1 (kb1 (fun _ _ h => h) fun x y xs st Q h => by cases x <;> exact h) fun f st H x v Q' Q s r h l => by
    cases x <;> try (exact h.elim)
    rw [RD.ref] at r
    obtain ⟨a, e, rfl⟩ := r
    obtain ⟨ns, h1, h2⟩ := h
    obtain ⟨a', vs, k1, k2, d⟩ := s.rdA h1
    rw [e] at k1; cases k1
    exact ⟨a, ns, rfl, by rw [← d.ints]; exact k2, fun ns' p hp hi hn => l.lst s (h2 ns' hp hi) (RDs.of_ints ns') hn⟩
end
end Pd
end PartPdSoundG

section PartPdSoundH
set_option Elab.async false
set_option linter.all false
set_option maxRecDepth 100000
set_option maxHeartbeats 1000000
/-! Pd over the hand layer: defs whose last parameter takes what is left over. Own work. -/
namespace Pd
open PySem PySem.Spec
open PyProof.Rows (envOfC)
/-- what a def with n parameters and a star one promises -/
def starF (K : Kf) (n : Nat) (c : List D → Store → Pd.K → Prop) : L2.Sp := fun vs H Q E => ∃ ws rest : List L2.V, vs = ws ++ rest ∧ ws.length = n ∧ rest.length ≤ sizeLine ∧ ∀ p, H p = Option.none → liftF K (n + 1) c (ws ++ [L2.V.ref p]) (L2.upd H p (.tup rest)) Q E
structure OwnS (P : Program) (w : World) (K : Kf) (mg : Str → Option Value) (base : Heap) (k : Nat) (n : Nat) (x : Str) (c : List D → Store → Pd.K → Prop) : Prop where
  ex : ∃ fa : Addr, L2.FnR P w K mg base L2.CX0 k fa (starF K n c) ∧ mg x = some (.ref fa) ∧ PySem.W.keepIn K (.ref fa) = true
section
variable {X : L2.Cx} {K : Kf} {f f' : List Addr} {H H' : Hp} {st st' : Store} {a : Expr} {es : List Expr} {pos : Pos}
theorem pd_callS {x : Str} {p : Pos} {k n : Nat} {ts : TA} {cl : Cl} {y : String} (o : OwnS X.prog X.w X.K X.mg X.base k n x (cl y)) (hr : L2.Room k X.A) (hg : L2.Gl X x) (ha : PDA X (a :: es) ts) (hdb : (x == ("__debug__" : Str)) = false := by decide)
    (he : starEach (a :: es) X.env = (false, eval a X.env) :: starEach es X.env := by rfl) (hpl : (backTo pos (starEach es X.env)).any (·.1) = false := by rfl) : PD X (.Call (.Name x p) (a :: es) [] pos) (dCallS cl y n ts) := by
  obtain ⟨fa, F, hm, hk⟩ := o.ex
  have step : L2.PE X (.Call (.Name x p) (a :: es) [] pos) (fun σ H Q => liftA X.K ts σ H fun vs H1 => starF X.K n (cl y) vs H1 Q fun _ _ _ => False) := by
    constructor
    intro pins s σ H Q I h
    refine wpAny_Call_Name_kw (L2.ld_glob I hg hm ?_ hdb)
    have args := ha.run pos pins s σ H _ I h
    exact PySem.W.callWith_K (h₀ := X.base) I.ok.mod.kin hk (wpAny_mono args (fun us s1 ⟨vs, H1, I1, r, q⟩ => ⟨I1.kIn, wpAny_call (L2.run_fnR F hr L2.pass0 I1 r q)⟩) fun _ _ z => z) he hpl
  refine pe_imp step fun σ H Q ⟨f, ρ, st, Q', R, h, l⟩ => ⟨f, ρ, st, _, R, h, fun xs st1 vs f1 H1 ⟨h1, h2, h3⟩ e1 s1 r1 => ?_⟩
  have hvl := r1.length
  refine ⟨vs.take n, vs.drop n, (List.take_append_drop n vs).symm, by rw [List.length_take]; omega, ?_, fun p hp => ?_⟩
  · rw [List.length_drop, hvl, ← szl_eq]; rw [List.length_drop] at h2; exact h2
  · have s2 := s1.lay (o := .tup (vs.drop n)) hp
    obtain ⟨s2, e2⟩ := s2
    refine ⟨by rw [List.length_append, List.length_take]; simp; omega, f1, st1, xs.take n ++ [.tup (xs.drop n)], Q', s2, ?_, h3, (l.later e1).later e2⟩
    refine RDs.append ((r1.take n).mono e2) (RDs.one (RD.tup.mpr ⟨p, vs.drop n, rfl, .of L2.upd_same, (r1.drop n).mono e2⟩))
end
section
variable {P : Program} {w : World} {K : Kf} {mg : Str → Option Value} {base : Heap} {names : List String} {snames : List (String × Nat)}
/-- as Step, with both kinds of own defs -/
structure Step2 (P : Program) (w : World) (K : Kf) (mg : Str → Option Value) (base : Heap) (names : List String) (snames : List (String × Nat)) (x : String) (d : Def) : Prop where
  ex : ∃ (fa : Addr) (fd : FuncData) (ps : List Str), mg x = some (.ref fa) ∧ PySem.W.keepIn K (.ref fa) = true ∧ L2.Binds K fd ps [] ∧ d.ps = ps.length ∧
    ∀ (k : Nat) (c : Cl), (∀ y ∈ names, Own P w K mg base k (Str.ofString y) (c y)) → (∀ q ∈ snames, OwnS P w K mg base k q.2 (Str.ofString q.1) (c q.1)) → L2.FnOk P w K mg base L2.CX0 (k + 1) fa fd ps (liftF K ps.length (d.run c))
structure StepS (P : Program) (w : World) (K : Kf) (mg : Str → Option Value) (base : Heap) (names : List String) (snames : List (String × Nat)) (x : String) (n : Nat) (d : Def) : Prop where
  ex : ∃ fa : Addr, mg x = some (.ref fa) ∧ PySem.W.keepIn K (.ref fa) = true ∧
    ∀ (k : Nat) (c : Cl), (∀ y ∈ names, Own P w K mg base k (Str.ofString y) (c y)) → (∀ q ∈ snames, OwnS P w K mg base k q.2 (Str.ofString q.1) (c q.1)) → L2.FnR P w K mg base L2.CX0 (k + 1) fa (starF K n (d.run c))
theorem fnS_ok {qual x pv : Str} {sm : Stmt} {fa : Addr} {fd : FuncData} {N ps : List Str} {k : Nat} {d : Def} {c : Cl} (F : L2.Fun K x qual sm fa fd) (S : L2.FnScope N (ps ++ [pv]) (L2.defScope sm)) (hn : d.ns = N.length) (hp : d.ps = ps.length + 1)
    (hb : ∀ (kV doc pm : Value) (an : Option Addr) (cdv ct : Value) (us rest : List Value), us.length = ps.length → bindArgs (PySem.W.fnOf x qual (L2.defArgs sm) (L2.defBody sm) (L2.defScope sm) .none kV doc pm an cdv ct) ⟨us ++ rest, []⟩ = (newTuple rest >>= fun t => pure (ps.zip us ++ [(pv, t)])))
    (der : ∀ (cdv : Value) (A : Around) (outer : List PySem.Env) (s : Shared) (H : Hp) (E : L2.XK), L2.Room k (A.deeper (envOfC qual (L2.defScope sm) s.heap.objs.size fa cdv)) →
      PDSs (L2.cxOf L2.CX0 P w K mg base N qual (L2.defScope sm) fa cdv A outer s H E).nox (L2.defBody sm) (d.body c)) : L2.FnR P w K mg base L2.CX0 (k + 1) fa (starF K ps.length (d.run c)) := by
  obtain ⟨oc, od, kV, doc, pm, an, cdv, ct, osl, rfl, look, code⟩ := F.ex
  refine StX.fn_star (sp := liftF K (ps.length + 1) (d.run c)) look code S StX.cxUp_none (hb kV doc pm an cdv ct) fun A outer s H vs Q E hr h => ?_
  refine ⟨_, (der cdv A outer s H E hr).nox, ?_⟩
  obtain ⟨_, f, st, ds, Q', s', r, ⟨hl, h⟩, l⟩ := h
  refine ⟨f, start d.ns ds, st, _, start_rel s' r hn, h, ?_⟩
  exact ⟨fun ρ1 st1 σ1 f1 H1 q e r1 => l .non st1 .non f1 H1 q e r1.toRelS (RD.non.mpr rfl), l, fun _ _ _ _ _ q _ _ => q, fun _ _ _ _ _ q _ _ => q⟩
theorem all_own2 {prog : String → Option Def} (hs : ∀ x ∈ names, ∃ d, prog x = some d ∧ Step2 P w K mg base names snames x d) (hs2 : ∀ q ∈ snames, ∃ d, prog q.1 = some d ∧ StepS P w K mg base names snames q.1 q.2 d) :
    ∀ k : Nat, (∀ x ∈ names, Own P w K mg base k (Str.ofString x) (callN prog k x)) ∧ ∀ q ∈ snames, OwnS P w K mg base k q.2 (Str.ofString q.1) (callN prog k q.1)
  | 0 => by
    refine ⟨fun x hx => ?_, fun q hq => ?_⟩
    · obtain ⟨d, h1, fa, fd, ps, h2, h3, h4, h5, h6⟩ := hs x hx
      exact ⟨fa, fd, ps, fn_zero, h2, h3, h4, fun _ _ _ h => h.elim⟩
    · obtain ⟨d, h1, fa, h2, h3, h4⟩ := hs2 q hq
      refine ⟨fa, fun A outer s H us vs Q E hr e0 r h => ?_, h2, h3⟩
      obtain ⟨ws, rest, _, _, _, h⟩ := h
      obtain ⟨_, _, _, _, _, _, _, z, _⟩ := h s.heap.objs.size (e0.hok.fresh (Nat.le_refl _))
      exact z.elim
  | k + 1 => by
    have ih := all_own2 hs hs2 k
    refine ⟨fun x hx => ?_, fun q hq => ?_⟩
    · obtain ⟨d, h1, fa, fd, ps, h2, h3, h4, h5, h6⟩ := hs x hx
      refine ⟨fa, fd, ps, (h6 k _ ih.1 ih.2).imp fun vs H Q E ⟨g0, f, st, ds, Q', s, r, ⟨d', e', g⟩, l⟩ => ?_, h2, h3, h4, fun ds st Q ⟨d', e', g⟩ => ?_⟩
      · rw [h1] at e'; cases e'
        exact ⟨g0, f, st, ds, Q', s, r, g, l⟩
      · rw [h1] at e'; cases e'
        exact g.1.trans h5
    · obtain ⟨d, h1, fa, h2, h3, h4⟩ := hs2 q hq
      refine ⟨fa, (h4 k _ ih.1 ih.2).imp fun vs H Q E ⟨ws, rest, e1, e2, e3, h⟩ => ⟨ws, rest, e1, e2, e3, fun p hp => ?_⟩, h2, h3⟩
      obtain ⟨g0, f, st, ds, Q', s, r, ⟨d', e', g⟩, l⟩ := h p hp
      rw [h1] at e'; cases e'
      exact ⟨g0, f, st, ds, Q', s, r, g, l⟩
end
end Pd
end PartPdSoundH

section PartPdDict
set_option Elab.async false
set_option linter.all false
set_option maxRecDepth 100000
/-! Pd: dicts of ints and texts. Own work. -/
namespace Pd
open PySem
abbrev Ky := Sum Int Str
def keyD : Ky → D
  | .inl i => .int i
  | .inr s => .str s
theorem keyD_inj : ∀ {a b : Ky}, keyD a = keyD b → a = b
  | .inl _, .inl _, h => by injection h with h; rw [h]
  | .inr _, .inr _, h => by injection h with h; rw [h]
  | .inl _, .inr _, h => nomatch h
  | .inr _, .inl _, h => nomatch h
def valD (kvs : List (Ky × D)) (k : Ky) : Option D := (kvs.find? fun kv => decide (kv.1 = k)).map (·.2)
def putD (kvs : List (Ky × D)) (k : Ky) (v : D) : List (Ky × D) :=
  if (kvs.any fun kv => decide (kv.1 = k)) = true then kvs.map (fun kv => if kv.1 = k then (kv.1, v) else kv) else kvs ++ [(k, v)]
/-- {} -/
def dDic : TE := fun _ st Q => Q (.ref st.length) (st ++ [.dic []])
/-- d[k] -/
def getDK : K2
  | .ref n, y, st, Q => ∃ kvs k d, rdD st n kvs ∧ y = keyD k ∧ valD kvs k = some d ∧ Q d st
  | _, _, _, _ => False
def dGet (to ti : TE) : TE := fun σ st Q => to σ st fun x st1 => ti σ st1 fun y st2 => getDK x y st2 Q
/-- d[k] = v -/
def setDK : D → D → D → Store → (Store → Prop) → Prop
  | .ref n, y, v, st, Q => ∃ kvs k, rdD st n kvs ∧ y = keyD k ∧ kvs.length < szl ∧ Q (st.set n (.dic (putD kvs k v)))
  | _, _, _, _, _ => False
def gSubD (to ti : TE) : TG := fun v σ st Q => to σ st fun o st1 => ti σ st1 fun i st2 => setDK o i v st2 fun st3 => Q σ st3
/-- sorted(d), keys whole numbers -/
def sortedDB : KB
  | [.ref n], st, Q => ∃ (kvs : List (Ky × D)) (ns : List Int), rdD st n kvs ∧ kvs.map (·.1) = ns.map Sum.inl ∧ ∀ ns' : List Int, ns'.Perm ns → ns'.Pairwise (· ≤ ·) → Q (.ref st.length) (st ++ [.lst (ns'.map D.int)])
  | _, _, _ => False
/-- {k: v for ..}: n the new cell -/
def dcLoop (gd : Store → Prop) (g : TG) (tt : TT) (tk tv : TE) (ρ : Env) (n : Nat) (Q : K) : List D → List (Ky × D) → Store → Prop
  | [], acc, st => gd st ∧ rdD st n acc ∧ Q (.ref n) st
  | x :: xs, acc, st => gd st ∧ g x ρ st fun ρ2 st2 => tt ρ2 st2 fun b st3 =>
      (b = true → tk ρ2 st3 fun y st4 => tv ρ2 st4 fun z st5 => ∃ k, y = keyD k ∧ rdD st5 n acc ∧ acc.length < szl ∧ dcLoop gd g tt tk tv ρ n Q xs (putD acc k z) (st5.set n (.dic (putD acc k z)))) ∧ (b = false → rdD st3 n acc ∧ dcLoop gd g tt tk tv ρ n Q xs acc st3)
def dDc (i : TI) (g : TG) (tt : TT) (tk tv : TE) (vs : List Nat) : TE := fun σ st Q => i σ st fun I st1 => dcLoop I.guard g tt tk tv (wipeE σ vs) st1.length Q I.items [] (st1 ++ [.dic []])
section
variable {σ σ' : Env} {st : Store} {Q : K} {to ti tk tv : TE} {d x : D} {g : TG} {tt : TT} {i : TI} {vs : List Nat} {q : Env → Store → Prop}
instance : Red (dDic σ st Q) (Q (.ref st.length) (st ++ [.dic []])) := ⟨id⟩
instance : Red (dGet to ti σ st Q) (to σ st fun x st1 => ti σ st1 fun y st2 => getDK x y st2 Q) := ⟨id⟩
instance : Red (gSubD to ti d σ st q) (to σ st fun o st1 => ti σ st1 fun i st2 => setDK o i d st2 fun st3 => q σ st3) := ⟨id⟩
instance [h : WipeE σ vs σ'] : Red (dDc i g tt tk tv vs σ st Q) (i σ st fun I st1 => dcLoop I.guard g tt tk tv σ' st1.length Q I.items [] (st1 ++ [.dic []])) := ⟨fun p => by unfold dDc; rw [h.eq]; exact p⟩
end
end Pd
end PartPdDict

section PartPdSoundI
set_option Elab.async false
set_option linter.all false
set_option maxRecDepth 100000
set_option maxHeartbeats 1000000
/-! Pd over the hand layer: dicts of ints and texts. Own work. -/
namespace Pd
open PySem PySem.Spec
section
variable {X : L2.Cx} {K : Kf} {f f' : List Addr} {H H' : Hp} {st st' : Store} {ρ : Env} {σ : L2.St}
theorem keyD_V {k : Ky} {v : L2.V} (h : RD K f H (keyD k) v) : v = L2.kV k := by
  cases k with
  | inl i => exact RD.int.mp h
  | inr s => exact RD.str.mp h
theorem vals_at : ∀ {kvs : List (Ky × D)} {ks : List (L2.Key × L2.V)}, ks.map (·.1) = kvs.map (·.1) → RDs K f H (kvs.map (·.2)) (ks.map (·.2)) → ∀ (k : Ky) (d : D), valD kvs k = some d → ∃ v, L2.valV ks k = some v ∧ RD K f H d v
  | [], _, _, _, k, d, h => by simp [valD] at h
  | (k0, d0) :: kvs, [], e, _, _, _, _ => by simp at e
  | (k0, d0) :: kvs, (k1, v1) :: ks, e, r, k, d, h => by
    simp only [List.map_cons, List.cons.injEq] at e
    obtain ⟨e1, e2⟩ := e
    rw [List.map_cons, List.map_cons, RDs.cons] at r
    obtain ⟨v, rr, er, r1, r2⟩ := r
    injection er with er1 er2
    subst er1
    have e1 : k1 = k0 := e1
    subst e1
    by_cases hk : k1 = k
    · refine ⟨v1, L2.valV_pos hk, ?_⟩
      have : valD ((k1, d0) :: kvs) k = some d0 := by simp [valD, List.find?_cons, hk]
      rw [this] at h; cases h
      exact r1
    · have : valD ((k1, d0) :: kvs) k = valD kvs k := by simp [valD, List.find?_cons, hk]
      rw [this] at h
      obtain ⟨w, h1, h2⟩ := vals_at e2 (by rw [er2]; exact r2) k d h
      exact ⟨w, (L2.valV_neg hk).trans h1, h2⟩
theorem put_at {k : Ky} {d : D} {v : L2.V} (rv : RD K f H d v) {kvs : List (Ky × D)} {ks : List (L2.Key × L2.V)} (e : ks.map (·.1) = kvs.map (·.1)) (r : RDs K f H (kvs.map (·.2)) (ks.map (·.2))) :
    (L2.putK ks k v).map (·.1) = (putD kvs k d).map (·.1) ∧ RDs K f H ((putD kvs k d).map (·.2)) ((L2.putK ks k v).map (·.2)) := by
  have hany : ∀ {kvs : List (Ky × D)} {ks : List (L2.Key × L2.V)}, ks.map (·.1) = kvs.map (·.1) → (ks.any fun kv => decide (kv.1 = k)) = (kvs.any fun kv => decide (kv.1 = k)) := by
    intro kvs ks e
    have h1 : ∀ l : List (Ky × D), (l.any fun kv => decide (kv.1 = k)) = (l.map (·.1)).any fun x => decide (x = k) := fun l => by rw [List.any_map]; rfl
    have h2 : ∀ l : List (L2.Key × L2.V), (l.any fun kv => decide (kv.1 = k)) = (l.map (·.1)).any fun x => decide (x = k) := fun l => by rw [List.any_map]; rfl
    rw [h1, h2, e]
  have hmap : ∀ {kvs : List (Ky × D)} {ks : List (L2.Key × L2.V)}, ks.map (·.1) = kvs.map (·.1) → RDs K f H (kvs.map (·.2)) (ks.map (·.2)) →
      (ks.map fun kv => if kv.1 = k then (kv.1, v) else kv).map (·.1) = (kvs.map fun kv => if kv.1 = k then (kv.1, d) else kv).map (·.1) ∧ RDs K f H ((kvs.map fun kv => if kv.1 = k then (kv.1, d) else kv).map (·.2)) ((ks.map fun kv => if kv.1 = k then (kv.1, v) else kv).map (·.2)) := by
    intro kvs
    induction kvs with
    | nil => intro ks e r; cases ks with
      | nil => exact ⟨rfl, r⟩
      | cons _ _ => simp at e
    | cons p kvs ih =>
      intro ks e r
      cases ks with
      | nil => simp at e
      | cons q ks =>
        obtain ⟨k0, d0⟩ := p
        obtain ⟨k1, v1⟩ := q
        simp only [List.map_cons, List.cons.injEq] at e
        obtain ⟨e1, e2⟩ := e
        rw [List.map_cons, List.map_cons, RDs.cons] at r
        obtain ⟨u, rr, er, r1, r2⟩ := r
        injection er with er1 er2
        have e1 : k1 = k0 := e1
        subst e1
        obtain ⟨h1, h2⟩ := ih e2 (by rw [er2]; exact r2)
        by_cases hk : k1 = k
        · simp only [List.map_cons, hk, if_true]
          refine ⟨by rw [h1], ?_⟩
          rw [RDs.cons]; exact ⟨v, _, rfl, rv, h2⟩
        · simp only [List.map_cons, hk, if_false]
          refine ⟨by rw [h1], ?_⟩
          have er1 : v1 = u := er1
          subst er1
          rw [RDs.cons]; exact ⟨v1, _, rfl, r1, h2⟩
  unfold L2.putK putD
  rw [hany e]
  split
  · exact hmap e r
  · refine ⟨by rw [List.map_append, List.map_append, e]; rfl, ?_⟩
    rw [List.map_append, List.map_append]
    exact r.append (RDs.one rv)
theorem RelS.putDic {n : Nat} {a : Addr} {kvs kvs' : List (Ky × D)} {ks ks' : List (L2.Key × L2.V)} (s : RelS K f st H) (hn : f[n]? = some a) (h : Pd.rdD st n kvs) (hH : H a = some (.dK ks)) (e : ks'.map (·.1) = kvs'.map (·.1)) (r : RDs K f H (kvs'.map (·.2)) (ks'.map (·.2))) :
    RelS K f (st.set n (.dic kvs')) (L2.upd H a (.dK ks')) ∧ Ext K f H f (L2.upd H a (.dK ks')) :=
  s.chg (c := .dic kvs) h rfl hn (.inr (.inr (.inl ⟨ks, hH⟩))) rfl ⟨ks', L2.upd_same, e, r.mono (Ext.upd0 (.inr (.inr (.inl ⟨ks, hH⟩))))⟩
section
variable {o i a b e : Expr} {to ti ta tb te : TE} {pos : Pos}
theorem pd_dic : PD X (.Dict [] [] pos) dDic :=
  pe_imp L2.pe_dnewK fun σ H Q ⟨f, ρ, st, Q', R, h, l⟩ p hp => by
    obtain ⟨s', e⟩ := R.toRelS.new (o := .dK []) (c := .dic []) hp ⟨[], L2.upd_same, rfl, RDs.nil.mpr rfl⟩
    exact l _ _ _ _ _ h e s' (RD.ref.mpr ⟨p, by rw [← R.toRelS.len]; simp, rfl⟩)
theorem pd_get {k : Nat} (hr : L2.Room k X.A) (ho : PD X o to) (hi : PD X i ti) (hs : L2.NoSl i := by intro _ _; rfl) : PD X (.Subscript o i pos) (dGet to ti) :=
  pe_imp (L2.pe_dget (L2.hu_of hr) ho hi hs) fun σ H Q ⟨f, ρ, st, Q', R, h, l⟩ => ⟨f, ρ, st, _, R, h, fun x st1 v f1 H1 q1 e1 s1 r1 => ⟨f1, ρ, st1, _, R.later e1 s1, q1, fun y st2 w f2 H2 q2 e2 s2 r2 => by
    cases x <;> try (exact q2.elim)
    obtain ⟨kvs, k, d, h1, rfl, h3, h4⟩ := q2
    have r1' := r1.mono e2
    rw [RD.ref] at r1'
    obtain ⟨a, ea, rfl⟩ := r1'
    obtain ⟨a', ks, g1, g2, g3, g4⟩ := s2.rdD h1
    rw [ea] at g1; cases g1
    obtain ⟨v, g5, g6⟩ := vals_at g3 g4 k d h3
    obtain rfl := keyD_V r2
    exact ⟨a, v, rfl, by rw [← g5]; exact L2.DGet.k g2, l d st2 v f2 H2 h4 (e1.trans e2) s2 g6⟩⟩⟩
theorem pg_subD {k : Nat} (hr : L2.Room k X.A) (h1 : PD X o to) (h2 : PD X i ti) (ha : ∀ v, assign (.Subscript o i pos) X.env v = (do
      let ov ← holding [v] (eval o X.env)
      let iv ← holding [v, ov] (eval i X.env)
      standAt pos
      holding [v, ov, iv] (setItem ov iv v)
      release [v, ov, iv] []) := by intro _; rfl) : PDG X (.Subscript o i pos) (gSubD to ti) [] :=
  pg_imp (L2.pg_sub h1 h2 (L2.set_dict (L2.hu_of hr)) ha) fun v σ H Q ⟨f, ρ, st, d, Q', R, r, h, l⟩ => ⟨f, ρ, st, _, R, h, fun x st1 u f1 H1 q1 e1 s1 r1 => ⟨f1, ρ, st1, _, R.later e1 s1, q1, fun y st2 w f2 H2 q2 e2 s2 r2 => by
    cases x <;> try (exact q2.elim)
    obtain ⟨kvs, k, h3, rfl, h4, h5⟩ := q2
    have r1' := r1.mono e2
    rw [RD.ref] at r1'
    obtain ⟨a, ea, rfl⟩ := r1'
    obtain ⟨a', ks, g1, g2, g3, g4⟩ := s2.rdD h3
    rw [ea] at g1; cases g1
    obtain ⟨p1, p2⟩ := put_at (k := k) (r.mono (e1.trans e2)) g3 g4
    obtain ⟨s3, e3⟩ := s2.putDic ea h3 g2 p1 p2
    obtain rfl := keyD_V r2
    have hlen : ks.length < sizeLine := by
      have := congrArg List.length g3
      simp at this
      rw [this, ← szl_eq]; exact h4
    exact ⟨a, _, rfl, L2.DPut.k g2 hlen, l ρ _ σ f2 _ h5 ((e1.trans e2).trans e3) (R.later ((e1.trans e2).trans e3) s3) .refl⟩⟩⟩

theorem dc_core {wi : TI} {g : TG} {tt : TT} {tk tv : TE} {vs ws : List Nat} {Q : L2.VK} (hws : ∀ j, j ∈ ws → j ∈ vs) (h : lift K (dDc wi g tt tk tv vs) σ H Q) : L2.tDc (liftI K wi) (liftG K g ws) (liftT K tt) (lift K tk) (lift K tv) vs σ H Q := by
  obtain ⟨f, ρ, st, Q', R, h, l⟩ := h
  refine ⟨f, ρ, st, _, R, h, fun I st1 J f1 H1 q1 e1 s1 rI D hD => ?_⟩
  obtain ⟨s0, e0⟩ := s1.new (o := .dK []) (c := .dic []) hD ⟨[], L2.upd_same, rfl, RDs.nil.mpr rfl⟩
  have hn0 : (f1 ++ [D])[st1.length]? = some D := by rw [← s1.len]; simp
  refine ⟨fun i m H2 => m = I.items.length - i ∧ i ≤ I.items.length ∧ ∃ f2 st2 acc, Ext K (f1 ++ [D]) (L2.upd H1 D (.dK [])) f2 H2 ∧ RelS K f2 st2 H2 ∧ Pd.rdD st2 st1.length acc ∧ dcLoop I.guard g tt tk tv (wipeE ρ vs) st1.length Q' (I.items.drop i) acc st2,
    ⟨_, rfl, Nat.zero_le _, f1 ++ [D], st1 ++ [.dic []], [], .refl, s0, by unfold Pd.rdD; simp, by simpa using q1⟩, ?_⟩
  rintro i m H2 ⟨rfl, hi, f2, st2, acc, e2, s2, hacc, q2⟩
  have eI : Ext K f1 H1 f2 H2 := e0.trans e2
  by_cases hlt : i < I.items.length
  · have hd : I.items.drop i = I.items[i] :: I.items.drop (i + 1) := by rw [List.drop_eq_getElem_cons hlt]
    rw [hd] at q2
    obtain ⟨gd, q2⟩ := q2
    refine .inr ⟨rI.go i f2 st2 H2 eI s2 gd hlt, fun H3 => ∃ f3 st3 acc', Ext K (f1 ++ [D]) (L2.upd H1 D (.dK [])) f3 H3 ∧ RelS K f3 st3 H3 ∧ Pd.rdD st3 st1.length acc' ∧ dcLoop I.guard g tt tk tv (wipeE ρ vs) st1.length Q' (I.items.drop (i + 1)) acc' st3,
      fun H3 q3 => ⟨I.items.length - (i + 1), by omega, rfl, hlt, q3⟩, fun x H3 y => ?_⟩
    obtain ⟨e3, s3, r3⟩ := rI.yld i f2 st2 H2 I.items[i] x H3 eI s2 gd (by simp [hlt]) y
    have R3 : Rel K f2 (wipeE ρ vs) st2 (L2.wipe σ vs) H3 := (Rel.wipe R).later ((e1.trans eI).trans e3) s3
    refine ⟨f2, _, st2, I.items[i], _, R3, r3, q2, fun ρ4 st4 σ4 f4 H4 q4 e4 R4 o4 => ⟨Out.wipe ⟨o4.1, fun j hj => o4.2 j fun z => hj (hws j z)⟩, ?_⟩⟩
    refine ⟨f4, ρ4, st4, _, R4, q4, fun b st5 f5 H5 q5 e5 s5 => ?_⟩
    have e15 := e2.trans (e3.trans (e4.trans e5))
    cases b with
    | false =>
      obtain ⟨h1, h2⟩ := q5.2 rfl
      exact ⟨f5, st5, acc, e15, s5, h1, h2⟩
    | true =>
      refine ⟨f5, ρ4, st5, _, R4.later e5 s5, q5.1 rfl, fun y st6 v f6 H6 q6 e6 s6 r6 => ⟨f6, ρ4, st6, _, R4.later (e5.trans e6) s6, q6, fun z st7 w f7 H7 q7 e7 s7 r7 => ?_⟩⟩
      obtain ⟨k, rfl, h1, h2, h3⟩ := q7
      have e17 := (e15.trans e6).trans e7
      obtain ⟨a', ks, k1, k2, k3, k4⟩ := s7.rdD h1
      rw [e17.at hn0] at k1; cases k1
      obtain ⟨p1, p2⟩ := put_at (k := k) r7 k3 k4
      obtain ⟨s8, e8⟩ := s7.putDic (e17.at hn0) h1 k2 p1 p2
      obtain rfl := keyD_V r6
      have hlen : ks.length < sizeLine := by
        have := congrArg List.length k3
        simp at this
        rw [this, ← szl_eq]; exact h2
      refine ⟨ks, k, rfl, k2, hlen, f7, _, putD acc k z, e17.trans e8, s8, ?_, h3⟩
      have hl : st1.length < st7.length := (List.getElem?_eq_some_iff.mp h1).1
      unfold Pd.rdD
      rw [List.getElem?_set_self hl]
  · have e : i = I.items.length := by omega
    subst e
    rw [List.drop_length] at q2
    obtain ⟨gd, h1, h2⟩ := q2
    exact .inl ⟨rI.stop f2 st2 H2 eI s2 gd, l _ st2 _ f2 H2 h2 (e1.trans eI) s2 (RD.ref.mpr ⟨D, e2.at hn0, rfl⟩)⟩
theorem pd_dc {kx vx tg iter : Expr} {ifs : List Expr} {scope : Scope} {own : List (Str × Nat)} {wi : TI} {g : TG} {tt : TT} {tk tv : TE} {ws : List Nat} (hc : X.calm = true) (hN : X.N.Nodup) (hi : PDI X tg iter wi) (ok : L2.BlkOk X.N X.env.scope scope own)
    (hg : ∀ (s : Shared) (H : Hp) (C : Addr) (cl : List (Str × Addr)) (fp : List Addr), PDG (X.blk s H scope (compEnvC scope cl C X.env) fp) tg g ws) (ht : ∀ (s : Shared) (H : Hp) (C : Addr) (cl : List (Str × Addr)) (fp : List Addr), PDTs (X.blk s H scope (compEnvC scope cl C X.env) fp) ifs tt)
    (hk : ∀ (s : Shared) (H : Hp) (C : Addr) (cl : List (Str × Addr)) (fp : List Addr), PD (X.blk s H scope (compEnvC scope cl C X.env) fp) kx tk) (he : ∀ (s : Shared) (H : Hp) (C : Addr) (cl : List (Str × Addr)) (fp : List Addr), PD (X.blk s H scope (compEnvC scope cl C X.env) fp) vx tv)
    (hws : ∀ j, j ∈ ws → j ∈ own.map (·.2)) (hs : ∀ x, foldedSetIterable iter X.env x = pure x := by intro _; rfl) :
    PD X (.DictComp kx vx [⟨tg, iter, ifs, 0⟩] scope pos) (dDc wi g tt tk tv (own.map (·.2))) :=
  pe_imp (L2.pe_dc hc hN hi ok hg ht hk he hs) fun σ H Q h => dc_core hws h
end
end
section
open PySem.W PyProof.Rows
/-- the int that a key is -/
theorem int_key {i : Int} {v : Value} (h : L2.keyIs (.inl i) v = true) : ∃ t, v = .int i t := by
  rcases L2.keyIs_shape h with ⟨j, t, e1, e2⟩ | ⟨x, t, e1, _⟩
  · cases e1; exact ⟨t, e2⟩
  · cases e1
theorem ints_keys : ∀ {vs : List Value} {ns : List Int}, vs.length = ns.length → (∀ (j : Nat) (v : Value) (i : Int), vs[j]? = some v → ns[j]? = some i → ∃ t, v = .int i t) → IntsAre vs ns
  | [], [], _, _ => .nil
  | [], _ :: _, h, _ => by simp at h
  | _ :: _, [], h, _ => by simp at h
  | v :: vs, i :: ns, h, g => by
    obtain ⟨t, rfl⟩ := g 0 v i rfl rfl
    exact .cons i t (ints_keys (by simpa using h) fun j v i h1 h2 => g (j + 1) v i (by simpa using h1) (by simpa using h2))
theorem kv_keys {ks : List (L2.Key × L2.V)} {xs : List (L2.Key × Value)} (h : L2.KV ks xs) : xs.map (·.1) = ks.map (·.1) := by
  induction h with
  | nil => rfl
  | cons p _ ih => rw [List.map_cons, List.map_cons, ih, p.1]
def rSortedDK : List L2.V → Hp → L2.VK → Prop := fun vs H Q => ∃ (a : Addr) (ks : List (L2.Key × L2.V)) (ns : List Int), vs = [L2.V.ref a] ∧ H a = some (.dK ks) ∧ ks.map (·.1) = ns.map Sum.inl ∧
  ∀ (ns' : List Int) (p : Addr), ns'.Perm ns → ns'.Pairwise (· ≤ ·) → H p = none → Q (.ref p) (L2.upd H p (.lst (ns'.map L2.V.int)))
theorem cr_sortedDK {X : L2.Cx} (hc : X.calm = true) : L2.CallR X (.builtin "sorted") rSortedDK := by
  intro pins s σ H vs us Q I r h
  obtain ⟨a, ks, ns, rfl, ha, hk, q⟩ := h
  have held := I.ok.hd hc
  rw [L2.Vals.ref1 r]
  obtain ⟨size, other, xs, rel, dict⟩ := L2.dk_rd I.hok (.inl ha)
  obtain ⟨ep, there⟩ := dict.dictAt
  have keys := (kv_keys rel).trans hk
  have many : xs.length = ns.length := by simpa using congrArg List.length keys
  have few : xs.length ≤ sizeLine := by
    have := congrArg List.length (kv_keys rel)
    simp at this
    omega
  have source := kdl_dict (prog := X.prog) (w := X.w) (knd := L2.mixKind X.prog X.w) (d := a) (kvs := xs) (ep := ep) other
  refine Calls.call_function_entry kind_sorted plain_sorted entry_sorted (args_sorted1 _) ?_
  unfold Builtin.«sorted»
  refine wpAny_bind (m := checkCount "sorted" 1 1 _) (wpAny_pure (wpAny_bind (kdu_collect (A := X.A.in1) source held there few fun h1 t1 acc old items => ?_)))
  have long : acc.toList.length = xs.length := by rw [Array.length_toList]; exact items.1
  have nums : IntsAre acc.toList ns := ints_keys (by rw [long, many]) fun j v i hv hi => by
    obtain ⟨k, x, hx, is⟩ := items.2 j v (by rw [← Array.getElem?_toList]; exact hv)
    have e : (xs.map (·.1))[j]? = some k := by rw [List.getElem?_map, hx]; rfl
    rw [keys, List.getElem?_map, hi] at e
    cases e
    exact int_key is
  refine wpAny_bind (wpAny_newList ?_ (by rw [long]; exact few))
  have made : (h1.push (seqObj "list" acc.toList.toArray 0)).get? h1.objs.size = some (seqObj "list" acc.toList.toArray 0) := Heap.get?_push_size _ rfl
  have sort := SrtO.list_sort_ord (prog := X.prog) (w := X.w) (A := X.A.in1.in1) (s := { s with heap := h1.push (seqObj "list" acc.toList.toArray 0), toks := t1 }) (E := X.xe) (vs := acc.toList)
    (R := fun fin s' => ∃ out : List Value, fin = .done (.ret .none) ∧ SrtO.Srtd SrtO.ltIv out ∧ SrtO.Stb SrtO.ltIv out acc.toList ∧ s' = { s with heap := sortedHeap (h1.push (seqObj "list" acc.toList.toArray 0)) h1.objs.size acc.toList out.toArray, toks := t1 })
    SrtO.swo_int made (by rw [long]; exact few) (fun two => SrtO.ints_sortable nums two) fun out g1 g2 => ⟨out, rfl, g1, g2, rfl⟩
  refine wpAny_bind (wpAny_holding (wpAny_call_entry slot_list_sort ⟨_, made, rfl⟩ entry_list_sort (wpAny_mono sort (fun fin s' ⟨out, e1, g1, g2, e2⟩ => ?_) fun _ _ z => z) (args_list_sort _)))
  subst e1; subst e2
  refine ⟨_, rfl, wpAny_pure ⟨_, rfl, ?_⟩⟩
  obtain ⟨k1, k2, k3⟩ := SrtO.ints_out nums g1 g2
  obtain ⟨ep', at'⟩ := sortedHeap_at (vs := acc.toList) (out := out.toArray) made
  have I1 : L2.Inv X pins σ H { s with heap := h1, toks := t1 } := I.kept (t' := t1) old
  have small : ((out.map SrtO.iv).map L2.V.int).length ≤ sizeLine := by
    rw [List.length_map, k2.length_eq, ← many]; exact few
  refine ⟨.ref h1.objs.size, L2.upd H h1.objs.size (.lst ((out.map SrtO.iv).map L2.V.int)), I1.laid (t' := t1) (fun b u z1 => ?_) (Nat.le_refl _) ⟨small, out, ep', L2.vals_of_ints k1, at'⟩, rfl, q _ _ k2 k3 (I1.hok.fresh (Nat.le_refl _))⟩
  have z2 := Heap.lt_size z1
  rw [sortedHeap_old (Nat.ne_of_lt z2) (by rw [size_push']; exact Nat.lt_succ_of_lt z2)]
  exact Heap.get?_push_of_some _ z1
theorem real_sortedDB {K : Kf} : RealB K rSortedDK sortedDB :=
  realB1 (kb1 (fun _ _ h => h) fun x y xs st Q h => by cases x <;> exact h) fun f st H x v Q' Q s r h l => by
    cases x <;> try (exact h.elim)
    rw [RD.ref] at r
    obtain ⟨a, e, rfl⟩ := r
    obtain ⟨kvs, ns, h1, h2, h3⟩ := h
    obtain ⟨a', ks, k1, k2, k3, k4⟩ := s.rdD h1
    rw [e] at k1; cases k1
    exact ⟨a, ks, ns, rfl, k2, k3.trans h2, fun ns' p hp hi hn => l.lst s (h3 ns' hp hi) (RDs.of_ints ns') hn⟩
end
section
variable {X : L2.Cx} {K : Kf} {pos : Pos}
open L2 in
/-- y = {k: v for ..}: the name is written within the comprehension's frame -/
theorem asg_dc {i : Nat} {y : Str} {py line : Pos} {kx vx tg iter : Expr} {ifs : List Expr} {scope : Scope} {own : List (Str × Nat)} {wi : L2.TI} {g : L2.TG} {tt : L2.TT} {tk tv : L2.TE} (calm : X.calm = true) (nd : X.N.Nodup) (slot : X.N[i]? = some y) (local' : X.env.scope.names.lookup y = some .local)
    (sw : swapsWith (.DictComp kx vx [⟨tg, iter, ifs, 0⟩] scope pos) (some (.Name y py)) line.line X.env = pure true) (hi : L2.PI X tg iter wi) (ok : L2.BlkOk X.N X.env.scope scope own)
    (hg : ∀ (s : Shared) (H : Hp) (C : Addr) (cl : List (Str × Addr)) (fp : List Addr), L2.PG (X.blk s H scope (compEnvC scope cl C X.env) fp) tg g)
    (ht : ∀ (s : Shared) (H : Hp) (C : Addr) (cl : List (Str × Addr)) (fp : List Addr), L2.PTs (X.blk s H scope (compEnvC scope cl C X.env) fp) ifs tt)
    (hk : ∀ (s : Shared) (H : Hp) (C : Addr) (cl : List (Str × Addr)) (fp : List Addr), L2.PE (X.blk s H scope (compEnvC scope cl C X.env) fp) kx tk)
    (hv : ∀ (s : Shared) (H : Hp) (C : Addr) (cl : List (Str × Addr)) (fp : List Addr), L2.PE (X.blk s H scope (compEnvC scope cl C X.env) fp) vx tv) (fold : ∀ x, foldedSetIterable iter X.env x = pure x := by intro _; rfl) :
    L2.PS X (.Assign [.Name y py] (.DictComp kx vx [⟨tg, iter, ifs, 0⟩] scope pos) line) (fun D σ H => L2.tDc wi g tt tk tv (own.map (·.2)) σ H fun x H1 => L2.gName i x σ H1 D.nx) := by
  constructor
  intro pins s σ H D I want
  rw [exec_Assign_Name_used _ _ _ _ sw]
  have made := L2.dc_core (pos := pos) (use := some (assign (.Name y py) X.env)) (pos' := firstIterPos [⟨tg, iter, ifs, 0⟩] pos) (Qf := fun _ s' => L2.SP X pins D .next s') calm nd I hi ok hg ht hk hv fold want fun L C s1 m H1 I1 at' ns ⟨fr0, fr1, fr2, fr3, fr4, fr5⟩ => by
    show wpAny _ _ (assign (.Name y py) X.env (.ref L)) _ _ _
    refine wpAny_assign_Name (L2.store_ok2 (v := L2.V.ref L) I1 nd slot (.inl local') rfl (fun s2 I2 ⟨b, same, where'⟩ => ?_) (.inr local'))
    have apart : C ≠ b := where'.elim (fun z => by rw [z]; exact fr1) fun z e => fr4 y b z e.symm
    exact ⟨m, ns.sameBut same apart, fun h3 sb3 => ⟨_, H1, I2.turned (t' := s2.toks) (fun c o hc z => (sb3.2 c hc).trans z) fr0 fr1 fr3 fr4 fr5, at'⟩⟩
  refine wpAny_bind (wpAny_standAt (wpAny_bind ?_))
  show wpAny _ X.A (comprehension (.DictComp kx vx [⟨tg, iter, ifs, 0⟩] scope pos) scope X.env (firstIterPos [⟨tg, iter, ifs, 0⟩] pos) newDict false (eval iter X.env) (some (assign (.Name y py) X.env)) >>= fun _ => pure ()) _ _ s
  exact wpAny_bind (wpAny_mono made (fun _ s' q => wpAny_pure (wpAny_pure q)) fun _ _ z => z)
theorem swD_true {kx vx : Expr} {gs : List Comprehension} {scope : Scope} {py : Pos} {y : Str} {l : Nat} {env : PySem.Env} (kind : env.scope.kind = .function) (loc : env.scope.names.lookup y = some .local) (at' : (py.line == pos.line) = true)
    (free : (scope.names.any fun (n, k) => n == y && (k == .local || k == .cell)) = false) : swapsWith (.DictComp kx vx gs scope pos) (some (.Name y py)) l env = pure true := by
  have k1 : env.kindOf y = some .local := loc
  have k2 : env.blockKind = .function := by unfold PySem.Env.blockKind; rw [kind]; rfl
  unfold swapsWith
  simp only [k1, k2, free, Expr.pos, at']
  rfl
theorem ps_setDc {j : Nat} {y : Str} {py spos : Pos} {kx vx tg iter : Expr} {ifs : List Expr} {scope : Scope} {own : List (Str × Nat)} {wi : TI} {g : TG} {tt : TT} {tk tv : TE} {ws : List Nat} (hc : X.calm = true) (hN : X.N.Nodup) (hy : X.N[j]? = some y) (hyl : X.env.scope.names.lookup y = some .local)
    (hsw : swapsWith (.DictComp kx vx [⟨tg, iter, ifs, 0⟩] scope pos) (some (.Name y py)) spos.line X.env = pure true) (hi : PDI X tg iter wi) (ok : L2.BlkOk X.N X.env.scope scope own)
    (hg : ∀ (s : Shared) (H : Hp) (C : Addr) (cl : List (Str × Addr)) (fp : List Addr), PDG (X.blk s H scope (compEnvC scope cl C X.env) fp) tg g ws) (ht : ∀ (s : Shared) (H : Hp) (C : Addr) (cl : List (Str × Addr)) (fp : List Addr), PDTs (X.blk s H scope (compEnvC scope cl C X.env) fp) ifs tt)
    (hk : ∀ (s : Shared) (H : Hp) (C : Addr) (cl : List (Str × Addr)) (fp : List Addr), PD (X.blk s H scope (compEnvC scope cl C X.env) fp) kx tk) (he : ∀ (s : Shared) (H : Hp) (C : Addr) (cl : List (Str × Addr)) (fp : List Addr), PD (X.blk s H scope (compEnvC scope cl C X.env) fp) vx tv)
    (hws : ∀ j, j ∈ ws → j ∈ own.map (·.2)) (hs : ∀ x, foldedSetIterable iter X.env x = pure x := by intro _; rfl) :
    PDS X (.Assign [.Name y py] (.DictComp kx vx [⟨tg, iter, ifs, 0⟩] scope pos) spos) (sAsg (dDc wi g tt tk tv (own.map (·.2))) (gName j)) :=
  ps_imp (asg_dc hc hN hy hyl hsw hi ok hg ht hk he hs) fun D σ H ⟨f, ρ, st, D', R, h, l⟩ =>
    dc_core (Q := fun x H1 => L2.gName j x σ H1 D.nx) hws ⟨f, ρ, st, _, R, h, fun x st1 v f1 H1 q e1 s1 r1 => l.nx _ st1 _ f1 H1 q e1 ((R.later e1 s1).put r1)⟩
end
end Pd
end PartPdSoundI

section PartPdMore8
set_option Elab.async false
set_option linter.all false
set_option maxRecDepth 100000
/-! Pd: more readings: zip of three lists. Own work. -/
namespace Pd
open PySem
def zip3D : List D → List D → List D → List D
  | x :: xs, y :: ys, u :: us => .tup [x, y, u] :: zip3D xs ys us
  | _, _, _ => []
def zip3K : D → D → D → Store → (Iter → Store → Prop) → Prop
  | .ref m, .ref n, .ref p, st, R => ∃ xs ys us, rdA st m xs ∧ rdA st n ys ∧ rdA st p us ∧ R ⟨zip3D xs ys us, fun s => rdA s m xs ∧ rdA s n ys ∧ rdA s p us⟩ st
  | _, _, _, _, _ => False
def iZip3 (t u v : TE) : TI := fun σ st R => t σ st fun x st1 => u σ st1 fun y st2 => v σ st2 fun z st3 => zip3K x y z st3 R
section
variable {σ : Env} {st : Store} {ta tb tc : TE}
instance {R : Iter → Store → Prop} : Red (iZip3 ta tb tc σ st R) (ta σ st fun x st1 => tb σ st1 fun y st2 => tc σ st2 fun z st3 => zip3K x y z st3 R) := ⟨id⟩
end
theorem zip3_at {st : Store} {m n p : Nat} {xs ys us : List D} {R : Iter → Store → Prop} (h : rdL st m xs) (h' : rdL st n ys) (h'' : rdL st p us) (q : R ⟨zip3D xs ys us, fun s => rdA s m xs ∧ rdA s n ys ∧ rdA s p us⟩ st) : zip3K (.ref m) (.ref n) (.ref p) st R := ⟨xs, ys, us, .inl h, .inl h', .inl h'', q⟩
theorem zip3D_maps {α β γ : Type} (f : α → D) (g : β → D) (h : γ → D) : ∀ (xs : List α) (ys : List β) (us : List γ), zip3D (xs.map f) (ys.map g) (us.map h) = (xs.zip (ys.zip us)).map fun p => D.tup [f p.1, g p.2.1, h p.2.2]
  | [], _, _ => by simp [zip3D]
  | _ :: _, [], _ => by simp [zip3D]
  | _ :: _, _ :: _, [] => by simp [zip3D]
  | x :: xs, y :: ys, u :: us => by simp [zip3D, zip3D_maps f g h xs ys us]
end Pd
end PartPdMore8

section PartPdSoundQ
set_option Elab.async false
set_option linter.all false
set_option maxRecDepth 100000
set_option maxHeartbeats 1000000
/-! Pd over the hand layer: zip of three lists. Own work. -/
namespace Pd
open PySem PySem.Spec PyProof.Rows
/-- the lists at a, b and c as they stand at each turn, the items in new tuples -/
def Itz3 (K : Kf) (a b c : Addr) : L2.It :=
  ⟨fun i H => ∃ (xs ys us : List L2.V) (x y u : L2.V), L2.SqL K H a xs ∧ L2.SqL K H b ys ∧ L2.SqL K H c us ∧ xs[i]? = some x ∧ ys[i]? = some y ∧ us[i]? = some u,
    fun i H v H' => ∃ T x y u, v = .ref T ∧ H T = none ∧ H' = L2.upd H T (.tup [x, y, u]) ∧ (∀ xs, L2.SqL K H a xs → xs[i]? = some x) ∧ (∀ ys, L2.SqL K H b ys → ys[i]? = some y) ∧ ∀ us, L2.SqL K H c us → us[i]? = some u,
    fun i H => ∃ xs ys us : List L2.V, L2.SqL K H a xs ∧ L2.SqL K H b ys ∧ L2.SqL K H c us ∧ i ≤ xs.length ∧ i ≤ ys.length ∧ i ≤ us.length ∧ (i = xs.length ∨ i = ys.length ∨ i = us.length)⟩
theorem turn_zip3 {P : Program} {w : World} {K : Kf} {elts : List Expr} {kk : Nat} {tpos : Pos} {a b e z TI TO i1 i2 i3 : Addr} (D : ZipSep3 z TI TO i1 i2 i3 [i1, a] [i2, b] [i3, e]) (na : a ≠ i1) (nb : b ≠ i2) (ne : e ≠ i3) :
    L2.Turn P w K (.Tuple elts kk tpos) (Itz3 K a b e) [z, TI, TO, i1, i2, i3] z (fun i h => IsZip h z TI TO .none ∧ IsTupOf3 h TI (.ref i1) (.ref i2) (.ref i3) ∧ (∃ x y u, IsTupOf3 h TO x y u) ∧ h.IsListIter i1 a i ∧ h.IsListIter i2 b i ∧ h.IsListIter i3 e i) where
  mem := by simp
  obj := fun i h st c hc => by
    obtain ⟨hz, hTI, ⟨x, y, u, hTO⟩, ⟨o1, e1, _, d1⟩, ⟨o2, e2, _, d2⟩, ⟨o3, e3, _, d3⟩⟩ := st
    have e' : c = z ∨ c = TI ∨ c = TO ∨ c = i1 ∨ c = i2 ∨ c = i3 := by simpa using hc
    rcases e' with q | q | q | q | q | q
    · rw [q]; exact ⟨_, hz, fun v q => nomatch q⟩
    · rw [q]; exact ⟨_, hTI, fun v q => nomatch q⟩
    · rw [q]; exact ⟨_, hTO, fun v q => nomatch q⟩
    · rw [q]; exact ⟨o1, e1, fun v q => by rw [d1] at q; cases q⟩
    · rw [q]; exact ⟨o2, e2, fun v q => by rw [d2] at q; cases q⟩
    · rw [q]; exact ⟨o3, e3, fun v q => by rw [d3] at q; cases q⟩
  keep := fun i h h' st k => by
    obtain ⟨hz, hTI, ⟨x, y, u, hTO⟩, h1, h2, h3⟩ := st
    exact ⟨k z (by simp) _ hz, k TI (by simp) _ hTI, ⟨x, y, u, k TO (by simp) _ hTO⟩, h1.at fun o q => k i1 (by simp) o q, h2.at fun o q => k i2 (by simp) o q, h3.at fun o q => k i3 (by simp) o q⟩
  item := by
    intro X hP hw hK hc i pins s σ H E I hf st hg
    subst hP hw hK
    obtain ⟨hz, hTI, ⟨x0, y0, u0, hTO⟩, h1, h2, h3⟩ := st
    obtain ⟨xs, ys, us, x, y, u, hqx, hqy, hqu, hx, hy, hu3⟩ := hg
    obtain ⟨its, rv, p, _⟩ := I.list hqx
    obtain ⟨its2, rv2, p2, _⟩ := I.list hqy
    obtain ⟨its3, rv3, p3, _⟩ := I.list hqu
    obtain ⟨v1, hv1, ru⟩ := rv.get hx
    obtain ⟨v2, hv2, ru2⟩ := rv2.get hy
    obtain ⟨v3, hv3, ru3⟩ := rv3.get hu3
    have hzl : z < s.heap.objs.size := Heap.lt_size hz
    have l1 := (List.getElem?_eq_some_iff.mp hv1).1
    have l2 := (List.getElem?_eq_some_iff.mp hv2).1
    have l3 := (List.getElem?_eq_some_iff.mp hv3).1
    refine wpAny_pyNext_zipD3_item D (Draws.list (A := X.A.in1) (I.ok.hd hc) i1 a na its.toArray) (Draws.list (A := X.A.in1) (I.ok.hd hc) i2 b nb its2.toArray) (Draws.list (A := X.A.in1) (I.ok.hd hc) i3 e ne its3.toArray) hz hTI hTO ⟨h1, p.isList⟩ ⟨h2, p2.isList⟩ ⟨h3, p3.isList⟩ (by simpa using l1) (by simpa using l2) (by simpa using l3) fun u1' u2' u3' h' tk w1 w2 w3 z' TO' st1' st2' st3' hT hsz hk => ?_
    have eu : u1' = v1 := by
      have : its.toArray[i]? = some u1' := w1
      rw [show its.toArray[i]? = its[i]? by simp, hv1] at this
      exact (Option.some.inj this).symm
    have eu2 : u2' = v2 := by
      have : its2.toArray[i]? = some u2' := w2
      rw [show its2.toArray[i]? = its2[i]? by simp, hv2] at this
      exact (Option.some.inj this).symm
    have eu3 : u3' = v3 := by
      have : its3.toArray[i]? = some u3' := w3
      rw [show its3.toArray[i]? = its3[i]? by simp, hv3] at this
      exact (Option.some.inj this).symm
    subst eu; subst eu2; subst eu3
    refine ⟨_, rfl, wpAny_letOwnedTupleGo_zip (s := { s with heap := h', toks := tk }) z' fun h'' z'' sb => ?_⟩
    have hT2 : h''.get? s.heap.objs.size = some { cls := .type "tuple", data := .seq #[u1', u2', u3'] } := (sb.2 _ (Nat.ne_of_gt hzl)).trans hT
    have new : L2.ObjOk X.prog X.w (L2.upd H s.heap.objs.size (.tup [x, y, u])) h'' s.heap.objs.size (.tup [x, y, u]) :=
      ⟨by show 3 ≤ sizeLine; decide, [u1', u2', u3'], .cons ru (.cons ru2 (.cons ru3 .nil)), ⟨_, hT2, rfl, _, rfl⟩⟩
    have I1 : L2.Inv X pins σ (L2.upd H s.heap.objs.size (.tup [x, y, u])) { s with heap := h'', toks := tk } :=
      I.turnedNew (t' := tk) (ch := [z, TI, TO, i1, i2, i3]) (fun c o hb q => (sb.2 c (fun q' => hb (by simp [q']))).trans (hk c o (fun q' => hb (by simp [q'])) (fun q' => hb (by simp [q'])) (fun q' => hb (by simp [q'])) (fun q' => hb (by simp [q'])) (fun q' => hb (by simp [q'])) q)) hf (Nat.le_refl _) new
    refine ⟨.ref s.heap.objs.size, _, I1, rfl, ⟨_, x, y, u, rfl, I.hok.fresh (Nat.le_refl _), rfl, fun l hl => by rw [I.list_inj hl hqx]; exact hx, fun l hl => by rw [I.list_inj hl hqy]; exact hy, fun l hl => by rw [I.list_inj hl hqu]; exact hu3⟩, ⟨z'', ?_, ⟨u1', u2', u3', ?_⟩, ?_, ?_, ?_⟩, fun c hcm => ?_⟩
    · exact (sb.2 _ D.TIz).trans (hk _ _ D.TIz D.TITO D.TIi1 D.TIi2 D.TIi3 hTI)
    · exact (sb.2 _ D.TOz).trans TO'
    · exact st1'.1.at fun o q => (sb.2 _ (Ne.symm D.zi1)).trans q
    · exact st2'.1.at fun o q => (sb.2 _ (Ne.symm D.zi2)).trans q
    · exact st3'.1.at fun o q => (sb.2 _ (Ne.symm D.zi3)).trans q
    · have hlt : c < s.heap.objs.size := by
        have e' : c = z ∨ c = TI ∨ c = TO ∨ c = i1 ∨ c = i2 ∨ c = i3 := by simpa using hcm
        rcases e' with q | q | q | q | q | q
        · rw [q]; exact hzl
        · rw [q]; exact Heap.lt_size hTI
        · rw [q]; exact Heap.lt_size hTO
        · rw [q]; obtain ⟨_, e1, _⟩ := h1; exact Heap.lt_size e1
        · rw [q]; obtain ⟨_, e2, _⟩ := h2; exact Heap.lt_size e2
        · rw [q]; obtain ⟨_, e3, _⟩ := h3; exact Heap.lt_size e3
      rw [L2.upd_ne (Nat.ne_of_lt hlt)]
      exact (hf c hcm).1
  done := by
    intro X hP hw hK hc i pins s σ H E I hf st hg
    subst hP hw hK
    obtain ⟨hz, hTI, ⟨x0, y0, u0, hTO⟩, h1, h2, h3⟩ := st
    obtain ⟨xs, ys, us, hqx, hqy, hqu, hle1, hle2, hle3, hend⟩ := hg
    obtain ⟨its, rv, p, _⟩ := I.list hqx
    obtain ⟨its2, rv2, p2, _⟩ := I.list hqy
    obtain ⟨its3, rv3, p3, _⟩ := I.list hqu
    have l1 := rv.length
    have l2 := rv2.length
    have l3 := rv3.length
    exact wpAny_pyNext_zipD3_end D (Draws.list (A := X.A.in1) (I.ok.hd hc) i1 a na its.toArray) (Draws.list (A := X.A.in1) (I.ok.hd hc) i2 b nb its2.toArray) (Draws.list (A := X.A.in1) (I.ok.hd hc) i3 e ne its3.toArray) hz hTI hTO ⟨h1, p.isList⟩ ⟨h2, p2.isList⟩ ⟨h3, p3.isList⟩ (by simp; omega) (by simp; omega) (by simp; omega) (by simp; omega) fun h' tk hk => ⟨rfl, I.turnedL (t' := tk) (ch := [z, TI, TO, i1, i2, i3]) (fun c o hb q =>
      hk c o (fun q' => hb (by simp [q'])) (fun q' => hb (by simp [q'])) (fun q' => hb (by simp [q'])) (fun q' => hb (by simp [q'])) (fun q' => hb (by simp [q'])) q) hf⟩
  self := fun A i s Q E st h => wpAny_pyIter_zip st.1 h
def iZip3A (K : Kf) (ta : L2.TA) : L2.TI := fun σ H R => ta σ H fun vs H1 => ∃ a b c xs ys us, vs = [.ref a, .ref b, .ref c] ∧ L2.SqL K H1 a xs ∧ L2.SqL K H1 b ys ∧ L2.SqL K H1 c us ∧ R (Itz3 K a b c) H1
theorem pi_zip3A {X : L2.Cx} {e e2 e3 : Expr} {ta : L2.TA} {p pos tpos : Pos} {elts : List Expr} {kk : Nat} (hg : L2.Gl X "zip") (hm : X.mg "zip" = none) (ha : L2.PA X [e, e2, e3] ta)
    (hs : starEach [e, e2, e3] X.env = (false, eval e X.env) :: starEach [e2, e3] X.env := by rfl) (hpl : (backTo pos (starEach [e2, e3] X.env)).any (·.1) = false := by rfl) :
    L2.PI X (.Tuple elts kk tpos) (.Call (.Name "zip" p) [e, e2, e3] [] pos) (iZip3A X.K ta) := by
  refine ⟨fun pins s σ H R I h => ?_⟩
  refine Call_ (L2.ld_blt I hg hm PyProof.Rows.boot_zip (PyProof.Rows.callWith_type1 (L2.thn (ha.run pos pins s σ H _ I h) fun us s1 ⟨vs, H1, I1, r1, q1⟩ => ?_) hs hpl))
  obtain ⟨a, b, c3, xs, ys, us', ex, hqx, hqy, hqu, q⟩ := q1
  subst ex
  cases r1 with
  | cons r rr =>
    cases rr with
    | cons r' rr =>
      cases rr with
      | cons r'' rr =>
        cases rr
        cases r
        cases r'
        cases r''
        have fresh6 : ∀ c, c ∈ [s1.heap.objs.size + 5, s1.heap.objs.size + 3, s1.heap.objs.size + 4, s1.heap.objs.size, s1.heap.objs.size + 1, s1.heap.objs.size + 2] → L2.FpOk X pins H1 c := fun c hcm => by
          have e' : c = s1.heap.objs.size + 5 ∨ c = s1.heap.objs.size + 3 ∨ c = s1.heap.objs.size + 4 ∨ c = s1.heap.objs.size ∨ c = s1.heap.objs.size + 1 ∨ c = s1.heap.objs.size + 2 := by simpa using hcm
          have hle : s1.heap.objs.size ≤ c := by
            rcases e' with z | z | z | z | z | z
            · rw [z]; exact Nat.le_add_right _ _
            · rw [z]; exact Nat.le_add_right _ _
            · rw [z]; exact Nat.le_add_right _ _
            · rw [z]; exact Nat.le_refl _
            · rw [z]; exact Nat.le_add_right _ _
            · rw [z]; exact Nat.le_add_right _ _
          exact I1.fpOk hle (I1.hok.fresh hle)
        obtain ⟨its, rv, p1, _⟩ := I1.list hqx
        obtain ⟨its2, rv2, p2, _⟩ := I1.list hqy
        obtain ⟨its3, rv3, p3, _⟩ := I1.list hqu
        have la : a < s1.heap.objs.size := p1.lt
        have lb : b < s1.heap.objs.size := p2.lt
        have lc : c3 < s1.heap.objs.size := p3.lt
        refine zip_begins3 (begins_list a its.toArray) (begins_list b its2.toArray) (begins_list c3 its3.toArray) p1.isList p2.isList p3.isList fun h' hz hTI hTO g1 g2 g3 hsz hk => wpAny_pyIter_zip hz ?_
        have I2 : L2.Inv X pins σ H1 { s1 with heap := h' } := I1.kept (t' := s1.toks) hk
        have sep := zip_sep3 (N := s1.heap.objs.size) (fp1 := [a]) (fp2 := [b]) (fp3 := [c3]) (fun c hc => by rw [List.mem_singleton] at hc; rw [hc]; exact la) (fun c hc => by rw [List.mem_singleton] at hc; rw [hc]; exact lb) (fun c hc => by rw [List.mem_singleton] at hc; rw [hc]; exact lc)
        exact ⟨s1.heap.objs.size + 5, [s1.heap.objs.size + 5, s1.heap.objs.size + 3, s1.heap.objs.size + 4, s1.heap.objs.size, s1.heap.objs.size + 1, s1.heap.objs.size + 2], _, _, H1, rfl, I2, turn_zip3 sep (Nat.ne_of_lt la) (Nat.ne_of_lt (Nat.lt_succ_of_lt lb)) (Nat.ne_of_lt (Nat.lt_succ_of_lt (Nat.lt_succ_of_lt lc))), ⟨hz, hTI, ⟨_, _, _, hTO⟩, ⟨_, g1, rfl, rfl⟩, ⟨_, g2, rfl, rfl⟩, ⟨_, g3, rfl, rfl⟩⟩, fresh6, q⟩
section
variable {X : L2.Cx} {K : Kf} {f : List Addr} {H : Hp} {a b c : Expr} {ta tb tc : TE} {es : List Expr} {pos : Pos}
theorem zip3D_get : ∀ {xs ys us : List D} {i : Nat} {d : D}, (zip3D xs ys us)[i]? = some d → ∃ x y u, d = .tup [x, y, u] ∧ xs[i]? = some x ∧ ys[i]? = some y ∧ us[i]? = some u
  | [], _, _, _, _, h => by simp [zip3D] at h
  | _ :: _, [], _, _, _, h => by simp [zip3D] at h
  | _ :: _, _ :: _, [], _, _, h => by simp [zip3D] at h
  | x :: xs, y :: ys, u :: us, 0, d, h => by simp [zip3D] at h; exact ⟨x, y, u, h.symm, rfl, rfl, rfl⟩
  | x :: xs, y :: ys, u :: us, i + 1, d, h => by
    obtain ⟨x', y', u', h1, h2, h3, h4⟩ := zip3D_get (xs := xs) (ys := ys) (us := us) (i := i) (by simpa [zip3D] using h)
    exact ⟨x', y', u', h1, by simpa using h2, by simpa using h3, by simpa using h4⟩
theorem zip3D_length : ∀ (xs ys us : List D), (zip3D xs ys us).length = min xs.length (min ys.length us.length)
  | [], _, _ => by simp [zip3D]
  | _ :: _, [], _ => by simp [zip3D]
  | _ :: _, _ :: _, [] => by simp [zip3D]
  | x :: xs, y :: ys, u :: us => by simp [zip3D, zip3D_length xs ys us]
theorem realI_zip3 {m n p : Nat} {a b c : Addr} {xs ys us : List D} (hm : f[m]? = some a) (hn : f[n]? = some b) (hp : f[p]? = some c) : RealI K f H ⟨zip3D xs ys us, fun s => rdA s m xs ∧ rdA s n ys ∧ rdA s p us⟩ (Itz3 K a b c) where
  go := fun i f2 st2 H2 e2 s2 g hi => by
    have hi : i < (zip3D xs ys us).length := hi
    rw [zip3D_length] at hi
    obtain ⟨a', vs, k1, k2, k3⟩ := s2.rdA g.1
    obtain ⟨b', ws, j1, j2, j3⟩ := s2.rdA g.2.1
    obtain ⟨c', ts, l1, l2, l3⟩ := s2.rdA g.2.2
    rw [e2.at hm] at k1; cases k1
    rw [e2.at hn] at j1; cases j1
    rw [e2.at hp] at l1; cases l1
    obtain ⟨v, hv⟩ := k3.at_lt (i := i) (by omega)
    obtain ⟨w, hw⟩ := j3.at_lt (i := i) (by omega)
    obtain ⟨t, ht⟩ := l3.at_lt (i := i) (by omega)
    exact ⟨vs, ws, ts, v, w, t, k2, j2, l2, hv, hw, ht⟩
  stop := fun f2 st2 H2 e2 s2 g => by
    obtain ⟨a', vs, k1, k2, k3⟩ := s2.rdA g.1
    obtain ⟨b', ws, j1, j2, j3⟩ := s2.rdA g.2.1
    obtain ⟨c', ts, l1, l2, l3⟩ := s2.rdA g.2.2
    rw [e2.at hm] at k1; cases k1
    rw [e2.at hn] at j1; cases j1
    rw [e2.at hp] at l1; cases l1
    refine ⟨vs, ws, ts, k2, j2, l2, ?_⟩
    show (zip3D xs ys us).length ≤ vs.length ∧ (zip3D xs ys us).length ≤ ws.length ∧ (zip3D xs ys us).length ≤ ts.length ∧ ((zip3D xs ys us).length = vs.length ∨ (zip3D xs ys us).length = ws.length ∨ (zip3D xs ys us).length = ts.length)
    rw [zip3D_length, k3.length, j3.length, l3.length]; omega
  yld := fun i f2 st2 H2 d x H3 e2 s2 g hd y => by
    obtain ⟨a', vs, k1, k2, k3⟩ := s2.rdA g.1
    obtain ⟨b', ws, j1, j2, j3⟩ := s2.rdA g.2.1
    obtain ⟨c', ts, l1, l2, l3⟩ := s2.rdA g.2.2
    rw [e2.at hm] at k1; cases k1
    rw [e2.at hn] at j1; cases j1
    rw [e2.at hp] at l1; cases l1
    obtain ⟨T, x1, x2, x3, rfl, hT, rfl, y1, y2, y3⟩ := y
    obtain ⟨d1, d2, d3, rfl, g1, g2, g3⟩ := zip3D_get hd
    obtain ⟨v, h1, h2⟩ := k3.get g1
    obtain ⟨w, h3, h4⟩ := j3.get g2
    obtain ⟨t, h5, h6⟩ := l3.get g3
    have q1 := y1 vs k2
    have q2 := y2 ws j2
    have q3 := y3 ts l2
    rw [h1] at q1; cases q1
    rw [h3] at q2; cases q2
    rw [h5] at q3; cases q3
    obtain ⟨s', e'⟩ := s2.lay (o := .tup [x1, x2, x3]) hT
    refine ⟨e', s', RD.tup.mpr ⟨T, [x1, x2, x3], rfl, .of L2.upd_same, ?_⟩⟩
    rw [RDs.cons]
    refine ⟨x1, [x2, x3], rfl, h2.mono e', ?_⟩
    rw [RDs.cons]
    exact ⟨x2, [x3], rfl, h4.mono e', RDs.one (h6.mono e')⟩
theorem pi_zip3 {p tp : Pos} {kk : Nat} (hg : L2.Gl X "zip") (hm : X.mg "zip" = none) (h : PD X a ta) (h' : PD X b tb) (h'' : PD X c tc) (hs : starEach [a, b, c] X.env = (false, eval a X.env) :: starEach [b, c] X.env := by rfl) (hs2 : starEach [b, c] X.env = (false, eval b X.env) :: starEach [c] X.env := by rfl) (hs3 : starEach [c] X.env = (false, eval c X.env) :: starEach [] X.env := by rfl)
    (hpl : (backTo pos (starEach [b, c] X.env)).any (·.1) = false := by rfl) : PDI X (.Tuple es kk tp) (.Call (.Name "zip" p) [a, b, c] [] pos) (iZip3 ta tb tc) :=
  pi_imp (pi_zip3A hg hm (L2.pa_cons h (L2.pa_cons h' (L2.pa_cons h'' L2.pa_nil hs3) hs2) hs) hs hpl) fun σ H R ⟨f, ρ, st, R', Re, h, l⟩ => ⟨f, ρ, st, _, Re, h, fun x st1 v f1 H1 q1 e1 s1 r1 => ⟨f1, ρ, st1, _, Re.later e1 s1, q1, fun y st2 w f2 H2 q2 e2 s2 r2 => ⟨f2, ρ, st2, _, (Re.later e1 s1).later e2 s2, q2, fun z st3 w3 f3 H3 q3 e3 s3 r3 => by
    have r1' := (r1.mono e2).mono e3
    have r2' := r2.mono e3
    cases x <;> cases y <;> cases z <;> try (exact q3.elim)
    rw [RD.ref] at r1' r2' r3
    obtain ⟨a, g1, rfl⟩ := r1'
    obtain ⟨b, g2, rfl⟩ := r2'
    obtain ⟨c, g3, rfl⟩ := r3
    obtain ⟨xs, ys, us, q4, q5, q6, q7⟩ := q3
    obtain ⟨a', vs, k1, k2, k3⟩ := s3.rdA q4
    obtain ⟨b', ws, j1, j2, j3⟩ := s3.rdA q5
    obtain ⟨c', ts, l1, l2, l3⟩ := s3.rdA q6
    rw [g1] at k1; cases k1
    rw [g2] at j1; cases j1
    rw [g3] at l1; cases l1
    exact ⟨a, b, c, vs, ws, ts, rfl, k2, j2, l2, l _ st3 _ f3 H3 q7 ((e1.trans e2).trans e3) s3 (realI_zip3 g1 g2 g3)⟩⟩⟩⟩
end
end Pd
end PartPdSoundQ

section PartPdMore11
set_option Elab.async false
set_option linter.all false
set_option maxRecDepth 100000
/-! Pd: more readings of texts: a sign in a text, join, count, str of a number, a walk over the signs; a list's place from the end. Own work. -/
namespace Pd
open PySem
/-- a sign in a text -/
def inSgC : KC
  | .str x, .str z, _, Q => ∃ c, x.cps.toList = [c] ∧ Q (decide (c ∈ z.cps.toList))
  | _, _, _, _ => False
def notinSgC : KC := fun x y st Q => inSgC x y st fun b => Q (!b)
/-- sep.join(xs) -/
def joinM : KM
  | .str a, [.ref n], st, Q => ∃ ys : List Str, rdA st n (ys.map D.str) ∧ (ys.map (·.length)).sum + ys.length * a.length ≤ 16777216 ∧ Q (.str (PySem.Txt.join a ys)) st
  | .str a, [.tup xs], st, Q => ∃ ys : List Str, xs = ys.map D.str ∧ (ys.map (·.length)).sum + ys.length * a.length ≤ 16777216 ∧ Q (.str (PySem.Txt.join a ys)) st
  | _, _, _, _ => False
/-- x.count(y) of texts -/
def countSM : KM
  | .str a, [.str b], st, Q => Q (.int (PySem.Txt.count a b)) st
  | _, _, _, _ => False
/-- str(i) -/
def strIB : KB
  | [.int i], st, Q => i.natAbs.log2 < 1920 ∧ Q (.str (toString i : String)) st
  | _, _, _ => False
/-- the signs of a text -/
def sgD (z : Str) : List D := z.cps.toList.map fun c => D.str ⟨#[c]⟩
def iStrD (t : TE) : TI := fun σ st R => t σ st fun x st1 => ∃ z, x = .str z ∧ R ⟨sgD z, fun _ => True⟩ st1
/-- xs[i] = v, i from the end too -/
def ixJ (n : Nat) (i : Int) : Option Nat := if 0 ≤ i then (if i < n then some i.toNat else none) else if -(n : Int) ≤ i then some (i + n).toNat else none
def setNK : D → D → D → Store → (Store → Prop) → Prop
  | .ref n, .int i, v, st, Q => ∃ xs j, rdL st n xs ∧ ixJ xs.length i = some j ∧ Q (st.set n (.lst (xs.set j v)))
  | _, _, _, _, _ => False
def gSubN (to ti : TE) : TG := fun v σ st Q => to σ st fun o st1 => ti σ st1 fun i st2 => setNK o i v st2 fun st3 => Q σ st3
section
variable {σ : Env} {st : Store} {Q : K} {ta to ti : TE} {d : D} {u v : Str} {r : Bool → Prop}
instance : Red (strIB [.int i] st Q) (i.natAbs.log2 < 1920 ∧ Q (.str (toString i : String)) st) := ⟨id⟩
instance : Red (countSM (.str u) [.str v] st Q) (Q (.int (PySem.Txt.count u v)) st) := ⟨id⟩
instance {R : Iter → Store → Prop} : Red (iStrD ta σ st R) (ta σ st fun x st1 => ∃ z, x = .str z ∧ R ⟨sgD z, fun _ => True⟩ st1) := ⟨id⟩
instance {q : Env → Store → Prop} : Red (gSubN to ti d σ st q) (to σ st fun o st1 => ti σ st1 fun i st2 => setNK o i d st2 fun st3 => q σ st3) := ⟨id⟩
end
end Pd
end PartPdMore11

section PartPdSoundT
set_option Elab.async false
set_option linter.all false
set_option maxRecDepth 100000
set_option maxHeartbeats 1000000
/-! Pd over the hand layer: texts, constants of the module. Own work. -/
namespace Pd
open PySem PySem.Spec
section
variable {X : L2.Cx} {K : Kf} {f f' : List Addr} {H H' : Hp} {st st' : Store} {ρ : Env} {σ : L2.St}
theorem real_insg : RealC K (fun x y H Q => ∃ (c : Nat) (z : Str), x = .str ⟨#[c]⟩ ∧ y = .str z ∧ Q (.bl (decide (c ∈ z.cps.toList))) H) inSgC := fun f st H x y v w Q' Q s r1 r2 h l => by
  cases x <;> try (exact h.elim)
  cases y <;> try (exact h.elim)
  rename_i x z
  obtain ⟨c, e, q⟩ := h
  rw [RD.str] at r1 r2
  have ex : x = ⟨#[c]⟩ := by
    obtain ⟨cps⟩ := x
    obtain ⟨l⟩ := cps
    have e' : l = [c] := e
    rw [e']
  rw [ex] at r1
  exact ⟨c, z, r1, r2, l _ q⟩
theorem real_notinsg : RealC K (fun x y H Q => ∃ (c : Nat) (z : Str), x = .str ⟨#[c]⟩ ∧ y = .str z ∧ Q (.bl (!decide (c ∈ z.cps.toList))) H) notinSgC := fun f st H x y v w Q' Q s r1 r2 h l => by
  cases x <;> try (exact (show False from h).elim)
  cases y <;> try (exact (show False from h).elim)
  rename_i x z
  obtain ⟨c, e, q⟩ := h
  rw [RD.str] at r1 r2
  have ex : x = ⟨#[c]⟩ := by
    obtain ⟨cps⟩ := x
    obtain ⟨l⟩ := cps
    have e' : l = [c] := e
    rw [e']
  rw [ex] at r1
  exact ⟨c, z, r1, r2, l _ q⟩
theorem RDs.strs : ∀ {ys : List Str} {vs : List L2.V}, RDs K f H (ys.map D.str) vs → vs = ys.map L2.V.str
  | [], _, h => by rw [List.map_nil, RDs.nil] at h; subst h; rfl
  | n :: ns, _, h => by
    rw [List.map_cons, RDs.cons] at h
    obtain ⟨v, r, rfl, h2, h3⟩ := h
    rw [RD.str] at h2
    rw [h2, RDs.strs h3]; rfl
theorem real_join : RealM K (fun x xs H Q => ∃ a p, ∃ ys : List Str, x = .str a ∧ xs = [.ref p] ∧ (L2.SqL K H p (ys.map L2.V.str) ∨ L2.SqT K H p (ys.map L2.V.str)) ∧ (ys.map (·.length)).sum + ys.length * a.length ≤ 16777216 ∧ Q (.str (Txt.join a ys)) H) joinM := fun f st H x xs v vs Q' Q s r1 r2 h l => by
  cases x <;> try (exact h.elim)
  rename_i a
  rw [RD.str] at r1
  match xs, h with
  | [], h => exact h.elim
  | y :: _ :: _, h => cases y <;> exact (show False from h).elim
  | [y], h =>
    obtain ⟨w, rfl, r3⟩ := r2.inv1
    cases y <;> try (exact h.elim)
    · rw [RD.tup] at r3
      obtain ⟨p, us, rfl, t, d⟩ := r3
      obtain ⟨ys, rfl, hz, q⟩ := h
      have e := RDs.strs d
      subst e
      exact ⟨a, p, ys, r1, rfl, .inr t, hz, l.now s q (RD.str.mpr rfl)⟩
    · rw [RD.ref] at r3
      obtain ⟨p, e, rfl⟩ := r3
      obtain ⟨ys, g1, hz, q⟩ := h
      obtain ⟨p', us, k1, k2, d⟩ := s.rdA g1
      rw [e] at k1; cases k1
      have e := RDs.strs d
      subst e
      exact ⟨a, p, ys, r1, rfl, .inl k2, hz, l.now s q (RD.str.mpr rfl)⟩
theorem real_countS : RealM K (fun x xs H Q => ∃ a b, x = .str a ∧ xs = [.str b] ∧ Q (.int (Txt.count a b)) H) countSM := fun f st H x xs v vs Q' Q s r1 r2 h l => by
  cases x <;> try (exact h.elim)
  rename_i a
  rw [RD.str] at r1
  match xs, h with
  | [], h => exact h.elim
  | y :: _ :: _, h => cases y <;> exact (show False from h).elim
  | [y], h =>
    obtain ⟨w, rfl, r3⟩ := r2.inv1
    cases y <;> try (exact h.elim)
    rename_i b
    rw [RD.str] at r3
    exact ⟨a, b, r1, by rw [r3], l.now s h (RD.int.mpr rfl)⟩
theorem real_strI : RealB K (fun xs H Q => ∃ i, xs = [.int i] ∧ i.natAbs.log2 < 1920 ∧ Q (.str (toString i : String)) H) strIB :=
  realB1 (kb1 (fun _ _ h => h) fun x y xs st Q h => by cases x <;> exact h) fun f st H x v Q' Q s r h l => by
    cases x <;> try (exact h.elim)
    rw [RD.int] at r; subst r
    exact ⟨_, rfl, h.1, l.now s h.2 (RD.str.mpr rfl)⟩
theorem realI_str {z : Str} : RealI K f H ⟨sgD z, fun _ => True⟩ (L2.Its z) where
  go := fun i f2 st2 H2 e2 s2 g hi => by
    have : i < z.cps.toList.length := by simpa [sgD] using hi
    show i < z.cps.size
    simpa using this
  stop := fun f2 st2 H2 e2 s2 g => by
    show z.cps.size ≤ (sgD z).length
    simp [sgD]
  yld := fun i f2 st2 H2 d x H3 e2 s2 g hd y => by
    obtain ⟨rfl, c, hc, rfl⟩ := y
    refine ⟨.refl, s2, ?_⟩
    have hd' : (sgD z)[i]? = some d := hd
    unfold sgD at hd'
    rw [List.getElem?_map, Array.getElem?_toList, hc] at hd'
    cases hd'
    exact RD.str.mpr rfl
section
variable {a b c e o i : Expr} {es : List Expr} {ta tb te to ti : TE} {pos tpos : Pos}
theorem pi_strD {tg : Expr} (h : PD X a ta) : PDI X tg a (iStrD ta) :=
  pi_imp (L2.pi_str h) fun σ H R ⟨f, ρ, st, R', Re, h, l⟩ => ⟨f, ρ, st, _, Re, h, fun x st1 v f1 H1 q1 e1 s1 r1 => by
    obtain ⟨z, rfl, q⟩ := q1
    rw [RD.str] at r1
    exact ⟨z, r1, l _ st1 _ f1 H1 q e1 s1 realI_str⟩⟩
theorem real_setN : RealSet K L2.rSetL setNK := fun f st H o i v ov iv vv Q' Q s r1 r2 r3 h l => by
  cases o <;> try (exact h.elim)
  cases i <;> try (exact h.elim)
  rename_i n i
  rw [RD.ref] at r1
  rw [RD.int] at r2
  obtain ⟨a, e, rfl⟩ := r1
  obtain ⟨xs, j, h1, h2, h4⟩ := h
  obtain ⟨a', vs, k1, k2, k3⟩ := s.rdL h1
  rw [e] at k1; cases k1
  obtain ⟨s', e'⟩ := s.put e h1 k2 (k3.set j r3)
  exact ⟨a, vs, i, j, rfl, r2, k2, by rw [k3.length]; exact h2, l _ _ h4 e' s'⟩
theorem pg_subN (h1 : PD X o to) (h2 : PD X i ti) (ha : ∀ v, assign (.Subscript o i pos) X.env v = (do
      let ov ← holding [v] (eval o X.env)
      let iv ← holding [v, ov] (eval i X.env)
      standAt pos
      holding [v, ov, iv] (setItem ov iv v)
      release [v, ov, iv] []) := by intro _; rfl) : PDG X (.Subscript o i pos) (gSubN to ti) [] :=
  pg_imp (L2.pg_sub h1 h2 L2.set_list ha) fun v σ H Q ⟨f, ρ, st, d, Q', R, r, h, l⟩ => ⟨f, ρ, st, _, R, h, fun x st1 u f1 H1 q1 e1 s1 r1 => ⟨f1, ρ, st1, _, R.later e1 s1, q1, fun y st2 w f2 H2 q2 e2 s2 r2 =>
    real_setN f2 st2 H2 x y d u w v _ _ s2 (r1.mono e2) r2 (r.mono (e1.trans e2)) q2 fun st3 H3 q3 e3 s3 => l ρ st3 σ f2 H3 q3 ((e1.trans e2).trans e3) (R.later ((e1.trans e2).trans e3) s3) .refl⟩⟩
end
/-! ### constants of the module -/
/-- at the name x stands d -/
def GlobIs (K : Kf) (mg : Str → Option Value) (x : Str) (d : D) : Prop := ∃ u, mg x = some u ∧ ∃ v, L2.RelV v u ∧ ∀ f H, RD K f H d v
theorem pd_globE {x : Str} {d : D} {pos : Pos} (h : GlobIs X.K X.mg x d) (hg : L2.Gl X x) (hd : (x == ("__debug__" : Str)) = false := by decide) : PD X (.Name x pos) (dC d) := by
  obtain ⟨u, h1, h2⟩ := h
  exact pd_glob hg h1 h2 hd
def strOk (u : Value) (s : Str) : Bool := match u with
  | .str z _ => decide (z = s)
  | _ => false
theorem glob_str {mg : Str → Option Value} {x s : Str} {u : Value} (h : mg x = some u) (e : strOk u s = true) : GlobIs K mg x (.str s) := by
  cases u <;> first | (cases e; done) | skip
  rename_i z t
  have e : z = s := by simpa [strOk] using e
  subst e
  exact ⟨_, h, .str z, ⟨t, rfl⟩, fun f H => RD.str.mpr rfl⟩
/-- a written item: a text, a number, a truth, None -/
def itOk (u : Value) (d : D) : Bool := match u, d with
  | .str z _, .str s => decide (z = s)
  | .int i _, .int j => decide (i = j)
  | .bool a, .bl b => a == b
  | .none, .non => true
  | _, _ => false
def itsOk : List Value → List D → Bool
  | [], [] => true
  | u :: us, d :: ds => itOk u d && itsOk us ds
  | _, _ => false
theorem it_rel {u : Value} {d : D} (e : itOk u d = true) : ∃ v, L2.RelV v u ∧ ∀ f H, RD K f H d v := by
  cases u <;> cases d <;> first | (cases e; done) | skip
  · exact ⟨.non, rfl, fun f H => RD.non.mpr rfl⟩
  · rename_i a b
    have e : a = b := by simpa [itOk] using e
    subst e
    exact ⟨.bl a, rfl, fun f H => RD.bl.mpr rfl⟩
  · rename_i i t j
    have e : i = j := by simpa [itOk] using e
    subst e
    exact ⟨.int i, ⟨t, rfl⟩, fun f H => RD.int.mpr rfl⟩
  · rename_i z t s
    have e : z = s := by simpa [itOk] using e
    subst e
    exact ⟨.str z, ⟨t, rfl⟩, fun f H => RD.str.mpr rfl⟩
theorem its_rel : ∀ {us : List Value} {ds : List D}, itsOk us ds = true → ∃ vs, L2.Vals vs us ∧ ∀ f H, RDs K f H ds vs
  | [], [], _ => ⟨[], .nil, fun f H => RDs.nil.mpr rfl⟩
  | [], _ :: _, e => by cases e
  | _ :: _, [], e => by cases e
  | u :: us, d :: ds, e => by
    have e' : itOk u d = true ∧ itsOk us ds = true := by simpa [itsOk] using e
    obtain ⟨v, h1, h2⟩ := it_rel e'.1
    obtain ⟨vs, h3, h4⟩ := its_rel e'.2
    exact ⟨v :: vs, .cons h1 h3, fun f H => RDs.cons.mpr ⟨v, vs, rfl, h2 f H, h4 f H⟩⟩
theorem glob_tup {mg : Str → Option Value} {x : Str} {a : Addr} {oc : Value} {od : Option Addr} {its : Array Value} {n : Nat} {sl : Array (Option Value)} {ds : List D} (h : mg x = some (.ref a)) (l : K.lookup a = some ⟨oc, od, .seq its n, sl⟩) (c : oc = .type "tuple")
    (e : (itsOk its.toList ds && decide (its.size ≤ 1000)) = true) : GlobIs K mg x (.tup ds) := by
  have e' : itsOk its.toList ds = true ∧ its.size ≤ 1000 := by simpa using e
  obtain ⟨vs, h1, h2⟩ := its_rel e'.1
  refine ⟨_, h, .ref a, rfl, fun f H => RD.tup.mpr ⟨a, vs, rfl, .inr ⟨_, its, n, l, c, rfl, ?_, h1⟩, h2 f H⟩⟩
  have := e'.2
  unfold sizeLine
  omega
end
end Pd
end PartPdSoundT

section PartPdMore29
set_option Elab.async false
set_option linter.all false
set_option maxRecDepth 100000
/-! Pd: defs that raise. What such a def tells is told with a mark: 0 and the value, or 1, the class and the fields. Own work. -/
namespace Pd
open PySem
def okO (d : D) : D := .tup [.int 0, d]
def exO (cn : Str) (fs : List D) : D := .tup [.int 1, .str cn, .tup fs]
theorem okO_inj {d e : D} (h : okO d = okO e) : d = e := by unfold okO at h; simpa using h
theorem exO_inj {c c' : Str} {fs gs : List D} (h : exO c fs = exO c' gs) : c = c' ∧ fs = gs := by unfold exO at h; simpa using h
theorem ok_ex {d : D} {c : Str} {fs : List D} (h : okO d = exO c fs) : False := by unfold okO exO at h; simp at h
/-- a def's body: its end without a return tells None -/
def runX (b : TS) : TS := fun D0 σ st => b { nx := fun _ st' => D0.rt (okO .non) st', rt := D0.rt } σ st
def sRaise0 (cn : Str) : TS := fun D0 _ st => D0.rt (exO cn []) st
def sRetX (te : TE) : TS := fun D0 σ st => te σ st fun d st' => D0.rt (okO d) st'
/-- f(..), f a def that may raise, as a statement -/
def sExprX (c : Cl) (x : String) (ts : TA) : TS := fun D0 σ st => ts σ st fun ds st1 => c x ds st1 fun r st2 => (∃ d, r = okO d ∧ D0.nx σ st2) ∨ ∃ cn fs, r = exO cn fs ∧ D0.rt (exO cn fs) st2
/-- code that is not reached -/
def sNever : TS := fun _ _ _ => False
/-- try: f(..), except C: h -/
def sTryE (c : Cl) (x : String) (ts : TA) (cn : Str) (h : TS) : TS := fun D0 σ st => ts σ st fun ds st1 => c x ds st1 fun r st2 => (∃ d, r = okO d ∧ D0.nx σ st2) ∨ (r = exO cn [] ∧ h D0 σ st2)
/-- f(..), f a def that may raise and does not here -/
def dCallN (c : Cl) (x : String) (ts : TA) : TE := fun σ st Q => ts σ st fun ds st1 => c x ds st1 fun r st2 => ∃ d, r = okO d ∧ Q d st2
/-- a suite whose name is slot i -/
def hTry (i : Nat) (h : TS) : TS := fun D0 σ st => h { nx := fun σ' st' => D0.nx (σ'.set i none) st', rt := D0.rt, bk := fun σ' st' => D0.bk (σ'.set i none) st', ct := fun σ' st' => D0.ct (σ'.set i none) st' } (σ.set i none) st
section
variable {D0 : Ends} {σ : Env} {st : Store} {Q : K} {c : Cl} {x : String} {ts : TA} {a b h : TS}
instance : Red (dCallN c x ts σ st Q) (ts σ st fun ds st1 => c x ds st1 fun r st2 => ∃ d, r = okO d ∧ Q d st2) := ⟨id⟩
end
end Pd
end PartPdMore29

section PartPdSoundXa
set_option Elab.async false
set_option linter.all false
set_option maxRecDepth 100000
set_option maxHeartbeats 2000000
/-! An own exception class over ValueError whose __init__ says super().__init__(text): over the hand layer. Own work. -/
namespace L2
open PySem PySem.Spec PyProof.Rows PySem.W
open NdefX (NF envF ncx NScope startF CellsAt inv_startN)
/-- what the written part says of the class at C, its __init__ F at f, the cell of its class at cc -/
structure SupC (P : Program) (K : PySem.W.Frag) (mg : Str → Option Value) (C f cc : Addr) (F : NF) : Prop where
  T : OexC K C
  th : nsIn K cStatics "thirdparty.any" = some none
  sup : ks_superIn K C C "__init__" = some (some (.builtin "ValueError.__init__"))
  subV : subIn K (.ref C) (.type "ValueError") = some true
  self : mroIn K C (.ref C) = some true
  cell : ∃ cl cld csl, K.lookup cc = some ⟨cl, cld, .cell (some (.ref C)), csl⟩
  cl : F.cl = [(("__class__" : Str), cc)]
  code : ∃ ccl cdd vs ccs file tf, K.lookup F.c = some ⟨ccl, cdd, .fields vs, ccs⟩ ∧ vs[2]? = some (.str file tf) ∧ ((P.main.file : Str) == file) = true
  cd : codeIn K (.ref F.c) F.qual = true
  fn : ∃ oc od doc pm ct osl, K.lookup f = some ⟨oc, od, .func (F.fd doc pm ct), osl⟩
  top : (P.main.scope.names.lookup ("super" : Str)).isSome = false
  sn : mg "super" = none
theorem upd_back {H : Hp} {a : Addr} {o : HO} (e : H a = some o) : upd H a o = H := by
  funext b
  by_cases hb : b = a
  · rw [hb, upd_same, e]
  · rw [upd_ne hb]
section
variable {CX : CXT} {P : Program} {w : World} {K : PySem.W.Frag} {mg : Str → Option Value} {base : Heap} {N : List Str} {F : NF} {f C cc a : Addr} {A : Around} {outer : List Env} {s0 : Shared} {H0 : Hp} {E : XK} {sn : Str}
theorem super_st {s : Shared} {σ : St} {H : Hp} {i : Nat} {ar : Arg} {txt : Str} {j : Nat} {p0 p1 p2 p3 p4 pos : Pos} {E' : Value → Shared → Prop} (S : SupC P K mg C f cc F) (I : Inv (ncx CX P w K mg base N F f A outer s0 H0 E) [] σ H s)
    (hp : (F.params.posonlyargs ++ F.params.args).head? = some ar) (hN : N[i]? = some ar.arg) (hv : σ[i]? = some (some (.ref a))) (hl : F.scope.names.lookup ar.arg = some .local)
    (hks : F.scope.names.lookup ("super" : Str) = some .globalImplicit) (hkc : F.scope.names.lookup ("__class__" : Str) = some .free) (hk : F.scope.kind = .function) (e : H a = some (exo a C none))
    (hi : interactive (envF F f s0.heap.objs.size) = false) {pl : Sem Bool}
    (he : eval (.Call (.Attribute (.Call (.Name "super" p0) [] [] p1) "__init__" p2) [.Constant (.str txt) j p3] [] p4) (envF F f s0.heap.objs.size) = (do
      let ov ← attributeBase (.Call (.Name "super" p0) [] [] p1) "__init__" (envF F f s0.heap.objs.size) (eval (.Call (.Name "super" p0) [] [] p1) (envF F f s0.heap.objs.size))
      standAt p2.atName
      let (f', first) ← holding [ov] (getMethod ov "__init__" pl)
      callWith p4 f' first (backTo p4 (starEach [.Constant (.str txt) j p3] (envF F f s0.heap.objs.size))) [])) :
    PySem.wpAt (model P w) (ncx CX P w K mg base N F f A outer s0 H0 E).A (.func F.body (envF F f s0.heap.objs.size)) (exec (.Expr (.Call (.Attribute (.Call (.Name "super" p0) [] [] p1) "__init__" p2) [.Constant (.str txt) j p3] [] p4) pos) (envF F f s0.heap.objs.size))
      (fun fl s' => fl = .next ∧ Inv (ncx CX P w K mg base N F f A outer s0 H0 E) [] σ H s') E' s := by
  obtain ⟨cl, cld, csl, lc⟩ := S.cell
  obtain ⟨ccl, cdd, vs, ccs, file, tf, lcode, hvs, hfile⟩ := S.code
  obtain ⟨oc, od, doc, pm, ct, osl, lf⟩ := S.fn
  obtain ⟨nm, q, Nn, bs, bm, sn', sub, ab, col, dd, k0, k1, k2, k3, k5, hC, hbm⟩ := S.T.cls
  have X : K.In s.heap := I.kIn
  obtain ⟨mb, h1, h2⟩ := I.mod.blt
  obtain ⟨m, hn, hlc⟩ := I.loc
  have hsub : PySem.W.Looks (model P w) s.heap (isSubtype (.ref C) (.ref C)) true := looks_mroIn X S.self
  obtain ⟨t1, ho⟩ := exo_at I.hok e
  refine ks_wpAt_Expr_any (ks_wpAt_MethodCall (pl := pl) ?_ he) hi
  refine ks_wpAt_super_base (env := envF F f s0.heap.objs.size) hks hkc (by decide) rfl (X _ _ lf) rfl hp rfl (X _ _ lcode) rfl hvs hfile S.top ?_
  refine ks_loadName_global hk hks (Calls.loadGlobal_builtin (show s.heap.Ns mainGlobals mg from I.mod.glob.keeps I.bk) S.sn (show s.heap.Ns builtinsNs mb from h1.keeps I.bk) ((h2 _ (by decide)).trans PyProof.Rows.Boot.«super») ⟨rfl, ?_⟩)
  refine wpAny_loadName_free (c := cc) hk hkc (by show F.cl.lookup _ = _; rw [S.cl]; rfl) ⟨_, X _ _ lc, rfl⟩ ?_
  obtain ⟨u, ru, lk⟩ := hlc i ar.arg _ hN hv (.inl hl)
  have hu : u = Value.ref a := ru
  subst hu
  have hm : m ar.arg = some (.ref a) := by
    rcases lk with ⟨_, z⟩ | ⟨z, _⟩
    · exact z
    · have z' : F.scope.names.lookup ar.arg = some .cell ∨ F.scope.names.lookup ar.arg = some .free := z
      rw [hl] at z'
      rcases z' with z' | z' <;> cases z'
  refine wpAny_loadName_local (m := m) hk hl hn hm ?_
  refine ks_wpAny_isType_cls (X _ _ hC) rfl ⟨rfl, ?_⟩
  obtain ⟨hp0, g, dr, tk, os⟩ := s
  refine ks_wpAny_call_super (X _ _ hC) rfl ho rfl (fun c z => by cases z) hsub (fun h' hso k => ?_)
  have I1 := I.kept (t' := tk) k
  have X1 : K.In h' := I1.kIn
  have ho1 := k _ _ ho
  have hcl : PySem.W.clsIn K C = some { name := nm, bases := bs, mro := .ref C :: bm, ns := Nn, qualname := q, hasDict := true, slotNames := sn', subclasses := sub, abstract := ab, collection := col, hasDel := false } := by unfold PySem.W.clsIn; rw [hC] <;> rfl
  have hsup := S.sup
  unfold ks_superIn at hsup
  rw [hcl] at hsup
  have Ia : InstAt h' a { cls := .ref C, dict := none, data := .fields #[.ref t1, .none, .none, .none, .bool false, .none] } C none := ⟨ho1, rfl, rfl, trivial⟩
  have hne : a ≠ C := fun z => by
    have z1 := X1 _ _ hC
    rw [← z, ho1] at z1
    cases z1
  refine kxs_getMethod kxs_ValueError hso (looks_opaque X1 S.th) (l₀ := .ref C :: bm) (fun A Q E s k q => wpAny_bind ((looks_clsIn X1 hcl) A _ E s k (wpAny_pure q))) rfl X1 hsup (Ia.type.andThen (looks_subIn X1 S.subV)) hne (by decide) ?_
  have k2 : ∀ b o, h'.get? b = some o → (h'.push (kxs_mw "ValueError.__init__" a)).get? b = some o := fun b o z => Heap.get?_push_of_some _ z
  have I2 := I1.kept (t' := tk + 1) k2
  have hu : (h'.push (kxs_mw "ValueError.__init__" a)).get? h'.objs.size = some (kxs_mw "ValueError.__init__" a) := Heap.get?_push_at rfl rfl
  refine kxs_callWith (i := "ValueError.__init__") (x := a) (by rfl) ?_
  show wpAny _ _ (evalArgs (.ref h'.objs.size) true [(false, eval (.Constant (.str txt) j p3) (envF F f s0.heap.objs.size))] []) _ _ _
  refine Calls.evalArgs_plain (Calls.spliced_cons (Calls.Constant_str (Calls.spliced_nil ⟨hu, ?_⟩)))
  have hC2 := k2 _ _ (X1 _ _ hC)
  have ho2 := k2 _ _ ho1
  refine wpAny_call (codeAny_of_tree ?_)
  show wpAny _ _ (callAny (.ref h'.objs.size) ⟨_, []⟩) _ _ _
  simp only [callAny]
  refine wpAny_bind (wpAny_load hu ?_)
  simp only [kxs_mw, show (Value.type "method-wrapper" == Value.type "method" || Value.type "method-wrapper" == Value.type "builtin_function_or_method" || Value.type "method-wrapper" == Value.type "method-wrapper") = true by decide, if_true]
  refine KFB.if_so (by decide) ?_
  refine wpAny_bind (check_bound_init PySem.F.excBase_ValueError.toExcCallFacts hC2 ho2 rfl ?_)
  refine wpAny_bind (wpAny_pure (wpAny_pure ?_))
  refine ⟨plainId_quiet PySem.F.excBase_ValueError.init.plain _, codeAny_builtin PySem.F.excBase_ValueError.initEntry ?_⟩
  refine exc_init_tree (cls := .ref C) (t0 := t1) (dv := none) (c2 := .none) (c3 := .none) (b4 := .bool false) ho2 (by show 1 ≤ sizeLine; rw [sizeLine_eq]; omega) fun h3 k3 e3 t3 => ?_
  refine ⟨trivial, ?_⟩
  have J := I2.write (t' := tk + 1 + 1) (x := a) (e := a) (o := exo a C none) (by rw [e]; exact True.intro) (.inl rfl) k3 ⟨_, e3⟩ (exo_ok e3)
  rw [upd_back e] at J
  exact J
end
section
variable {CX : CXT} {P : Program} {w : World} {K : PySem.W.Frag} {mg : Str → Option Value} {base : Heap} {N ps : List Str} {F : NF} {f C cc : Addr}
/-- the promise of such an __init__: rest are its statements behind the first one, t what they do -/
def spIni (N ps : List Str) (C : Addr) (t : TS) : Sp := fun vs H Q E => vs.length = ps.length ∧ ∃ (a : Addr) (ws : List V), vs = .ref a :: ws ∧ H a = some (exo a C none) ∧ t { nx := fun _ H' => Q .non H', rt := Q } (startF N vs [some (.ref C)]) H
theorem init_fn {k : Nat} {fd : FuncData} {t : TS} {ar : Arg} {txt : Str} {j : Nat} {p0 p1 p2 p3 p4 pos : Pos} {rest : List Stmt} (S : SupC P K mg C f cc F) (NS : NScope N ps ["__class__"] F.scope)
    (hbody : F.body = .Expr (.Call (.Attribute (.Call (.Name "super" p0) [] [] p1) "__init__" p2) [.Constant (.str txt) j p3] [] p4) pos :: rest)
    (hfd : ∀ oc od doc pm ct osl, K.lookup f = some ⟨oc, od, .func (F.fd doc pm ct), osl⟩ → fd = F.fd doc pm ct)
    (hp : (F.params.posonlyargs ++ F.params.args).head? = some ar) (hps : ps.head? = some ar.arg) (hks : F.scope.names.lookup ("super" : Str) = some .globalImplicit)
    (hi : ∀ L, interactive (envF F f L) = false) {pl : Env → Sem Bool}
    (he : ∀ env : Env, eval (.Call (.Attribute (.Call (.Name "super" p0) [] [] p1) "__init__" p2) [.Constant (.str txt) j p3] [] p4) env = (do
      let ov ← attributeBase (.Call (.Name "super" p0) [] [] p1) "__init__" env (eval (.Call (.Name "super" p0) [] [] p1) env)
      standAt p2.atName
      let (f', first) ← holding [ov] (getMethod ov "__init__" (pl env))
      callWith p4 f' first (backTo p4 (starEach [.Constant (.str txt) j p3] env)) []))
    (hrest : ∀ (A : Around) (outer : List Env) (s : Shared) (H : Hp) (E : XK), Room k (A.deeper (envF F f s.heap.objs.size)) → PSs (ncx CX P w K mg base N F f A outer s H E) rest t) :
    FnOk P w K mg base CX (k + 1) f fd ps (spIni N ps C t) := by
  refine ⟨fun vs H Q E h => h.1, fun A outer s H args us vs Q E hr e0 hb r hsp => ?_⟩
  obtain ⟨hl, a, ws, hv, ha, hq⟩ := hsp
  have KX : K.In s.heap := e0.mod.kin.keeps fun b o e => (e0.bs b o e).1
  have lim : s.heap.NoLimit := e0.mod.nolimit.keeps fun b o e => (e0.bs b o e).1
  obtain ⟨oc, od, doc, pm, ct, osl, lf⟩ := S.fn
  obtain ⟨cl, cld, csl, lc⟩ := S.cell
  have hcc := e0.bs cc _ (e0.mod.kin _ _ lc)
  have efd := hfd _ _ _ _ _ _ lf
  subst efd
  have look : ∀ y c, F.cl.lookup y = some c → y = "__class__" ∧ c = cc := fun y c h => by
    rw [S.cl] at h
    by_cases z : y = ("__class__" : Str)
    · subst z
      have h' : some cc = some c := by simpa [List.lookup] using h
      exact ⟨rfl, (Option.some.inj h').symm⟩
    · have z' : (y == ("__class__" : Str)) = false := by simpa using z
      simp [List.lookup, z'] at h
  have Cs : CellsAt F.cl ["__class__"] [some (.ref C)] s.heap H := by
    refine ⟨rfl, fun y c h => ?_, fun x y c h1 h2 => (look x c h1).1.trans (look y c h2).1.symm, fun i y h => ?_⟩
    · obtain ⟨_, rfl⟩ := look y c h
      exact ⟨hcc.2, _, _, hcc.1, rfl⟩
    · match i, h with
      | 0, h =>
        obtain rfl : ("__class__" : Str) = y := by simpa using h
        refine ⟨cc, by rw [S.cl]; rfl, fun v hv => ?_⟩
        obtain rfl : V.ref C = v := by simpa using hv
        exact ⟨.ref C, rfl, _, hcc.1, rfl⟩
      | i + 1, h => simp at h
  refine codeAny_call_function hr.depth (KX _ _ lf) rfl NS.co NS.gen rfl (codeRec_of KX S.cd) (hb _ _ _ _ ?_)
  refine wpAny_newFunctionEnv NS.nocell (fun ⟨n, _⟩ hy => NS.par n (List.of_mem_zip hy).1) (fun h₁ hns hsb => ⟨lim.fresh _ hsb, ?_⟩) NS.kind
  show codeAny _ _ (.func F.body (envF F f s.heap.objs.size)) _ _
  refine ks_codeAny_funcAt ?_
  have kp : ∀ b o, s.heap.get? b = some o → h₁.get? b = some o := fun b o e => hsb.extBut b o (Nat.ne_of_lt (Heap.lt_size e)) (Heap.get?_push_of_some _ e)
  have I : Inv (ncx CX P w K mg base N F f A outer s H E) [] (startF N vs [some (.ref C)]) H { s with heap := h₁, toks := s.toks + (ps.zip us).length } := inv_startN NS hr.hd e0 hl r Cs hns kp
  have hpl : ∃ ps', ps = ar.arg :: ps' := by
    cases ps with
    | nil => cases hps
    | cons p ps' => exact ⟨ps', by rw [Option.some.inj hps]⟩
  obtain ⟨ps', rfl⟩ := hpl
  have hN0 : N[0]? = some ar.arg := by
    have e : (N.take ((ar.arg :: ps').length + 1))[0]? = some ar.arg := (congrArg (fun l : List Str => l[0]?) NS.pre).trans rfl
    rw [List.getElem?_take_of_lt (by simp)] at e
    exact e
  have hv0 : (startF N vs [some (.ref C)])[0]? = some (some (.ref a)) := by rw [hv]; rfl
  rw [show execs F.body (envF F f s.heap.objs.size) = execs (.Expr (.Call (.Attribute (.Call (.Name "super" p0) [] [] p1) "__init__" p2) [.Constant (.str txt) j p3] [] p4) pos :: rest) (envF F f s.heap.objs.size) by rw [hbody]]
  refine ks_wpAt_execs_cons (ks_wpAt_mono (super_st (ar := ar) (i := 0) S I hp hN0 hv0 (NS.par _ (List.mem_cons_self ..)) hks (NS.frk _ (List.mem_cons_self ..)) NS.kind ha (hi _) (he _)) (fun fl s' h => ?_) (fun _ _ z => z))
  obtain ⟨rfl, I'⟩ := h
  have ht := hrest A outer s H E (hr.deeper _)
  refine wpAt_of_wpAny (wpAny_mono (ht.run [] s' _ H _ I' hq) (fun fl s2 hs => ?_) fun e s' hs => hs)
  have fin : ∀ {σ' : L2.St} {H' : Hp} {v : V} {u : Value}, Inv (ncx CX P w K mg base N F f A outer s H E) [] σ' H' s2 → L2.RelV v u → Q v H' → CE outer P w H s Q u s2 :=
    fun {σ' H' v u} J rv q => ⟨v, H', J.os, J.bare, J.base, J.hok, rv, q⟩
  cases fl with
  | ret u =>
    obtain ⟨v, σ', H', J, rv, q⟩ := hs
    exact fin J rv q
  | next =>
    obtain ⟨σ', H', J, q⟩ := hs
    exact fin (v := V.non) (u := Value.none) J rfl q
  | brk =>
    obtain ⟨_, _, _, q⟩ := hs
    exact False.elim q
  | cont =>
    obtain ⟨_, _, _, q⟩ := hs
    exact False.elim q
end
end L2
end PartPdSoundXa

section PartPdSoundXb
set_option Elab.async false
set_option linter.all false
set_option maxRecDepth 100000
set_option maxHeartbeats 2000000
/-! Pd over the hand layer: defs that raise. Own work. -/
namespace L2
open PySem PySem.Spec PyProof.Rows
theorem del_upd {H : Hp} {a : Addr} {o : HO} (h : H a = none) : del (upd H a o) a = H := by
  funext b
  by_cases hb : b = a
  · rw [hb, del_same, h]
  · rw [del_ne hb, upd_ne hb]
section
variable {X : Cx} {p pos : Pos}
/-- the end of C(), no field laid -/
theorem mk_endN {pins : List (Addr × Obj)} {σ : St} {H1 : Hp} {Q : XK} {hp hp2 h2 : Heap} {g1 g2 : Array GenState} {d1 d2 : Drawn} {t1 t2 : Nat} {os1 os2 : OsState} {a C : Addr} (T : Raises X (.ref C)) (I1 : Inv X pins σ H1 ⟨hp, g1, d1, t1, os1⟩)
    (ha : hp.objs.size ≤ a) (k : ∀ b o, hp.get? b = some o → hp2.get? b = some o) (un : Un (frs X.stack) [] (upd H1 a (exo a C none)) (upd H1 a (exo a C none)) hp2 h2) (hok : HOk X.prog X.w (upd H1 a (exo a C none)) h2) (ho : os2 = os1) (hb : AllBare g2)
    (q : Q (.ref C) none H1) : MkP X pins σ Q (.ref a) ⟨h2, g2, d2, t2, os2⟩ := by
  have ea : upd H1 a (exo a C none) a = some (exo a C none) := upd_same
  obtain ⟨t0, hoe⟩ := exo_at hok ea
  have hn : H1 a = none := I1.hok.fresh ha
  obtain ⟨G, g1', g2'⟩ := restrict h2 fun b => decide (b ≠ a)
  have gk : ∀ b, b ≠ a → G.get? b = h2.get? b := fun b hb => g1' b (decide_eq_true hb)
  have ge : G.get? a = none := g2' a (by simp)
  have nha : ∀ {b : Addr} {o : Obj}, hp.get? b = some o → b ≠ a := fun {b o} z => Nat.ne_of_lt (Nat.lt_of_lt_of_le (Heap.lt_size z) ha)
  have up : ∀ {b : Addr}, b ≠ a → H1 b = none → upd H1 a (exo a C none) b = none := fun {b} hb n => by rw [upd_ne hb]; exact n
  have U : Un (frs X.stack) [] H1 H1 hp G := {
    keep := fun b o z n hf hx => by
      rw [gk b (nha z)]
      exact un.keep b o (k b o z) (up (nha z) n) hf hx
    slot := fun b o z n hf hx => by
      rw [gk b (nha z)]
      exact un.slot b o (k b o z) (up (nha z) n) hf hx
    free := fun b o z n hx => n
    there := fun b o z hx => by
      rw [gk b (nha z)]
      exact un.there b o (k b o z) hx
    tups := fun b xs z => z
    frzs := fun b o v z => z
    tbls := fun b ps z => ⟨#[], by simpa using z⟩ }
  have hok3 : HOk X.prog X.w H1 G := fun b o z => by
    have hba : b ≠ a := fun e => by
      rw [e, hn] at z
      cases z
    have z' : upd H1 a (exo a C none) b = some o := by rw [upd_ne hba]; exact z
    have noa : ∀ {c : Addr}, upd H1 a (exo a C none) c = some (.own b) → c ≠ a := fun {c} hc => at_ne ea hc exo_own
    exact (hok b o z').stay (fun c v hc y => by
        have hca : c ≠ a := by
          rcases hc with hc | hc
          · rw [hc]
            exact hba
          · exact noa hc
        rw [gk c hca]
        exact y)
      (fun c hc => by rw [upd_ne (noa hc)] at hc; exact hc) (fun c xs hc => by rw [upd_ne (at_ne ea hc exo_tup)] at hc; exact hc)
  have J : Inv X pins σ H1 ⟨G, g2, d2, t2, os2⟩ := I1.call' (ch := []) ho U hok3 hb (fun b z => absurd z (by simp))
  refine ⟨a, _, _, ⟨G, g2, d2, t2, os2⟩, _, .ref C, none, rfl, J, fun b o z => ?_, ge, hoe, ⟨rfl, rfl⟩, rfl, rfl, hn, rfl, hb, T, q⟩
  by_cases hba : b = a
  · rw [hba, ge] at z
    cases z
  · exact (gk b hba).symm.trans z
/-- C(), C's own __init__ but saying super().__init__(text) -/
theorem pmk_sup0 {x : Str} {C fI : Addr} {k : Nat} {fd : FuncData} {sn : Str} {N : List Str} (T : OexC X.K C) (iC : PySem.W.findIn X.K (.ref C) "__init__" = some (some (.ref fI))) (tI : PySem.W.typeIn X.K (.ref fI) = some (.type "function"))
    (F1 : FnOk X.prog X.w X.K X.mg X.base CX0 k fI fd [sn] (spIni N [sn] C tNext)) (hr : Room (k + 1) X.A) (hb : Binds X.K fd [sn] []) (hg : Gl X x) (hm : X.mg x = some (.ref C))
    (hdb : (x == ("__debug__" : Str)) = false := by decide) : PMk X (.Call (.Name x p) [] [] pos) (fun _ H Q => Q (.ref C) none H) := by
  intro pins s σ H Q I h
  obtain ⟨nm, q, N', bs, bm, sn', sub, ab, col, dd, k0, k1, k2, k3, k5, hC, hbm⟩ := T.cls
  refine wpAny_Call_Name_kw (ld_glob I hg hm ?_ hdb)
  refine PySem.W.callWith_K0 I.kIn T.kC ?_
  show wpAny _ _ (call (.ref C) []) _ _ _
  obtain ⟨hp, g, dr, tk, os⟩ := s
  have hsz : hp.objs.size ≤ hp.objs.size + 1 := Nat.le_succ _
  have hn : H (hp.objs.size + 1) = none := I.hok.fresh hsz
  have kk : ∀ b o, hp.get? b = some o → ((hp.push (PySem.W.kdv_tup [])).push (PySem.HandSPX.excO C hp.objs.size)).get? b = some o := fun b o e => Heap.get?_push_of_some _ (Heap.get?_push_of_some _ e)
  have hget : ((hp.push (PySem.W.kdv_tup [])).push (PySem.HandSPX.excO C hp.objs.size)).get? (hp.objs.size + 1) = some (PySem.HandSPX.excO C hp.objs.size) := by heap_get
  have I2 : Inv X pins σ (upd H (hp.objs.size + 1) (exo (hp.objs.size + 1) C none)) ⟨(hp.push (PySem.W.kdv_tup [])).push (PySem.HandSPX.excO C hp.objs.size), g, dr, tk, os⟩ :=
    I.laid (t' := tk) (a := hp.objs.size + 1) (o := exo (hp.objs.size + 1) C none) (h' := (hp.push (PySem.W.kdv_tup [])).push (PySem.HandSPX.excO C hp.objs.size)) kk hsz (exo_ok hget)
  have hq : spIni N [sn] C tNext [.ref (hp.objs.size + 1)] (upd H (hp.objs.size + 1) (exo (hp.objs.size + 1) C none)) (fun v H2 => v = .non ∧ H2 = upd H (hp.objs.size + 1) (exo (hp.objs.size + 1) C none)) (fun _ _ _ => False) :=
    ⟨rfl, _, [], rfl, upd_same, rfl, rfl⟩
  refine wpAny_call (PySem.HandSPX.call_own F.excBase_ValueError (fun Y => PySem.HandSPX.refsVE_contains Y bm hbm) (I.kIn _ _ hC) (PySem.W.looks_findIn I.kIn iC) (fun self => PySem.W.bind_fn I.kIn self tI) (Nat.zero_le _)
    (codeAny_mono (F1.run _ X.stack _ _ ⟨Value.ref (hp.objs.size + 1) :: [], []⟩ [Value.ref (hp.objs.size + 1)] [V.ref (hp.objs.size + 1)] _ (fun _ _ _ => False) (hr.make C [] []) (I2.env0.make C [] []) (hb _ [Value.ref (hp.objs.size + 1)] I2.kIn rfl) (.cons rfl .nil) hq) fun r s' hq' => ?_))
  cases r with
  | error er => exact hq'.elim
  | ok fl =>
    cases fl with
    | ret u =>
      obtain ⟨v, H2, os2, bare2, un2, hok2, rv, ev, eH⟩ := hq'
      subst ev
      subst eH
      obtain ⟨h2, g2, d2, t2, os'⟩ := s'
      exact ⟨rv, mk_endN (raises_own T.exC T.tyC) I hsz kk un2 hok2 os2 bare2 h⟩
    | next => exact False.elim hq'
    | brk => exact False.elim hq'
    | cont => exact False.elim hq'
end
end L2
namespace Pd
open PySem PySem.Spec
open PyProof.Rows (envOfC)
section
variable {X : L2.Cx} {K : Kf} {f f' : List Addr} {H H' : Hp} {st st' : Store} {ρ : Env} {σ : L2.St} {W : L2.WX}
/-- a marked wish against the wish about exceptions (no field is laid) -/
def LWx (K : Kf) (f : List Addr) (H : Hp) (Q' : Pd.K) (E : L2.XK) : Prop := ∀ (cn : Str) (st' : Store) (f' : List Addr) (H' : Hp) (C : Addr), Q' (exO cn []) st' → Ext K f H f' H' → RelS K f' st' H' → PySem.W.nsIn K mainGlobals cn = some (some (.ref C)) → E (.ref C) none H'
theorem LWx.later {Q' : Pd.K} {E : L2.XK} (l : LWx K f H Q' E) (e : Ext K f H f' H') : LWx K f' H' Q' E := fun cn st' f2 H2 C q e2 s hn => l cn st' f2 H2 C q (e.trans e2) s hn
structure LX (K : Kf) (W : L2.WX) (f : List Addr) (H : Hp) (D' : Ends) (D : L2.Ends) : Prop where
  nx : ∀ (ρ' : Env) (st' : Store) (σ' : L2.St) (f' : List Addr) (H' : Hp), D'.nx ρ' st' → Ext K f H f' H' → Rel K f' ρ' st' σ' H' → D.nx σ' H'
  rt : LQ K f H (fun d st' => D'.rt (okO d) st') D.rt
  bk : ∀ (ρ' : Env) (st' : Store) (σ' : L2.St) (f' : List Addr) (H' : Hp), D'.bk ρ' st' → Ext K f H f' H' → Rel K f' ρ' st' σ' H' → D.bk σ' H'
  ct : ∀ (ρ' : Env) (st' : Store) (σ' : L2.St) (f' : List Addr) (H' : Hp), D'.ct ρ' st' → Ext K f H f' H' → Rel K f' ρ' st' σ' H' → D.ct σ' H'
  wx : LWx K f H D'.rt (fun cls d H' => ∀ σ', W cls d σ' H')
def liftX (K : Kf) (W : L2.WX) (t : TS) : L2.TS := fun D σ H => ∃ f ρ st D', Rel K f ρ st σ H ∧ t D' ρ st ∧ LX K W f H D' D
abbrev PDX (X : L2.Cx) (W : L2.WX) (s : Stmt) (t : TS) : Prop := L2.PS X s (liftX X.K W t)
abbrev PDXs (X : L2.Cx) (W : L2.WX) (s : List Stmt) (t : TS) : Prop := L2.PSs X s (liftX X.K W t)
theorem LX.later {D' : Ends} {D : L2.Ends} (l : LX K W f H D' D) (e : Ext K f H f' H') : LX K W f' H' D' D :=
  ⟨fun a b c d g q e2 r => l.nx a b c d g q (e.trans e2) r, l.rt.later e, fun a b c d g q e2 r => l.bk a b c d g q (e.trans e2) r, fun a b c d g q e2 r => l.ct a b c d g q (e.trans e2) r, l.wx.later e⟩
section
variable {a b c e o i : Expr} {es : List Expr} {ta tb te to ti : TE} {tC : TT} {pos tpos : Pos} {s : Stmt} {ss ss' : List Stmt} {t u : TS}
theorem pxs_nil : PDXs X W [] sNext := pss_imp L2.pss_nil fun D σ H ⟨f, ρ, st, D', R, h, l⟩ => l.nx ρ st σ f H h .refl R
theorem pxs_cons (h1 : PDX X W s t) (h2 : PDXs X W ss u) : PDXs X W (s :: ss) (sSeq t u) := pss_imp (L2.pss_cons h1 h2) fun D σ H ⟨f, ρ, st, D', R, h, l⟩ =>
  ⟨f, ρ, st, _, R, h, fun ρ1 st1 σ1 f1 H1 q e r => ⟨f1, ρ1, st1, D', r, q.go, l.later e⟩, l.rt, l.bk, l.ct, l.wx⟩
theorem pxs_one (h1 : PDX X W s t) : PDXs X W [s] t := L2.pss_one h1
theorem px_doc {x j pos'} : PDX X W (.Expr (.Constant (.str x) j pos) pos') sNext := ps_imp L2.ps_doc fun D σ H ⟨f, ρ, st, D', R, h, l⟩ => l.nx ρ st σ f H h .refl R
theorem pxs_never : PDXs X W ss sNever := ⟨fun pins s σ H D I q => by obtain ⟨_, _, _, _, _, h, _⟩ := q; exact h.elim⟩
theorem px_expr (he : PD X e te) (hs : swapsWith e none pos.line X.env = pure false := by rfl) : PDX X W (.Expr e pos) (sExpr te) := ps_imp (L2.ps_expr he hs) fun D σ H ⟨f, ρ, st, D', R, h, l⟩ =>
  ⟨f, ρ, st, _, R, h, fun x st1 v f1 H1 q e1 s1 r1 => l.nx ρ st1 σ f1 H1 q e1 (R.later e1 s1)⟩
theorem px_ret (he : PD X e te) : PDX X W (.Return (some e) pos) (sRetX te) := ps_imp (L2.ps_ret he) fun D σ H ⟨f, ρ, st, D', R, h, l⟩ => ⟨f, ρ, st, _, R, h, l.rt⟩
theorem px_if (hc : PDT X c tC) (ha : PDXs X W ss t) (hb : PDXs X W ss' u) : PDX X W (.If c ss ss' pos) (sIf tC t u) := ps_imp (L2.ps_if hc ha hb) fun D σ H ⟨f, ρ, st, D', R, h, l⟩ =>
  ⟨f, ρ, st, _, R, h, fun k st1 f1 H1 q e1 s1 => by
    cases k with
    | true => exact ⟨f1, ρ, st1, D', R.later e1 s1, q.1 rfl, l.later e1⟩
    | false => exact ⟨f1, ρ, st1, D', R.later e1 s1, q.2 rfl, l.later e1⟩⟩
theorem px_asg {tg : Expr} {g : TG} {vs : List Nat} (he : PD X e te) (hg : PDG X tg g vs) (hs : swapsWithSole [tg] e pos.line X.env = pure false := by rfl) (hw : swappedStores [tg] e X.env = pure none := by rfl)
    (h1 : (assignEach [tg] X.env).map (·.2) = [assign tg X.env] := by rfl) : PDX X W (.Assign [tg] e pos) (sAsg te g) := ps_imp (L2.ps_asg he hg hs hw h1) fun D σ H ⟨f, ρ, st, D', R, h, l⟩ =>
  ⟨f, ρ, st, _, R, h, fun x st1 v f1 H1 q e1 s1 r1 => ⟨f1, ρ, st1, x, _, R.later e1 s1, r1, q, fun ρ2 st2 σ2 f2 H2 q2 e2 R2 _ => l.nx ρ2 st2 σ2 f2 H2 q2 (e1.trans e2) R2⟩⟩
theorem px_for {tg iter : Expr} {wi : TI} {g : TG} {vs : List Nat} {tb : TS} (hp : PassesOwn (model X.prog X.w) X.A X.env X.xe) (hc : X.calm = true) (hi : PDI X tg iter wi) (hg : PDG X tg g vs) (hb : PDXs X W ss tb)
    (hs : ∀ x, foldedSetIterable iter X.env x = pure x := by intro _; rfl) : PDX X W (.For tg iter ss [] pos) (sFor wi g tb) :=
  ps_imp (L2.ps_for hp hc hi hg hb hs) fun D σ H ⟨f, ρ, st, D', R, h, l⟩ => ⟨f, ρ, st, _, R, h, fun I st1 J f1 H1 q1 e1 s1 rI => by
    refine ⟨fun i m σ2 H2 => m = I.items.length - i ∧ i ≤ I.items.length ∧ ∃ f2 ρ2 st2, Ext X.K f1 H1 f2 H2 ∧ Rel X.K f2 ρ2 st2 σ2 H2 ∧ forLoop I.guard g tb D' (I.items.drop i) ρ2 st2, ⟨_, rfl, Nat.zero_le _, f1, ρ, st1, .refl, R.later e1 s1, by simpa using q1⟩, ?_⟩
    rintro i m σ2 H2 ⟨rfl, hi, f2, ρ2, st2, e2, R2, q2⟩
    by_cases hlt : i < I.items.length
    · have hd : I.items.drop i = I.items[i] :: I.items.drop (i + 1) := by rw [List.drop_eq_getElem_cons hlt]
      rw [hd] at q2
      obtain ⟨gd, q2⟩ := q2
      refine .inr ⟨rI.go i f2 st2 H2 e2 R2.toRelS gd hlt, fun σ3 H3 => ∃ f3 ρ3 st3, Ext X.K f1 H1 f3 H3 ∧ Rel X.K f3 ρ3 st3 σ3 H3 ∧ forLoop I.guard g tb D' (I.items.drop (i + 1)) ρ3 st3, fun σ3 H3 ⟨f3, ρ3, st3, e3, R3, q3⟩ => ⟨I.items.length - (i + 1), by omega, rfl, hlt, f3, ρ3, st3, e3, R3, q3⟩, fun x H3 y => ?_⟩
      obtain ⟨e3, s3, r3⟩ := rI.yld i f2 st2 H2 I.items[i] x H3 e2 R2.toRelS gd (by simp [hlt]) y
      refine ⟨f2, ρ2, st2, I.items[i], _, R2.later e3 s3, r3, q2, fun ρ4 st4 σ4 f4 H4 q4 e4 R4 _ => ⟨f4, ρ4, st4, _, R4, q4, ?_⟩⟩
      have ee := (e1.trans (e2.trans (e3.trans e4)))
      have e1' := (e2.trans (e3.trans e4))
      exact ⟨fun ρ5 st5 σ5 f5 H5 q5 e5 R5 => ⟨f5, ρ5, st5, e1'.trans e5, R5, q5⟩, l.rt.later ee, fun ρ5 st5 σ5 f5 H5 q5 e5 R5 => l.nx ρ5 st5 σ5 f5 H5 q5 (ee.trans e5) R5, fun ρ5 st5 σ5 f5 H5 q5 e5 R5 => ⟨f5, ρ5, st5, e1'.trans e5, R5, q5⟩, l.wx.later ee⟩
    · have e : i = I.items.length := by omega
      subst e
      rw [List.drop_length] at q2
      obtain ⟨gd, q2⟩ := q2
      exact .inl ⟨rI.stop f2 st2 H2 e2 R2.toRelS gd, l.nx ρ2 st2 σ2 f2 H2 q2 (e1.trans e2) R2⟩⟩
/-- raise C() -/
theorem px_raise0 {cn : Str} {C : Addr} (hc : X.calm = true) (tk : L2.Takes X W) (hn : PySem.W.nsIn X.K mainGlobals cn = some (some (.ref C))) (he : L2.PMk X e (fun _ H Q => Q (.ref C) none H)) : PDX X W (.Raise (some e) none pos) (sRaise0 cn) :=
  ps_imp (L2.ps_raise hc tk he) fun D σ H ⟨f, ρ, st, D', R, h, l⟩ => l.wx cn st f H C h .refl R.toRelS hn σ
end
/-- a def that may raise: what the call of it does -/
def liftXF (K : Kf) (n : Nat) (c : List D → Store → Pd.K → Prop) : L2.Sp := fun vs H Q E => vs.length = n ∧ ∃ f st ds Q', RelS K f st H ∧ RDs K f H ds vs ∧ c ds st Q' ∧ LQ K f H (fun d st' => Q' (okO d) st') Q ∧ LWx K f H Q' E
structure OwnX (P : Program) (w : World) (K : Kf) (mg : Str → Option Value) (base : Heap) (k : Nat) (x : Str) (c : List D → Store → Pd.K → Prop) : Prop where
  ex : ∃ (fa : Addr) (fd : FuncData) (ps : List Str), L2.FnOk P w K mg base (L2.CX P w) k fa fd ps (liftXF K ps.length c) ∧ mg x = some (.ref fa) ∧ PySem.W.keepIn K (.ref fa) = true ∧ L2.Binds K fd ps [] ∧ (∀ ds st Q, c ds st Q → ds.length = ps.length)
/-- f(..) as a statement, in a def that may raise -/
theorem px_exprX {x : String} {a : Expr} {es : List Expr} {ts : TA} {p pos pos' : Pos} {k : Nat} {c : Cl} (O : OwnX X.prog X.w X.K X.mg X.base k (Str.ofString x) (c x)) (hr : L2.Room k X.A) (tk : L2.Takes X W) (hg : L2.Gl X (Str.ofString x)) (ha : PDA X (a :: es) ts)
    (hs : swapsWith (.Call (.Name (Str.ofString x) p) (a :: es) [] pos) none pos'.line X.env = pure false := by rfl) (hdb : (Str.ofString x == ("__debug__" : Str)) = false := by decide)
    (he : starEach (a :: es) X.env = (false, eval a X.env) :: starEach es X.env := by rfl) (hpl : (backTo pos (starEach es X.env)).any (·.1) = false := by rfl) :
    PDX X W (.Expr (.Call (.Name (Str.ofString x) p) (a :: es) [] pos) pos') (sExprX c x ts) := by
  obtain ⟨fa, fd, ps, F, hm, hk, hb, hlen⟩ := O.ex
  refine ps_imp (L2.ps_expr (L2.pe_callS F hr hg hm hk hb (fun σ => L2.passAt tk σ) ha hdb he hpl) hs) fun D σ H ⟨f, ρ, st, D', R, h, l⟩ => ?_
  refine ⟨f, ρ, st, _, R, h, fun ds st1 vs f1 H1 q e1 s1 r1 => ⟨by rw [r1.length]; exact hlen _ _ _ q, f1, st1, ds, _, s1, r1, q, fun d st2 v f2 H2 q2 e2 s2 r2 => ?_, fun cn st2 f2 H2 C q2 e2 s2 hn => ?_⟩⟩
  · rcases q2 with ⟨d', _, q2⟩ | ⟨cn, fs, e, _⟩
    · exact l.nx ρ st2 σ f2 H2 q2 (e1.trans e2) (R.later (e1.trans e2) s2)
    · exact (ok_ex e).elim
  · rcases q2 with ⟨d', e, _⟩ | ⟨cn', fs, e, q2⟩
    · exact (ok_ex e.symm).elim
    · exact l.wx cn st2 f2 H2 C (by rw [e]; exact q2) (e1.trans e2) s2 hn σ
/-- such a def by its body -/
theorem fn_okX {P : Program} {w : World} {mg : Str → Option Value} {base : Heap} {qual x : Str} {sm : Stmt} {fa : Addr} {fd : FuncData} {N ps : List Str} {k n : Nat} {b : TS} (F : L2.Fun K x qual sm fa fd) (S : L2.FnScope N ps (L2.defScope sm)) (hn : n = N.length)
    (der : ∀ (cdv : Value) (A : Around) (outer : List PySem.Env) (s : Shared) (H : Hp) (E : L2.XK), L2.Room k (A.deeper (envOfC qual (L2.defScope sm) s.heap.objs.size fa cdv)) → L2.Takes (L2.cxOf (L2.CX P w) P w K mg base N qual (L2.defScope sm) fa cdv A outer s H E) (fun cls d _ H' => E cls d H') →
      PassesOwn (model P w) (A.deeper (envOfC qual (L2.defScope sm) s.heap.objs.size fa cdv)) (envOfC qual (L2.defScope sm) s.heap.objs.size fa cdv) (L2.cxOf (L2.CX P w) P w K mg base N qual (L2.defScope sm) fa cdv A outer s H E).xe →
      PDXs (L2.cxOf (L2.CX P w) P w K mg base N qual (L2.defScope sm) fa cdv A outer s H E) (fun cls d _ H' => E cls d H') (L2.defBody sm) b) :
    L2.FnOk P w K mg base (L2.CX P w) (k + 1) fa fd ps (liftXF K ps.length fun ds st Q => ds.length = ps.length ∧ runX b { nx := fun _ _ => False, rt := Q } (start n ds) st) := by
  refine F.okX S (fun vs H Q E h => h.1) (fun cdv A outer s H vs Q E hr h => ⟨_, der cdv A outer s H E hr (L2.takes_of rfl rfl rfl rfl) (L2.passes_of rfl), ?_⟩)
  obtain ⟨_, f, st, ds, Q', s', r, ⟨hl, h⟩, l, lw⟩ := h
  refine ⟨f, start n ds, st, _, start_rel s' r hn, h, ?_⟩
  exact ⟨fun ρ1 st1 σ1 f1 H1 q e r1 => l .non st1 .non f1 H1 q e r1.toRelS (RD.non.mpr rfl), l, fun _ _ _ _ _ q _ _ => q, fun _ _ _ _ _ q _ _ => q, fun cn st2 f2 H2 C q e s2 hn σ' => lw cn st2 f2 H2 C q e s2 hn⟩
end
end Pd
end PartPdSoundXb

section PartPdSoundXc
set_option Elab.async false
set_option linter.all false
set_option maxRecDepth 100000
set_option maxHeartbeats 2000000
/-! Pd over the hand layer: try of a def that raises; isinstance of what is caught. Own work. -/
namespace L2
open PySem PySem.Spec PyProof.Rows
/-- isinstance(e, (C1, ..)), e the exception that the suite holds -/
def rIsET (K : PySem.W.Frag) (D a : Addr) : List V → Hp → VK → Prop := fun xs H Q => ∃ (t : Addr) (cs : List Addr) (b : Bool), xs = [.ref a, .ref t] ∧ SqT K H t (cs.map V.ref) ∧ PySem.W.kitAny K (.ref D) (cs.map Value.ref) = some b ∧ Q (.bl b) H
theorem refs_ofV : ∀ {cs : List Addr} {us : List Value}, Vals (cs.map V.ref) us → us = cs.map Value.ref
  | [], [], _ => rfl
  | c :: cs, u :: us, h => by
    cases h with
    | cons r t =>
      obtain rfl : u = Value.ref c := r
      rw [refs_ofV t]; rfl
theorem call_isET {X : Cx} {a D : Addr} {oe : Obj} {pn : List (Addr × Obj)} (C : ExcC X.K D) (hz : Zc (.ref D) none oe) (hf : ∃ vs, oe.data = .fields vs) : CallR (X.suite a ((a, oe) :: pn)) (.builtin "isinstance") (rIsET X.K D a) := by
  intro pins s σ H xs us Q I r h
  obtain ⟨t, cs, b, rfl, ht, e, q⟩ := h
  cases r with
  | cons rx rr =>
    cases rr with
    | cons rt rr =>
      cases rr
      cases rx
      cases rt
      obtain ⟨its, rv, ⟨o, ho, hc, n, hd⟩, _⟩ := I.tuple ht
      obtain ⟨hget, _⟩ := I.pin (a, oe) (List.mem_append.mpr (.inl List.mem_cons_self))
      obtain ⟨vs, hv⟩ := hf
      have J : PySem.W.InstAt s.heap a oe D none := by
        obtain ⟨oc, od, oda, osl⟩ := oe
        obtain ⟨h1, h2⟩ := hz
        dsimp only at h1 h2 hv
        subst h1 h2 hv
        exact ⟨hget, rfl, rfl, trivial⟩
      obtain ⟨oc, od, oda, osl⟩ := o
      dsimp only at hc hd
      subst hc hd
      exact PySem.W.kia_tup (PySem.W.handS_kitx_exc C.hg C.hk C.hs C.hd C.ha C.hn C.ht C.hm) I.kIn J ho (by have ev := refs_ofV rv; subst ev; exact e) (fun z => nomatch z) fun tk => ⟨.bl b, H, I.kept (t' := tk) fun _ _ z => z, rfl, q⟩
end L2
namespace Pd
open PySem PySem.Spec
section
variable {X : L2.Cx} {K : Kf} {f f' : List Addr} {H H' : Hp} {st st' : Store} {ρ : Env} {σ : L2.St}
theorem lk_set_none : ∀ (ρ : Env) (i j : Nat) (d : D), lk (ρ.set i none) j = some d → j ≠ i ∧ lk ρ j = some d
  | [], i, j, d, h => by simp [lk] at h
  | x :: ρ, 0, 0, d, h => by simp [lk] at h
  | x :: ρ, 0, j + 1, d, h => ⟨Nat.succ_ne_zero j, by simpa [lk] using h⟩
  | x :: ρ, i + 1, 0, d, h => ⟨(Nat.succ_ne_zero i).symm, by simpa [lk] using h⟩
  | x :: ρ, i + 1, j + 1, d, h => by
    obtain ⟨h1, h2⟩ := lk_set_none ρ i j d (by simpa [lk] using h)
    exact ⟨fun e => h1 (Nat.succ.inj e), by simpa [lk] using h2⟩
theorem Rel.dropAt {i : Nat} {o : Option L2.V} (R : Rel K f ρ st σ H) : Rel K f (ρ.set i none) st (σ.set i o) H := by
  refine ⟨R.toRelS, fun j d h => ?_, ?_⟩
  · obtain ⟨hj, h'⟩ := lk_set_none ρ i j d h
    obtain ⟨v, h1, h2⟩ := R.env j d h'
    exact ⟨v, by rw [List.getElem?_set_ne (Ne.symm hj)]; exact h1, h2⟩
  · rw [List.length_set, List.length_set]
    exact R.le
/-- try: f(..), except C as n: suite; C caught -/
theorem ps_tryE {x : String} {cx n cn : Str} {cv : Value} {C : Addr} {i k : Nat} {a : Expr} {es : List Expr} {ts : TA} {p pos1 pos2 np pos pos' : Pos} {c : Cl} {b₀ : Stmt} {suite : List Stmt} {h : TS} {Wout : L2.WX}
    (hs : X.stack = X.env :: X.outer) (hf : X.env.frame = some X.env.locals) (hN : X.N.Nodup) (hi : X.N[i]? = some n) (hln : X.env.kindOf n = some .local) (hc : L2.Names X cx cv) (tk : L2.Takes X Wout)
    (O : OwnX X.prog X.w X.K X.mg X.base k (Str.ofString x) (c x)) (hr : L2.Room k X.A) (hg : L2.Gl X (Str.ofString x)) (ha : ∀ (pn : List (Addr × Obj)) (xe : Value → Shared → Prop), PDA (X.tr pn xe) (a :: es) ts)
    (hcn : PySem.W.nsIn X.K mainGlobals cn = some (some (.ref C))) (hyes : PySem.W.exmOne X.K (.ref C) cv = some true)
    (hsu : ∃ ts0 : Addr → L2.TS, (∀ (a : Addr) (oe : Obj) (pn : List (Addr × Obj)), L2.Zc (.ref C) none oe → (∃ vs, oe.data = .fields vs) → L2.PSs (X.suite a ((a, oe) :: pn)) (b₀ :: suite) (ts0 a)) ∧
      ∀ (a : Addr) (D : L2.Ends) (σ : L2.St) (H : Hp) (f : List Addr) (ρ : Env) (st : Store) (D' : Ends), H a = none → σ[i]? = some (some (.ref a)) → Rel X.K f ρ st σ H → h D' ρ st → LD X.K f H D' D → ts0 a D σ H)
    (hil : ∀ σ : L2.St, σ.length = X.N.length → i < σ.length)
    (hsw : swapsWith (.Call (.Name (Str.ofString x) p) (a :: es) [] pos1) none pos2.line X.env = pure false := by rfl) (hdb : (Str.ofString x == ("__debug__" : Str)) = false := by decide)
    (he : starEach (a :: es) X.env = (false, eval a X.env) :: starEach es X.env := by rfl) (hpl : (backTo pos1 (starEach es X.env)).any (·.1) = false := by rfl) :
    PDS X (.Try [.Expr (.Call (.Name (Str.ofString x) p) (a :: es) [] pos1) pos2] [.ExceptHandler (some (.Name cx np)) (some n) (b₀ :: suite) pos'] [] [] pos) (sTryE c x ts cn (hTry i h)) := by
  obtain ⟨fa, fd, ps, F, hm, hk, hb, hlen⟩ := O.ex
  obtain ⟨ts0, hsu1, hsu2⟩ := hsu
  have key := L2.ps_try_as (X := X) (body := [.Expr (.Call (.Name (Str.ofString x) p) (a :: es) [] pos1) pos2]) (pos := pos) (pos' := pos') (np := np) hs hf hN hi hln hc tk
    (tb := fun W => L2.tDrop (L2.tCallS (liftXF X.K ps.length (c x)) (L2.WE W) (liftA X.K ts)))
    (ts := fun a cls d D σ H => cls = .ref C ∧ d = none ∧ ts0 a D σ H)
    (fun W pn xe tkW _ => L2.pss_one (L2.ps_expr (L2.pe_callS (X := X.tr pn xe) F hr hg hm hk hb (fun σ => L2.passAt tkW σ) (ha pn xe) hdb he hpl) hsw))
    (fun a oe cls d pn hz hv => ⟨fun pins s σ H D I hq => by
      obtain ⟨rfl, rfl, hq⟩ := hq
      exact (hsu1 a oe pn hz hv).run pins s σ H D I hq⟩)
  refine ⟨fun pins s σ H D I hq => key.run pins s σ H D I ?_⟩
  obtain ⟨f, ρ, st, D', R, hh, l⟩ := hq
  have hlt := hil σ I.len
  refine ⟨f, ρ, st, _, R, hh, fun ds st1 vs f1 H1 q e1 s1 r1 => ⟨by rw [r1.length]; exact hlen _ _ _ q, f1, st1, ds, _, s1, r1, q, fun d st2 v f2 H2 q2 e2 s2 r2 => ?_, fun cn' st2 f2 H2 C' q2 e2 s2 hn => ?_⟩⟩
  · rcases q2 with ⟨d', _, q2⟩ | ⟨e, _⟩
    · exact l.nx ρ st2 σ f2 H2 q2 (e1.trans e2) (R.later (e1.trans e2) s2)
    · exact (ok_ex e).elim
  · rcases q2 with ⟨d', e, _⟩ | ⟨e, q2⟩
    · exact (ok_ex e.symm).elim
    · obtain ⟨rfl, _⟩ := exO_inj e
      rw [hcn] at hn
      cases hn
      have R2 := R.later (e1.trans e2) s2
      have l2 := l.later (e1.trans e2)
      refine ⟨true, hyes, fun _ a ha' => ⟨rfl, rfl, hsu2 a _ _ H2 f2 _ st2 _ ha' (List.getElem?_set_self hlt) R2.dropAt q2 ?_⟩, fun e => by cases e⟩
      exact ⟨fun ρ1 st3 σ1 f3 H3 q3 e3 R3 => l2.nx _ st3 _ f3 H3 q3 e3 R3.dropAt, l2.rt, fun ρ1 st3 σ1 f3 H3 q3 e3 R3 => l2.bk _ st3 _ f3 H3 q3 e3 R3.dropAt, fun ρ1 st3 σ1 f3 H3 q3 e3 R3 => l2.ct _ st3 _ f3 H3 q3 e3 R3.dropAt⟩
theorem OwnX.mono {P : Program} {w : World} {mg : Str → Option Value} {base : Heap} {j k : Nat} {x : Str} {c : List D → Store → Pd.K → Prop} (O : OwnX P w K mg base j x c) (h : j ≤ k) : OwnX P w K mg base k x c := by
  obtain ⟨fa, fd, ps, F, a, b, d, e⟩ := O.ex
  exact ⟨fa, fd, ps, F.mono h, a, b, d, e⟩
theorem Own.monoX {P : Program} {w : World} {mg : Str → Option Value} {base : Heap} {j k : Nat} {x : Str} {c : List D → Store → Pd.K → Prop} (O : Own P w K mg base j x c) (h : j ≤ k) : Own P w K mg base k x c := by
  obtain ⟨fa, fd, ps, F, a, b, d, e⟩ := O.ex
  exact ⟨fa, fd, ps, F.mono h, a, b, d, e⟩
theorem pd_callN {x : String} {a : Expr} {es : List Expr} {ts : TA} {p pos : Pos} {k : Nat} {c : Cl} (O : OwnX X.prog X.w X.K X.mg X.base k (Str.ofString x) (c x)) (hr : L2.Room k X.A) (hg : L2.Gl X (Str.ofString x)) (ha : PDA X (a :: es) ts) (hdb : (Str.ofString x == ("__debug__" : Str)) = false := by decide)
    (he : starEach (a :: es) X.env = (false, eval a X.env) :: starEach es X.env := by rfl) (hpl : (backTo pos (starEach es X.env)).any (·.1) = false := by rfl) : PD X (.Call (.Name (Str.ofString x) p) (a :: es) [] pos) (dCallN c x ts) := by
  obtain ⟨fa, fd, ps, F, hm, hk, hb, hlen⟩ := O.ex
  refine pe_imp (L2.pe_call (E := L2.E0) F hr hg hm hk hb .nil L2.passL ha hdb he hpl) fun σ H Q ⟨f, ρ, st, Q', R, h, l⟩ => ?_
  refine ⟨f, ρ, st, _, R, h, fun xs st1 vs f1 H1 h1 e1 s1 r1 => ?_⟩
  show liftXF X.K ps.length (c x) (vs ++ []) H1 Q _
  rw [List.append_nil]
  refine ⟨r1.length.trans (hlen _ _ _ h1), f1, st1, xs, _, s1, r1, h1, fun d st2 v f2 H2 q2 e2 s2 r2 => ?_, fun cn st2 f2 H2 C q2 e2 s2 hn => ?_⟩
  · obtain ⟨d', e, q2⟩ := q2
    rw [← okO_inj e] at q2
    exact l d st2 v f2 H2 q2 (e1.trans e2) s2 r2
  · obtain ⟨d', e, _⟩ := q2
    exact (ok_ex e.symm).elim
open PyProof.Rows (envOfC) in
/-- as fn_okX, for a def with defaults -/
theorem fn_okXD {P : Program} {w : World} {mg : Str → Option Value} {base : Heap} {qual x : Str} {params : Arguments} {body : List Stmt} {scope : Scope} {dvs : List L2.V} {kws : List (Str × L2.V)} {fa : Addr} {fd : FuncData} {N ps : List Str} {k n : Nat} {b : TS} (F : L2.FunD K x qual params body scope dvs kws fa fd) (S : L2.FnScope N ps scope) (hn : n = N.length)
    (der : ∀ (cdv : Value) (A : Around) (outer : List PySem.Env) (s : Shared) (H : Hp) (E : L2.XK), L2.Room k (A.deeper (envOfC qual scope s.heap.objs.size fa cdv)) → L2.Takes (L2.cxOf (L2.CX P w) P w K mg base N qual scope fa cdv A outer s H E) (fun cls d _ H' => E cls d H') →
      PDXs (L2.cxOf (L2.CX P w) P w K mg base N qual scope fa cdv A outer s H E) (fun cls d _ H' => E cls d H') body b) :
    L2.FnOk P w K mg base (L2.CX P w) (k + 1) fa fd ps (liftXF K ps.length fun ds st Q => ds.length = ps.length ∧ runX b { nx := fun _ _ => False, rt := Q } (start n ds) st) := by
  refine F.ok S (fun vs H Q E h => h.1) (fun cdv A outer s H vs Q E hr h => ⟨_, der cdv A outer s H E hr (L2.takes_of rfl rfl rfl rfl), ?_⟩)
  obtain ⟨_, f, st, ds, Q', s', r, ⟨hl, h⟩, l, lw⟩ := h
  refine ⟨f, start n ds, st, _, start_rel s' r hn, h, ?_⟩
  exact ⟨fun ρ1 st1 σ1 f1 H1 q e r1 => l .non st1 .non f1 H1 q e r1.toRelS (RD.non.mpr rfl), l, fun _ _ _ _ _ q _ _ => q, fun _ _ _ _ _ q _ _ => q, fun cn st2 f2 H2 C q e s2 hn σ' => lw cn st2 f2 H2 C q e s2 hn⟩
end
end Pd
end PartPdSoundXc

section PartPdSoundXd
set_option Elab.async false
set_option linter.all false
set_option maxRecDepth 100000
set_option maxHeartbeats 2000000
/-! Pd over the hand layer: the suites that ask what was caught. Own work. -/
namespace L2
open PySem PySem.Spec PyProof.Rows
/-- isinstance(n, ..), n the caught error at a -/
def tIs (i : Nat) (a : Addr) (b : Bool) : TE := fun σ H Q => σ[i]? = some (some (.ref a)) ∧ Q (.bl b) H
def tIsT (i : Nat) (a : Addr) (b : Bool) : TE := fun σ H Q => σ[i]? = some (some (.ref a)) ∧ ∀ (p : Addr) (vs : List V), H p = none → Q (.bl b) (upd H p (.tup vs))
section
variable {X : Cx} {a C : Addr} {oe : Obj} {pn : List (Addr × Obj)} {i : Nat} {n : Str} {p p1 pos : Pos} {b : Bool}
theorem pe_isE {e2 : Expr} {c : V} {cv : Value} (EC : ExcC X.K C) (hz : Zc (.ref C) none oe) (hv : ∃ vs, oe.data = .fields vs) (hN : X.N[i]? = some n) (hvis : Vis X.env.scope n) (hg : Gl X "isinstance") (hm : X.mg "isinstance" = none) (h2 : PE (X.suite a ((a, oe) :: pn)) e2 (tC c)) (hcv : ∀ u, RelV c u → u = cv) (hk : PySem.W.kitOne X.K (.ref C) cv = some b)
    (he : starEach [.Name n p1, e2] X.env = (false, eval (.Name n p1) X.env) :: starEach [e2] X.env := by rfl) (he2 : starEach [e2] X.env = (false, eval e2 X.env) :: starEach [] X.env := by rfl) (hpl : (backTo pos (starEach [e2] X.env)).any (·.1) = false := by rfl)
    (hd : (n == ("__debug__" : Str)) = false := by decide) (hcd : (n == ("__classdict__" : Str)) = false := by decide) : PE (X.suite a ((a, oe) :: pn)) (.Call (.Name "isinstance" p) [.Name n p1, e2] [] pos) (tIs i a b) := by
  have h := pe_callB (X := X.suite a ((a, oe) :: pn)) (pos := pos) (p := p) (call_isE EC hz hv) hg hm (by decide +kernel) (pa_cons (pe_var (X := X.suite a ((a, oe) :: pn)) (pos := p1) hN hvis hd hcd) (pa_cons h2 pa_nil he2) he) (by decide) (by decide) he hpl
  exact ⟨fun pins s σ H Q I ⟨q1, q2⟩ => h.run pins s σ H Q I ⟨_, q1, c, cv, b, rfl, hcv, hk, q2⟩⟩
theorem pe_isET {es : List Expr} {ts : TA} {cs : List Addr} {x1 p2} (EC : ExcC X.K C) (hz : Zc (.ref C) none oe) (hv : ∃ vs, oe.data = .fields vs) (hN : X.N[i]? = some n) (hvis : Vis X.env.scope n) (hg : Gl X "isinstance") (hm : X.mg "isinstance" = none) (h2 : PA (X.suite a ((a, oe) :: pn)) es ts)
    (hts : ∀ (σ : St) (H : Hp) (Q : List V → Hp → Prop), Q (cs.map V.ref) H → ts σ H Q) (hcl : cs.length ≤ 100) (hk : PySem.W.kitAny X.K (.ref C) (cs.map Value.ref) = some b)
    (he : starEach [.Name n p1, .Tuple es x1 p2] X.env = (false, eval (.Name n p1) X.env) :: starEach [.Tuple es x1 p2] X.env := by rfl) (he2 : starEach [.Tuple es x1 p2] X.env = (false, eval (.Tuple es x1 p2) X.env) :: starEach [] X.env := by rfl) (hpl : (backTo pos (starEach [.Tuple es x1 p2] X.env)).any (·.1) = false := by rfl)
    (hd : (n == ("__debug__" : Str)) = false := by decide) (hcd : (n == ("__classdict__" : Str)) = false := by decide) : PE (X.suite a ((a, oe) :: pn)) (.Call (.Name "isinstance" p) [.Name n p1, .Tuple es x1 p2] [] pos) (tIsT i a b) := by
  have h := pe_callB (X := X.suite a ((a, oe) :: pn)) (pos := pos) (p := p) (call_isET EC hz hv) hg hm (by decide +kernel) (pa_cons (pe_var (X := X.suite a ((a, oe) :: pn)) (pos := p1) hN hvis hd hcd) (pa_cons (pe_tup h2) pa_nil he2) he) (by decide) (by decide) he hpl
  refine ⟨fun pins s σ H Q I ⟨q1, q2⟩ => h.run pins s σ H Q I ⟨_, q1, hts _ _ _ ?_⟩⟩
  refine ⟨by rw [List.length_map, sizeLine_eq]; omega, fun t ht => ⟨t, cs, b, rfl, .of upd_same, hk, q2 t _ ht⟩⟩
end
end L2
end PartPdSoundXd

section PartPdMore30
set_option Elab.async false
set_option linter.all false
set_option maxRecDepth 100000
/-! Pd: zip of three tuples. Own work. -/
namespace Pd
open PySem
def zip3TK : D → D → D → Store → (Iter → Store → Prop) → Prop
  | .tup xs, .tup ys, .tup us, st, R => R ⟨zip3D xs ys us, fun _ => True⟩ st
  | _, _, _, _, _ => False
def iZip3T (t u v : TE) : TI := fun σ st R => t σ st fun x st1 => u σ st1 fun y st2 => v σ st2 fun z st3 => zip3TK x y z st3 R
section
variable {σ : Env} {st : Store} {ta tb tc : TE}
instance {R : Iter → Store → Prop} : Red (iZip3T ta tb tc σ st R) (ta σ st fun x st1 => tb σ st1 fun y st2 => tc σ st2 fun z st3 => zip3TK x y z st3 R) := ⟨id⟩
instance {R : Iter → Store → Prop} {xs ys us : List D} : Red (zip3TK (.tup xs) (.tup ys) (.tup us) st R) (R ⟨zip3D xs ys us, fun _ => True⟩ st) := ⟨id⟩
end
end Pd
end PartPdMore30

section PartPdSoundQt
set_option Elab.async false
set_option linter.all false
set_option maxRecDepth 100000
set_option maxHeartbeats 1000000
/-! Pd over the hand layer: zip of three tuples. Own work. -/
namespace Pd
open PySem PySem.Spec PyProof.Rows
/-- the lists at a, b and c as they stand at each turn, the items in new tuples -/
def Itz3T (K : Kf) (a b c : Addr) : L2.It :=
  ⟨fun i H => ∃ (xs ys us : List L2.V) (x y u : L2.V), L2.SqT K H a xs ∧ L2.SqT K H b ys ∧ L2.SqT K H c us ∧ xs[i]? = some x ∧ ys[i]? = some y ∧ us[i]? = some u,
    fun i H v H' => ∃ T x y u, v = .ref T ∧ H T = none ∧ H' = L2.upd H T (.tup [x, y, u]) ∧ (∀ xs, L2.SqT K H a xs → xs[i]? = some x) ∧ (∀ ys, L2.SqT K H b ys → ys[i]? = some y) ∧ ∀ us, L2.SqT K H c us → us[i]? = some u,
    fun i H => ∃ xs ys us : List L2.V, L2.SqT K H a xs ∧ L2.SqT K H b ys ∧ L2.SqT K H c us ∧ i ≤ xs.length ∧ i ≤ ys.length ∧ i ≤ us.length ∧ (i = xs.length ∨ i = ys.length ∨ i = us.length)⟩
theorem turn_zip3T {P : Program} {w : World} {K : Kf} {elts : List Expr} {kk : Nat} {tpos : Pos} {a b e z TI TO i1 i2 i3 : Addr} (D : ZipSep3 z TI TO i1 i2 i3 [i1, a] [i2, b] [i3, e]) (na : a ≠ i1) (nb : b ≠ i2) (ne : e ≠ i3) :
    L2.Turn P w K (.Tuple elts kk tpos) (Itz3T K a b e) [z, TI, TO, i1, i2, i3] z (fun i h => IsZip h z TI TO .none ∧ IsTupOf3 h TI (.ref i1) (.ref i2) (.ref i3) ∧ (∃ x y u, IsTupOf3 h TO x y u) ∧ h.IsTupleIter i1 a i ∧ h.IsTupleIter i2 b i ∧ h.IsTupleIter i3 e i) where
  mem := by simp
  obj := fun i h st c hc => by
    obtain ⟨hz, hTI, ⟨x, y, u, hTO⟩, ⟨o1, e1, _, d1⟩, ⟨o2, e2, _, d2⟩, ⟨o3, e3, _, d3⟩⟩ := st
    have e' : c = z ∨ c = TI ∨ c = TO ∨ c = i1 ∨ c = i2 ∨ c = i3 := by simpa using hc
    rcases e' with q | q | q | q | q | q
    · rw [q]; exact ⟨_, hz, fun v q => nomatch q⟩
    · rw [q]; exact ⟨_, hTI, fun v q => nomatch q⟩
    · rw [q]; exact ⟨_, hTO, fun v q => nomatch q⟩
    · rw [q]; exact ⟨o1, e1, fun v q => by rw [d1] at q; cases q⟩
    · rw [q]; exact ⟨o2, e2, fun v q => by rw [d2] at q; cases q⟩
    · rw [q]; exact ⟨o3, e3, fun v q => by rw [d3] at q; cases q⟩
  keep := fun i h h' st k => by
    obtain ⟨hz, hTI, ⟨x, y, u, hTO⟩, h1, h2, h3⟩ := st
    exact ⟨k z (by simp) _ hz, k TI (by simp) _ hTI, ⟨x, y, u, k TO (by simp) _ hTO⟩, h1.at fun o q => k i1 (by simp) o q, h2.at fun o q => k i2 (by simp) o q, h3.at fun o q => k i3 (by simp) o q⟩
  item := by
    intro X hP hw hK hc i pins s σ H E I hf st hg
    subst hP hw hK
    obtain ⟨hz, hTI, ⟨x0, y0, u0, hTO⟩, h1, h2, h3⟩ := st
    obtain ⟨xs, ys, us, x, y, u, hqx, hqy, hqu, hx, hy, hu3⟩ := hg
    obtain ⟨its, rv, p, _⟩ := I.tuple hqx
    obtain ⟨its2, rv2, p2, _⟩ := I.tuple hqy
    obtain ⟨its3, rv3, p3, _⟩ := I.tuple hqu
    obtain ⟨v1, hv1, ru⟩ := rv.get hx
    obtain ⟨v2, hv2, ru2⟩ := rv2.get hy
    obtain ⟨v3, hv3, ru3⟩ := rv3.get hu3
    have hzl : z < s.heap.objs.size := Heap.lt_size hz
    have l1 := (List.getElem?_eq_some_iff.mp hv1).1
    have l2 := (List.getElem?_eq_some_iff.mp hv2).1
    have l3 := (List.getElem?_eq_some_iff.mp hv3).1
    refine wpAny_pyNext_zipD3_item D (Draws.tuple (A := X.A.in1) (I.ok.hd hc) i1 a na its.toArray) (Draws.tuple (A := X.A.in1) (I.ok.hd hc) i2 b nb its2.toArray) (Draws.tuple (A := X.A.in1) (I.ok.hd hc) i3 e ne its3.toArray) hz hTI hTO ⟨h1, p⟩ ⟨h2, p2⟩ ⟨h3, p3⟩ (by simpa using l1) (by simpa using l2) (by simpa using l3) fun u1' u2' u3' h' tk w1 w2 w3 z' TO' st1' st2' st3' hT hsz hk => ?_
    have eu : u1' = v1 := by
      have : its.toArray[i]? = some u1' := w1
      rw [show its.toArray[i]? = its[i]? by simp, hv1] at this
      exact (Option.some.inj this).symm
    have eu2 : u2' = v2 := by
      have : its2.toArray[i]? = some u2' := w2
      rw [show its2.toArray[i]? = its2[i]? by simp, hv2] at this
      exact (Option.some.inj this).symm
    have eu3 : u3' = v3 := by
      have : its3.toArray[i]? = some u3' := w3
      rw [show its3.toArray[i]? = its3[i]? by simp, hv3] at this
      exact (Option.some.inj this).symm
    subst eu; subst eu2; subst eu3
    refine ⟨_, rfl, wpAny_letOwnedTupleGo_zip (s := { s with heap := h', toks := tk }) z' fun h'' z'' sb => ?_⟩
    have hT2 : h''.get? s.heap.objs.size = some { cls := .type "tuple", data := .seq #[u1', u2', u3'] } := (sb.2 _ (Nat.ne_of_gt hzl)).trans hT
    have new : L2.ObjOk X.prog X.w (L2.upd H s.heap.objs.size (.tup [x, y, u])) h'' s.heap.objs.size (.tup [x, y, u]) :=
      ⟨by show 3 ≤ sizeLine; decide, [u1', u2', u3'], .cons ru (.cons ru2 (.cons ru3 .nil)), ⟨_, hT2, rfl, _, rfl⟩⟩
    have I1 : L2.Inv X pins σ (L2.upd H s.heap.objs.size (.tup [x, y, u])) { s with heap := h'', toks := tk } :=
      I.turnedNew (t' := tk) (ch := [z, TI, TO, i1, i2, i3]) (fun c o hb q => (sb.2 c (fun q' => hb (by simp [q']))).trans (hk c o (fun q' => hb (by simp [q'])) (fun q' => hb (by simp [q'])) (fun q' => hb (by simp [q'])) (fun q' => hb (by simp [q'])) (fun q' => hb (by simp [q'])) q)) hf (Nat.le_refl _) new
    refine ⟨.ref s.heap.objs.size, _, I1, rfl, ⟨_, x, y, u, rfl, I.hok.fresh (Nat.le_refl _), rfl, fun l hl => by rw [I.tuple_inj hl hqx]; exact hx, fun l hl => by rw [I.tuple_inj hl hqy]; exact hy, fun l hl => by rw [I.tuple_inj hl hqu]; exact hu3⟩, ⟨z'', ?_, ⟨u1', u2', u3', ?_⟩, ?_, ?_, ?_⟩, fun c hcm => ?_⟩
    · exact (sb.2 _ D.TIz).trans (hk _ _ D.TIz D.TITO D.TIi1 D.TIi2 D.TIi3 hTI)
    · exact (sb.2 _ D.TOz).trans TO'
    · exact st1'.1.at fun o q => (sb.2 _ (Ne.symm D.zi1)).trans q
    · exact st2'.1.at fun o q => (sb.2 _ (Ne.symm D.zi2)).trans q
    · exact st3'.1.at fun o q => (sb.2 _ (Ne.symm D.zi3)).trans q
    · have hlt : c < s.heap.objs.size := by
        have e' : c = z ∨ c = TI ∨ c = TO ∨ c = i1 ∨ c = i2 ∨ c = i3 := by simpa using hcm
        rcases e' with q | q | q | q | q | q
        · rw [q]; exact hzl
        · rw [q]; exact Heap.lt_size hTI
        · rw [q]; exact Heap.lt_size hTO
        · rw [q]; obtain ⟨_, e1, _⟩ := h1; exact Heap.lt_size e1
        · rw [q]; obtain ⟨_, e2, _⟩ := h2; exact Heap.lt_size e2
        · rw [q]; obtain ⟨_, e3, _⟩ := h3; exact Heap.lt_size e3
      rw [L2.upd_ne (Nat.ne_of_lt hlt)]
      exact (hf c hcm).1
  done := by
    intro X hP hw hK hc i pins s σ H E I hf st hg
    subst hP hw hK
    obtain ⟨hz, hTI, ⟨x0, y0, u0, hTO⟩, h1, h2, h3⟩ := st
    obtain ⟨xs, ys, us, hqx, hqy, hqu, hle1, hle2, hle3, hend⟩ := hg
    obtain ⟨its, rv, p, _⟩ := I.tuple hqx
    obtain ⟨its2, rv2, p2, _⟩ := I.tuple hqy
    obtain ⟨its3, rv3, p3, _⟩ := I.tuple hqu
    have l1 := rv.length
    have l2 := rv2.length
    have l3 := rv3.length
    exact wpAny_pyNext_zipD3_end D (Draws.tuple (A := X.A.in1) (I.ok.hd hc) i1 a na its.toArray) (Draws.tuple (A := X.A.in1) (I.ok.hd hc) i2 b nb its2.toArray) (Draws.tuple (A := X.A.in1) (I.ok.hd hc) i3 e ne its3.toArray) hz hTI hTO ⟨h1, p⟩ ⟨h2, p2⟩ ⟨h3, p3⟩ (by simp; omega) (by simp; omega) (by simp; omega) (by simp; omega) fun h' tk hk => ⟨rfl, I.turnedL (t' := tk) (ch := [z, TI, TO, i1, i2, i3]) (fun c o hb q =>
      hk c o (fun q' => hb (by simp [q'])) (fun q' => hb (by simp [q'])) (fun q' => hb (by simp [q'])) (fun q' => hb (by simp [q'])) (fun q' => hb (by simp [q'])) q) hf⟩
  self := fun A i s Q E st h => wpAny_pyIter_zip st.1 h
def iZip3TA (K : Kf) (ta : L2.TA) : L2.TI := fun σ H R => ta σ H fun vs H1 => ∃ a b c xs ys us, vs = [.ref a, .ref b, .ref c] ∧ L2.SqT K H1 a xs ∧ L2.SqT K H1 b ys ∧ L2.SqT K H1 c us ∧ R (Itz3T K a b c) H1
theorem pi_zip3TA {X : L2.Cx} {e e2 e3 : Expr} {ta : L2.TA} {p pos tpos : Pos} {elts : List Expr} {kk : Nat} (hg : L2.Gl X "zip") (hm : X.mg "zip" = none) (ha : L2.PA X [e, e2, e3] ta)
    (hs : starEach [e, e2, e3] X.env = (false, eval e X.env) :: starEach [e2, e3] X.env := by rfl) (hpl : (backTo pos (starEach [e2, e3] X.env)).any (·.1) = false := by rfl) :
    L2.PI X (.Tuple elts kk tpos) (.Call (.Name "zip" p) [e, e2, e3] [] pos) (iZip3TA X.K ta) := by
  refine ⟨fun pins s σ H R I h => ?_⟩
  refine Call_ (L2.ld_blt I hg hm PyProof.Rows.boot_zip (PyProof.Rows.callWith_type1 (L2.thn (ha.run pos pins s σ H _ I h) fun us s1 ⟨vs, H1, I1, r1, q1⟩ => ?_) hs hpl))
  obtain ⟨a, b, c3, xs, ys, us', ex, hqx, hqy, hqu, q⟩ := q1
  subst ex
  cases r1 with
  | cons r rr =>
    cases rr with
    | cons r' rr =>
      cases rr with
      | cons r'' rr =>
        cases rr
        cases r
        cases r'
        cases r''
        have fresh6 : ∀ c, c ∈ [s1.heap.objs.size + 5, s1.heap.objs.size + 3, s1.heap.objs.size + 4, s1.heap.objs.size, s1.heap.objs.size + 1, s1.heap.objs.size + 2] → L2.FpOk X pins H1 c := fun c hcm => by
          have e' : c = s1.heap.objs.size + 5 ∨ c = s1.heap.objs.size + 3 ∨ c = s1.heap.objs.size + 4 ∨ c = s1.heap.objs.size ∨ c = s1.heap.objs.size + 1 ∨ c = s1.heap.objs.size + 2 := by simpa using hcm
          have hle : s1.heap.objs.size ≤ c := by
            rcases e' with z | z | z | z | z | z
            · rw [z]; exact Nat.le_add_right _ _
            · rw [z]; exact Nat.le_add_right _ _
            · rw [z]; exact Nat.le_add_right _ _
            · rw [z]; exact Nat.le_refl _
            · rw [z]; exact Nat.le_add_right _ _
            · rw [z]; exact Nat.le_add_right _ _
          exact I1.fpOk hle (I1.hok.fresh hle)
        obtain ⟨its, rv, p1, _⟩ := I1.tuple hqx
        obtain ⟨its2, rv2, p2, _⟩ := I1.tuple hqy
        obtain ⟨its3, rv3, p3, _⟩ := I1.tuple hqu
        have la : a < s1.heap.objs.size := p1.lt
        have lb : b < s1.heap.objs.size := p2.lt
        have lc : c3 < s1.heap.objs.size := p3.lt
        refine zip_begins3 (begins_tuple a its.toArray) (begins_tuple b its2.toArray) (begins_tuple c3 its3.toArray) p1 p2 p3 fun h' hz hTI hTO g1 g2 g3 hsz hk => wpAny_pyIter_zip hz ?_
        have I2 : L2.Inv X pins σ H1 { s1 with heap := h' } := I1.kept (t' := s1.toks) hk
        have sep := zip_sep3 (N := s1.heap.objs.size) (fp1 := [a]) (fp2 := [b]) (fp3 := [c3]) (fun c hc => by rw [List.mem_singleton] at hc; rw [hc]; exact la) (fun c hc => by rw [List.mem_singleton] at hc; rw [hc]; exact lb) (fun c hc => by rw [List.mem_singleton] at hc; rw [hc]; exact lc)
        exact ⟨s1.heap.objs.size + 5, [s1.heap.objs.size + 5, s1.heap.objs.size + 3, s1.heap.objs.size + 4, s1.heap.objs.size, s1.heap.objs.size + 1, s1.heap.objs.size + 2], _, _, H1, rfl, I2, turn_zip3T sep (Nat.ne_of_lt la) (Nat.ne_of_lt (Nat.lt_succ_of_lt lb)) (Nat.ne_of_lt (Nat.lt_succ_of_lt (Nat.lt_succ_of_lt lc))), ⟨hz, hTI, ⟨_, _, _, hTO⟩, ⟨_, g1, rfl, rfl⟩, ⟨_, g2, rfl, rfl⟩, ⟨_, g3, rfl, rfl⟩⟩, fresh6, q⟩
section
variable {X : L2.Cx} {K : Kf} {f : List Addr} {H : Hp} {a b c : Expr} {ta tb tc : TE} {es : List Expr} {pos : Pos}
theorem realI_zip3T {a b c : Addr} {xs ys us : List D} {vs ws ts : List L2.V} (h1 : L2.SqT K H a vs) (h2 : L2.SqT K H b ws) (h3 : L2.SqT K H c ts) (r1 : RDs K f H xs vs) (r2 : RDs K f H ys ws) (r3 : RDs K f H us ts) : RealI K f H ⟨zip3D xs ys us, fun _ => True⟩ (Itz3T K a b c) where
  go := fun i f2 st2 H2 e2 s2 g hi => by
    have hi : i < (zip3D xs ys us).length := hi
    rw [zip3D_length] at hi
    obtain ⟨v, hv⟩ := r1.at_lt (i := i) (by omega)
    obtain ⟨w, hw⟩ := r2.at_lt (i := i) (by omega)
    obtain ⟨t, ht⟩ := r3.at_lt (i := i) (by omega)
    exact ⟨vs, ws, ts, v, w, t, e2.tup _ _ h1, e2.tup _ _ h2, e2.tup _ _ h3, hv, hw, ht⟩
  stop := fun f2 st2 H2 e2 s2 g => by
    refine ⟨vs, ws, ts, e2.tup _ _ h1, e2.tup _ _ h2, e2.tup _ _ h3, ?_⟩
    show (zip3D xs ys us).length ≤ vs.length ∧ (zip3D xs ys us).length ≤ ws.length ∧ (zip3D xs ys us).length ≤ ts.length ∧ ((zip3D xs ys us).length = vs.length ∨ (zip3D xs ys us).length = ws.length ∨ (zip3D xs ys us).length = ts.length)
    rw [zip3D_length, r1.length, r2.length, r3.length]; omega
  yld := fun i f2 st2 H2 d x H3 e2 s2 g hd y => by
    obtain ⟨T, x1, x2, x3, rfl, hT, rfl, y1, y2, y3⟩ := y
    obtain ⟨d1, d2, d3, rfl, g1, g2, g3⟩ := zip3D_get hd
    obtain ⟨v, k1, k2⟩ := (r1.mono e2).get g1
    obtain ⟨w, k3, k4⟩ := (r2.mono e2).get g2
    obtain ⟨t, k5, k6⟩ := (r3.mono e2).get g3
    have q1 := y1 vs (e2.tup _ _ h1)
    have q2 := y2 ws (e2.tup _ _ h2)
    have q3 := y3 ts (e2.tup _ _ h3)
    rw [k1] at q1; cases q1
    rw [k3] at q2; cases q2
    rw [k5] at q3; cases q3
    obtain ⟨s', e'⟩ := s2.lay (o := .tup [x1, x2, x3]) hT
    refine ⟨e', s', RD.tup.mpr ⟨T, [x1, x2, x3], rfl, .of L2.upd_same, ?_⟩⟩
    rw [RDs.cons]
    refine ⟨x1, [x2, x3], rfl, k2.mono e', ?_⟩
    rw [RDs.cons]
    exact ⟨x2, [x3], rfl, k4.mono e', RDs.one (k6.mono e')⟩
theorem pi_zip3T {p tp : Pos} {kk : Nat} (hg : L2.Gl X "zip") (hm : X.mg "zip" = none) (h : PD X a ta) (h' : PD X b tb) (h'' : PD X c tc) (hs : starEach [a, b, c] X.env = (false, eval a X.env) :: starEach [b, c] X.env := by rfl) (hs2 : starEach [b, c] X.env = (false, eval b X.env) :: starEach [c] X.env := by rfl) (hs3 : starEach [c] X.env = (false, eval c X.env) :: starEach [] X.env := by rfl)
    (hpl : (backTo pos (starEach [b, c] X.env)).any (·.1) = false := by rfl) : PDI X (.Tuple es kk tp) (.Call (.Name "zip" p) [a, b, c] [] pos) (iZip3T ta tb tc) :=
  pi_imp (pi_zip3TA hg hm (L2.pa_cons h (L2.pa_cons h' (L2.pa_cons h'' L2.pa_nil hs3) hs2) hs) hs hpl) fun σ H R ⟨f, ρ, st, R', Re, h, l⟩ => ⟨f, ρ, st, _, Re, h, fun x st1 v f1 H1 q1 e1 s1 r1 => ⟨f1, ρ, st1, _, Re.later e1 s1, q1, fun y st2 w f2 H2 q2 e2 s2 r2 => ⟨f2, ρ, st2, _, (Re.later e1 s1).later e2 s2, q2, fun z st3 w3 f3 H3 q3 e3 s3 r3 => by
    have r1' := (r1.mono e2).mono e3
    have r2' := r2.mono e3
    cases x <;> cases y <;> cases z <;> try (exact (show False from q3).elim)
    rw [RD.tup] at r1' r2' r3
    obtain ⟨a, vs, rfl, k1, k2⟩ := r1'
    obtain ⟨b, ws, rfl, j1, j2⟩ := r2'
    obtain ⟨c, ts, rfl, l1, l2⟩ := r3
    exact ⟨a, b, c, vs, ws, ts, rfl, k1, j1, l1, l _ st3 _ f3 H3 q3 ((e1.trans e2).trans e3) s3 (realI_zip3T k1 j1 l1 k2 j2 l2)⟩⟩⟩⟩
end
end Pd
end PartPdSoundQt

section PartPdDraw
set_option Elab.async false
set_option linter.all false
set_option maxRecDepth 100000
/-! Pd: the laws' drawing def. Own work. -/
namespace Pd
open PySem
local macro_rules | `(tactic| walk_at "s") => `(tactic| (repeat (refine Red.red ?_)))
local macro_rules | `(tactic| walk_at "r") => `(tactic| (repeat (first | refine Red.red ?_ | refine Nxt.mk ?_)))
/-- the drawer stands at 2, the script's numbers at 1 -/
def DrawAt (st : Store) : Prop := ∃ (ns : List Int) (a b v : Int), rdL st 1 (ns.map D.int) ∧ rdL st 2 [.ref 1, .int a, .int b, .int v, .int 2] ∧ 0 ≤ a ∧ 0 ≤ b ∧ 0 ≤ v ∧ ns.length ≤ 63
/-- later: the drawer goes on, cells are added, all others are as they were -/
structure Fra (st st' : Store) : Prop where
  dr : DrawAt st'
  le : st.length ≤ st'.length
  at' : ∀ n, n < st.length → n ≠ 2 → st'[n]? = st[n]?
theorem Fra.refl {st : Store} (h : DrawAt st) : Fra st st := ⟨h, Nat.le_refl _, fun _ _ _ => rfl⟩
theorem Fra.trans {a b c : Store} (h : Fra a b) (h' : Fra b c) : Fra a c := ⟨h'.dr, Nat.le_trans h.le h'.le, fun n hn ne => (h'.at' n (Nat.lt_of_lt_of_le hn h.le) ne).trans (h.at' n hn ne)⟩
theorem rdL_lt {st : Store} {n : Nat} {xs : List D} (h : rdL st n xs) : n < st.length := (List.getElem?_eq_some_iff.mp h).1
theorem rdL_app {st : Store} {n : Nat} {xs : List D} {c : C} (h : rdL st n xs) : rdL (st ++ [c]) n xs := by
  unfold rdL at *
  rw [List.getElem?_append_left (rdL_lt h)]; exact h
theorem rdL_new {st : Store} {xs : List D} : rdL (st ++ [.lst xs]) st.length xs := by unfold rdL; simp
theorem rdL_set {st : Store} {n : Nat} {xs ys : List D} (h : rdL st n xs) : rdL (st.set n (.lst ys)) n ys := by unfold rdL; rw [List.getElem?_set_self (rdL_lt h)]
theorem rdL_ne {st : Store} {n m : Nat} {xs : List D} {c : C} (h : rdL st n xs) (ne : n ≠ m) : rdL (st.set m c) n xs := by unfold rdL at *; rw [List.getElem?_set_ne (Ne.symm ne)]; exact h
theorem rdL_inj {st : Store} {n : Nat} {xs ys : List D} (h : rdL st n xs) (h' : rdL st n ys) : xs = ys := by
  unfold rdL at *
  rw [h] at h'
  cases h'; rfl
theorem Fra.rd {st st' : Store} (f : Fra st st') {n : Nat} {xs : List D} (h : rdL st n xs) (ne : n ≠ 2) : rdL st' n xs := by
  unfold rdL at *
  rw [f.at' n (rdL_lt h) ne]; exact h
theorem DrawAt.lt {st : Store} (h : DrawAt st) : 2 < st.length := by
  obtain ⟨_, _, _, _, _, h2, _⟩ := h
  exact rdL_lt h2
theorem DrawAt.app {st : Store} {c : C} (h : DrawAt st) : DrawAt (st ++ [c]) := by
  obtain ⟨ns, a, b, v, h1, h2, h3⟩ := h
  exact ⟨ns, a, b, v, rdL_app h1, rdL_app h2, h3⟩
theorem DrawAt.set {st : Store} {n : Nat} {c : C} (h : DrawAt st) (hn : 2 < n) : DrawAt (st.set n c) := by
  obtain ⟨ns, a, b, v, h1, h2, h3⟩ := h
  exact ⟨ns, a, b, v, rdL_ne h1 (by omega), rdL_ne h2 (by omega), h3⟩
theorem Fra.app {st st' : Store} {c : C} (f : Fra st st') : Fra st (st' ++ [c]) := ⟨f.dr.app, by simp; have := f.le; omega, fun n hn ne => by
  rw [List.getElem?_append_left (Nat.lt_of_lt_of_le hn f.le)]; exact f.at' n hn ne⟩
theorem Fra.set {st st' : Store} {n : Nat} {c : C} (f : Fra st st') (hn : st.length ≤ n) (h2 : 2 < n) : Fra st (st'.set n c) := ⟨f.dr.set h2, by simp; exact f.le, fun m hm ne => by
  rw [List.getElem?_set_ne (by omega)]; exact f.at' m hm ne⟩
def drawBody (c : Cl) : TS := sSeq (sIf (tTru (dCmp gtC (dOp ixK (dVar 0) (dC (.int 2))) (dC (.int 0)))) (sSeq (sAsg (dOp ixK (dVar 0) (dC (.int 2))) (gName 2)) (sSeq (sAsg (dOp fdivK (dVar 2) (dVar 1)) (gSub (dVar 0) (dC (.int 2)))) (sRet (dOp modK (dB intB (aCons (dVar 2) (aNil))) (dVar 1))))) (sNext)) (sSeq (sAsg (dC (.int 0)) (gName 3)) (sSeq (sIf (tTru (dCmp ltC (dOp ixK (dVar 0) (dC (.int 1))) (dB lenB (aCons (dOp ixK (dVar 0) (dC (.int 0))) (aNil))))) (sSeq (sAsg (dOp ixK (dOp ixK (dVar 0) (dC (.int 0))) (dOp ixK (dVar 0) (dC (.int 1)))) (gName 4)) (sAsg (dOp addK (dOp mulK (dC (.int 2)) (dB absB (aCons (dVar 4) (aNil)))) (dB intB (aCons (dCmp ltC (dVar 4) (dC (.int 0))) (aNil)))) (gName 3))) (sNext)) (sSeq (sAugL iaddK (dVar 0) (dC (.int 1)) (dC (.int 1))) (sSeq (sIf (tTru (dCmp geC (dVar 3) (dOp mulK (dC (.int 2)) (dOp powK (dC (.int 10)) (dC (.int 18)))))) (sSeq (sAsg (dOp modK (dB intB (aCons (dOp fdivK (dVar 3) (dC (.int 2))) (aNil))) (dOp shlK (dC (.int 1)) (dC (.int 6000)))) (gName 2)) (sSeq (sAsg (dOp fdivK (dVar 2) (dVar 1)) (gSub (dVar 0) (dC (.int 2)))) (sRet (dOp modK (dB intB (aCons (dVar 2) (aNil))) (dVar 1))))) (sNext)) (sSeq (sAsg (dOp modK (dB intB (aCons (dOp addK (dOp addK (dOp addK (dOp mulK (dOp ixK (dVar 0) (dC (.int 3))) (dC (.int 48271))) (dOp mulK (dOp modK (dB intB (aCons (dVar 3) (aNil))) (dC (.int 2147483629))) (dC (.int 16807)))) (dOp mulK (dOp ixK (dVar 0) (dC (.int 1))) (dC (.int 69621)))) (dC (.int 11))) (aNil))) (dC (.int 2147483647))) (gSub (dVar 0) (dC (.int 3)))) (sRet (dOp modK (dB intB (aCons (dOp fdivK (dOp ixK (dVar 0) (dC (.int 3))) (dC (.int 16))) (aNil))) (dVar 1))))))))
theorem ix_at {st : Store} {n : Nat} {xs : List D} {i : Int} {d : D} {Q : K} (h : rdL st n xs) (e : atD xs i = some d) (q : Q d st) : ixK (.ref n) (.int i) st Q := ⟨xs, d, .inl h, e, q⟩
theorem ixL_at {st : Store} {n : Nat} {xs : List D} {i : Int} {d : D} {Q : K} (h : rdL st n xs) (e : atD xs i = some d) (q : Q d st) : ixLK (.ref n) (.int i) st Q := ⟨xs, d, .inl h, e, q⟩
theorem set_at {st : Store} {n : Nat} {xs : List D} {i : Int} {v d : D} {Q : Store → Prop} (h : rdL st n xs) (e : atD xs i = some d) (h0 : 0 ≤ i) (q : Q (st.set n (.lst (xs.set i.toNat v)))) : setK (.ref n) (.int i) v st Q := ⟨xs, h, ⟨d, e⟩, h0, q⟩
theorem len_at {st : Store} {n : Nat} {xs : List D} {Q : K} (h : rdL st n xs) (q : Q (.int xs.length) st) : lenB [.ref n] st Q := ⟨xs, .inl h, q⟩
theorem atD_map {ns : List Int} {i : Int} (h0 : 0 ≤ i) (h1 : i < ns.length) : ∃ n, n ∈ ns ∧ atD (ns.map D.int) i = some (.int n) := by
  refine ⟨ns[i.toNat]'(by omega), List.getElem_mem _, ?_⟩
  unfold atD
  rw [if_pos h0, List.getElem?_map, List.getElem?_eq_getElem (by omega)]
  rfl
theorem draw_ok {prog : String → Option Def} (hp : prog "_law_draw" = some ⟨2, 5, drawBody⟩) {k : Nat} {st : Store} {many : Int} {Q : K} (h : DrawAt st) (h0 : 0 < many) (h1 : many < 1073741824)
    (hQ : ∀ r st', 0 ≤ r → r < many → Fra st st' → st'.length = st.length → Q (.int r) st') : callN prog (k + 1) "_law_draw" [.ref 2, .int many] st Q := by
  obtain ⟨ns, a, b, v, d1, d2, ha, hb, hv, hn⟩ := h
  have l2 := rdL_lt d2
  -- the end of each way: a drawer behind it
  have fin : ∀ {a b v : Int} {xs : List D} {r : Int}, xs = [.ref 1, .int a, .int b, .int v, .int 2] → 0 ≤ a → 0 ≤ b → 0 ≤ v → Q (.int (r % many)) (st.set 2 (.lst xs)) := fun {a b v xs r} e ha hb hv => by
    subst e
    refine hQ _ _ (Int.emod_nonneg _ (by omega)) (Int.emod_lt_of_pos _ h0) ⟨⟨ns, a, b, v, rdL_ne d1 (by decide), rdL_set d2, ha, hb, hv, hn⟩, by simp, fun n _ ne => by rw [List.getElem?_set_ne (Ne.symm ne)]⟩ (by simp)
  have set2 : ∀ {xs ys : List D}, (st.set 2 (.lst xs)).set 2 (.lst ys) = st.set 2 (.lst ys) := fun {xs ys} => by rw [List.set_set]
  refine call_intro hp rfl ?_
  unfold drawBody
  walk_at "r"
  refine ix_at d2 rfl ?_
  walk_at "r"
  refine way (fun e => ?_) (fun e => ?_)
  · have e : 0 < b := by simpa using e
    walk_at "r"
    refine ix_at d2 rfl ?_
    walk_at "r"
    refine ⟨⟨h0, h1⟩, ?_⟩
    walk_at "r"
    refine set_at d2 rfl (by decide) ?_
    walk_at "r"
    refine ⟨h0, ?_⟩
    exact fin (a := a) (b := b / many) (v := v) rfl ha (Int.ediv_nonneg hb (by omega)) hv
  · walk_at "s"
    refine Nxt.mk ?_
    walk_at "s"
    refine Nxt.mk ?_
    refine seq_cut (fun σ st' => ∃ sz y4, 0 ≤ sz ∧ σ = [some (.ref 2), some (.int many), none, some (.int sz), y4] ∧ st' = st) (fun N hN => ?_) (fun σ st' hJ => ?_)
    · walk_at "r"
      refine ix_at d2 rfl ?_
      walk_at "r"
      refine ix_at d2 rfl ?_
      walk_at "r"
      refine len_at d1 ?_
      walk_at "r"
      refine way (fun e => ?_) (fun e => ?_)
      · have e : a < (ns.length : Int) := by simpa using e
        walk_at "r"
        refine ix_at d2 rfl ?_
        walk_at "r"
        refine ix_at d2 rfl ?_
        obtain ⟨n, _, hat⟩ := atD_map ha e
        refine ix_at d1 hat ?_
        walk_at "r"
        refine ⟨.inl (by decide), ?_⟩
        walk_at "r"
        refine hN _ _ ⟨_, _, ?_, rfl, rfl⟩
        have hb2 : 0 ≤ b2i (decide (n < 0)) := by unfold b2i; split <;> decide
        split <;> omega
      · walk_at "r"
        exact hN _ _ ⟨0, _, by decide, rfl, rfl⟩
    · obtain ⟨sz, y4, hsz, rfl, e0⟩ := hJ
      rw [e0]
      walk_at "r"
      refine ixL_at d2 rfl ?_
      walk_at "r"
      refine set_at d2 rfl (by decide) ?_
      walk_at "r"
      have d3 : rdL (st.set 2 (.lst [.ref 1, .int (a + 1), .int b, .int v, .int 2])) 2 [.ref 1, .int (a + 1), .int b, .int v, .int 2] := rdL_set d2
      refine ⟨by unfold cPow; decide, ?_⟩
      walk_at "r"
      refine ⟨.inl (by decide), ?_⟩
      walk_at "r"
      refine way (fun _ => ?_) (fun _ => ?_)
      · walk_at "r"
        refine ⟨by decide, ?_⟩
        walk_at "r"
        refine ⟨by unfold cPow; decide, ?_⟩
        walk_at "r"
        have hp6 : (0 : Int) < 1 * 2 ^ (6000 : Int).toNat := by rw [Int.one_mul]; exact Int.pow_pos (by decide)
        refine ⟨hp6, ?_⟩
        walk_at "r"
        refine ⟨⟨h0, h1⟩, ?_⟩
        walk_at "r"
        refine set_at d3 rfl (by decide) ?_
        walk_at "r"
        refine ⟨h0, ?_⟩
        show Q _ ((st.set 2 _).set 2 _)
        rw [set2]
        exact fin (a := a + 1) (b := sz / 2 % (1 * 2 ^ (6000 : Int).toNat) / many) (v := v) rfl (by omega) (Int.ediv_nonneg (Int.emod_nonneg _ (by omega)) (by omega)) hv
      · walk_at "r"
        refine ix_at d3 rfl ?_
        walk_at "r"
        refine ⟨.inr (by decide), ?_⟩
        walk_at "r"
        refine ⟨by decide, ?_⟩
        walk_at "r"
        refine ⟨.inr (by decide), ?_⟩
        walk_at "r"
        refine ix_at d3 rfl ?_
        walk_at "r"
        refine ⟨.inr (by decide), ?_⟩
        walk_at "r"
        refine ⟨by decide, ?_⟩
        walk_at "r"
        refine set_at d3 rfl (by decide) ?_
        walk_at "r"
        refine ix_at (rdL_set d3) rfl ?_
        walk_at "r"
        refine ⟨by decide, ?_⟩
        walk_at "r"
        refine ⟨h0, ?_⟩
        rw [set2]
        exact fin (a := a + 1) (b := b) (v := (v * 48271 + sz % 2147483629 * 16807 + (a + 1) * 69621 + 11) % 2147483647) rfl (by omega) hb (Int.emod_nonneg _ (by omega))
end Pd
end PartPdDraw

section PartPdLib
set_option Elab.async false
set_option linter.all false
set_option maxRecDepth 100000
/-! Pd: what the laws share: list cells, draws in comprehensions, masks. Own work. -/
namespace Pd
open PySem
local macro_rules | `(tactic| walk_at "s") => `(tactic| (repeat (refine Red.red ?_)))
local macro_rules | `(tactic| walk_at "r") => `(tactic| (repeat (first | refine Red.red ?_ | refine Nxt.mk ?_)))
/-! ### list cells -/
theorem list_at {st : Store} {n : Nat} {xs : List D} {Q : K} (h : rdL st n xs) (q : Q (.ref st.length) (st ++ [.lst xs])) : listB [.ref n] st Q := ⟨xs, .inl h, q⟩
theorem tuple_at {st : Store} {n : Nat} {xs : List D} {Q : K} (h : rdL st n xs) (q : Q (.tup xs) st) : tupleB [.ref n] st Q := ⟨xs, .inl h, q⟩
theorem sum_at {st : Store} {n : Nat} {ns : List Int} {Q : K} (h : rdL st n (ns.map D.int)) (q : Q (.int ns.sum) st) : sumB [.ref n] st Q := ⟨ns, .inl h, q⟩
theorem it_at {st : Store} {n : Nat} {xs : List D} {R : Iter → Store → Prop} (h : rdL st n xs) (q : R ⟨xs, fun s => rdA s n xs⟩ st) : itK (.ref n) st R := ⟨xs, .inl h, q⟩
theorem append_at {st : Store} {n : Nat} {xs : List D} {x : D} {Q : K} (h : rdL st n xs) (hl : xs.length < szl) (q : Q .non (st.set n (.lst (xs ++ [x])))) : appendM (.ref n) [x] st Q := ⟨xs, h, hl, q⟩
theorem extend_at {st : Store} {n m : Nat} {xs ys : List D} {Q : K} (h : rdL st n xs) (h' : rdL st m ys) (ne : n ≠ m) (hl : xs.length + ys.length ≤ szl) (q : Q .non (st.set n (.lst (xs ++ ys)))) : extendM (.ref n) [.ref m] st Q := ⟨xs, ys, h, h', ne, hl, q⟩
theorem ty_at {st : Store} {n : Nat} {xs : List D} (h : rdL st n xs) : tyLst (.ref n) st := ⟨xs, h⟩
theorem sl_at {st : Store} {n : Nat} {xs : List D} {lo hi : Option Int} {Q : K} (h : rdL st n xs) (q : Q (.ref st.length) (st ++ [.lst (cutD xs lo hi)])) : slK (.ref n) lo hi st Q := ⟨xs, .inl h, q⟩
theorem add_at {st : Store} {n m : Nat} {xs ys : List D} {Q : K} (h : rdL st n xs) (h' : rdL st m ys) (hl : xs.length + ys.length ≤ szl) (q : Q (.ref st.length) (st ++ [.lst (xs ++ ys)])) : addK (.ref n) (.ref m) st Q := ⟨xs, ys, h, h', hl, q⟩
theorem rep_at {st : Store} {n : Nat} {xs : List D} {k : Int} {Q : K} (h : rdL st n xs) (h0 : 0 ≤ k) (h1 : k < 1000000) (hl : xs.length ≤ 1) (q : Q (.ref st.length) (st ++ [.lst (List.replicate k.toNat xs).flatten])) : mulK (.ref n) (.int k) st Q :=
  ⟨xs, h, by omega, by omega, by
    have : xs.length * k.toNat ≤ 1 * k.toNat := Nat.mul_le_mul_right _ hl
    unfold szl; omega, q⟩
theorem flat_one (x : D) (n : Nat) : (List.replicate n [x]).flatten = List.replicate n x := by
  induction n with
  | zero => rfl
  | succ n ih => rw [List.replicate_succ, List.flatten_cons, ih, List.replicate_succ]; rfl
theorem atD_nat {α : Type} {xs : List α} {i : Int} {x : α} (h0 : 0 ≤ i) (h : xs[i.toNat]? = some x) : atD xs i = some x := by unfold atD; rw [if_pos h0]; exact h
theorem atD_of {α : Type} {xs : List α} {i : Int} (h0 : 0 ≤ i) (h1 : i < xs.length) : ∃ x, x ∈ xs ∧ xs[i.toNat]? = some x ∧ atD xs i = some x :=
  ⟨xs[i.toNat]'(by omega), List.getElem_mem _, List.getElem?_eq_getElem (by omega), atD_nat h0 (List.getElem?_eq_getElem (by omega))⟩
theorem atD_mapI {α : Type} {f : α → D} {xs : List α} {i : Int} (h0 : 0 ≤ i) (h1 : i < xs.length) : ∃ x, x ∈ xs ∧ xs[i.toNat]? = some x ∧ atD (xs.map f) i = some (f x) := by
  obtain ⟨x, h2, h3, h4⟩ := atD_of h0 h1
  exact ⟨x, h2, h3, atD_nat h0 (by rw [List.getElem?_map, h3]; rfl)⟩
theorem cut_take {α : Type} (xs : List α) {i : Int} (h : 0 ≤ i) : cutD xs none (some i) = xs.take i.toNat := by
  unfold cutD cl
  simp only [Option.map_none, Option.getD_none, Option.map_some, Option.getD_some, List.drop_zero, Nat.sub_zero]
  rw [if_neg (by omega)]
  by_cases h2 : i.toNat ≤ xs.length
  · rw [Nat.min_eq_left h2]
  · rw [Nat.min_eq_right (by omega), List.take_of_length_le (Nat.le_refl _), List.take_of_length_le (by omega)]
theorem cut_drop {α : Type} (xs : List α) {i : Int} (h : 0 ≤ i) : cutD xs (some i) none = xs.drop i.toNat := by
  unfold cutD cl
  simp only [Option.map_none, Option.getD_none, Option.map_some, Option.getD_some]
  rw [if_neg (by omega)]
  by_cases h2 : i.toNat ≤ xs.length
  · rw [Nat.min_eq_left h2, List.take_of_length_le (by simp)]
  · rw [Nat.min_eq_right (by omega), List.drop_of_length_le (Nat.le_refl _), List.drop_of_length_le (by omega)]
    simp
theorem cut_last {α : Type} (xs : List α) : cutD xs none (some (-1)) = xs.dropLast := by
  unfold cutD cl
  simp only [Option.map_none, Option.getD_none, Option.map_some, Option.getD_some, List.drop_zero, Nat.sub_zero]
  rw [if_pos (by decide), List.dropLast_eq_take]
  congr 1
  omega
/-- cells are added, all others as they were -/
def Grw (st st' : Store) : Prop := ∃ m, st' = st ++ m
theorem Grw.refl (st : Store) : Grw st st := ⟨[], by simp⟩
theorem Grw.app {st st' : Store} {c : C} (h : Grw st st') : Grw st (st' ++ [c]) := by
  obtain ⟨m, rfl⟩ := h
  exact ⟨m ++ [c], by simp⟩
theorem Grw.trans {a b c : Store} (h : Grw a b) (h' : Grw b c) : Grw a c := by
  obtain ⟨m, rfl⟩ := h
  obtain ⟨m', rfl⟩ := h'
  exact ⟨m ++ m', by simp⟩
theorem Grw.rd {st st' : Store} (f : Grw st st') {n : Nat} {xs : List D} (h : rdL st n xs) : rdL st' n xs := by
  obtain ⟨m, rfl⟩ := f
  unfold rdL at *
  rw [List.getElem?_append_left (rdL_lt h)]; exact h
theorem Grw.fra {st st' : Store} (f : Grw st st') (h : DrawAt st) : Fra st st' := by
  obtain ⟨m, rfl⟩ := f
  refine ⟨?_, by simp, fun n hn _ => List.getElem?_append_left hn⟩
  obtain ⟨ns, a, b, v, h1, h2, h3⟩ := h
  exact ⟨ns, a, b, v, Grw.rd ⟨m, rfl⟩ h1, Grw.rd ⟨m, rfl⟩ h2, h3⟩
theorem Grw.le {st st' : Store} (f : Grw st st') : st.length ≤ st'.length := by
  obtain ⟨m, rfl⟩ := f
  simp
theorem Fra.set' {st st' : Store} {n : Nat} {c : C} (f : Fra st st') (hn : st.length ≤ n) (h2 : 2 < st.length) : Fra st (st'.set n c) := f.set hn (by omega)
/-! ### the drawer is made -/
def beginBody (c : Cl) : TS := sRet (dLst (aCons (dLc (iSeq (dVar 0)) (gName 1) (tYes) (dB intB (aCons (dVar 1) (aNil))) [1]) (aCons (dC (.int 0)) (aCons (dC (.int 0)) (aCons (dC (.int 7)) (aCons (dC (.int 2)) (aNil)))))))
theorem begin_ok {prog : String → Option Def} (hp : prog "_law_begin" = some ⟨1, 2, beginBody⟩) {k : Nat} {ns : List Int} {Q : K} (hn : ns.length ≤ 63)
    (hQ : ∀ st', DrawAt st' → st'.length = 3 → Q (.ref 2) st') : callN prog (k + 1) "_law_begin" [.ref 0] [.frz (ns.map D.int)] Q := by
  refine call_intro hp rfl ?_
  unfold beginBody
  walk_at "r"
  have hfz : ∀ acc : List D, rdA ([.frz (ns.map D.int)] ++ [.lst acc]) 0 (ns.map D.int) := fun acc => .inr rfl
  refine ⟨ns.map D.int, .inr rfl, ?_⟩
  refine lc_map ns D.int D.int rfl (by unfold szl; omega) hfz (fun x hx acc N hN => ?_) ?_
  · walk_at "r"
    exact hN
  · walk_at "r"
    refine ⟨by show 5 ≤ szl; decide, ?_⟩
    exact hQ _ ⟨ns, 0, 0, 7, rfl, rfl, by decide, by decide, by decide, hn⟩ rfl
/-! ### comprehensions of draws -/
theorem lc_ints {gd : Store → Prop} {g : TG} {te : TE} {ρ : Env} {st : Store} {Q : K} {items : List D} (P : Int → Prop) (hd : DrawAt st) (hl : items.length ≤ szl) (hg : ∀ st', Fra st st' → gd st')
    (hs : ∀ x ∈ items, ∀ st', Fra st st' → ∀ N : D → Store → Prop, (∀ r st2, P r → Fra st' st2 → N (.int r) st2) → g x ρ st' fun ρ2 st2 => te ρ2 st2 N)
    (hQ : ∀ (rs : List Int) st', rs.length = items.length → (∀ r ∈ rs, P r) → Fra st st' → rdL st' st.length (rs.map D.int) → Q (.ref st.length) st') : lcLoop gd g tYes te ρ st.length Q items [] (st ++ [.lst []]) := by
  have h2 := hd.lt
  refine lc_by (fun pre acc st' => ∃ rs : List Int, acc = rs.map D.int ∧ rs.length = pre.length ∧ (∀ r ∈ rs, P r) ∧ Fra st st' ∧ rdL st' st.length acc) ⟨[], rfl, rfl, by simp, (Fra.refl hd).app, rdL_new⟩ (fun pre x post acc st' e ⟨rs, h1, h3, h4, h5, h6⟩ N M hN hM => ?_) (fun acc st' ⟨rs, h1, h3, h4, h5, h6⟩ => ?_)
  · subst h1
    refine ⟨hg _ h5, ?_⟩
    have e1 : (fun (ρ2 : Env) (st2 : Store) => tYes ρ2 st2 fun b st3 => (b = true → te ρ2 st3 N) ∧ (b = false → M st3)) = fun ρ2 st2 => te ρ2 st2 N := by
      funext ρ2 st2
      exact propext ⟨fun q => q.1 rfl, fun q => ⟨fun _ => q, fun e => nomatch e⟩⟩
    rw [e1]
    have hlen := congrArg List.length e
    simp at hlen
    refine hs x (by rw [e]; simp) st' h5 N fun r st2 hr f => ?_
    have h7 := f.rd h6 (by omega)
    refine hN _ _ h7 (by simp; omega) ⟨rs ++ [r], by simp, by simp [h3], ?_, (h5.trans f).set (Nat.le_refl _) (by omega), rdL_set h7⟩
    intro y hy
    rcases List.mem_append.mp hy with hy | hy
    · exact h4 y hy
    · simp at hy; subst hy; exact hr
  · subst h1
    exact ⟨hg _ h5, h6, hQ rs st' h3 h4 h5 h6⟩
/-- two lists, place by place -/
inductive Two {α β : Type} (P : α → β → Prop) : List α → List β → Prop
  | nil : Two P [] []
  | cons {a : α} {b : β} {as : List α} {bs : List β} : P a b → Two P as bs → Two P (a :: as) (b :: bs)
theorem Two.snoc {α β : Type} {P : α → β → Prop} : ∀ {as : List α} {bs : List β} {a : α} {b : β}, Two P as bs → P a b → Two P (as ++ [a]) (bs ++ [b])
  | _, _, _, _, .nil, h => .cons h .nil
  | _, _, _, _, .cons h t, h' => .cons h (Two.snoc t h')
theorem Two.length {α β : Type} {P : α → β → Prop} : ∀ {as : List α} {bs : List β}, Two P as bs → as.length = bs.length
  | _, _, .nil => rfl
  | _, _, .cons _ t => by simp [Two.length t]
theorem Two.imp {α β : Type} {P P' : α → β → Prop} (f : ∀ a b, P a b → P' a b) : ∀ {as : List α} {bs : List β}, Two P as bs → Two P' as bs
  | _, _, .nil => .nil
  | _, _, .cons h t => .cons (f _ _ h) (Two.imp f t)
theorem lc_vals {gd : Store → Prop} {g : TG} {te : TE} {ρ : Env} {st : Store} {Q : K} {items : List D} (P : D → D → Prop) (hd : DrawAt st) (hl : items.length ≤ szl) (hg : ∀ st', Fra st st' → gd st')
    (hs : ∀ x ∈ items, ∀ st', Fra st st' → ∀ N : D → Store → Prop, (∀ y st2, P x y → Fra st' st2 → N y st2) → g x ρ st' fun ρ2 st2 => te ρ2 st2 N)
    (hQ : ∀ (ys : List D) st', Two P items ys → Fra st st' → rdL st' st.length ys → Q (.ref st.length) st') : lcLoop gd g tYes te ρ st.length Q items [] (st ++ [.lst []]) := by
  have h2 := hd.lt
  refine lc_by (fun pre acc st' => Two P pre acc ∧ Fra st st' ∧ rdL st' st.length acc) ⟨.nil, (Fra.refl hd).app, rdL_new⟩ (fun pre x post acc st' e ⟨h1, h5, h6⟩ N M hN hM => ?_) (fun acc st' ⟨h1, h5, h6⟩ => ?_)
  · refine ⟨hg _ h5, ?_⟩
    have e1 : (fun (ρ2 : Env) (st2 : Store) => tYes ρ2 st2 fun b st3 => (b = true → te ρ2 st3 N) ∧ (b = false → M st3)) = fun ρ2 st2 => te ρ2 st2 N := by
      funext ρ2 st2
      exact propext ⟨fun q => q.1 rfl, fun q => ⟨fun _ => q, fun e => nomatch e⟩⟩
    rw [e1]
    have hlen := congrArg List.length e
    simp at hlen
    refine hs x (by rw [e]; simp) st' h5 N fun y st2 hr f => ?_
    have h7 := f.rd h6 (by omega)
    exact hN _ _ h7 (by have := h1.length; omega) ⟨h1.snoc hr, (h5.trans f).set (Nat.le_refl _) (by omega), rdL_set h7⟩
  · exact ⟨hg _ h5, h6, hQ acc st' h1 h5 h6⟩
theorem not_any {α : Type} {p q : α → Bool} : ∀ {l : List α}, (∀ x ∈ l, p x = !q x) → (!l.any p) = l.all q
  | [], _ => rfl
  | x :: l, h => by
    rw [List.any_cons, List.all_cons, Bool.not_or, not_any (l := l) fun y hy => h y (List.mem_cons_of_mem _ hy), h x List.mem_cons_self, Bool.not_not]
/-- a filtered comprehension whose test and element read alone -/
theorem lc_filter {α : Type} {gd : Store → Prop} {g : TG} {tt : TT} {te : TE} {ρ : Env} {st : Store} {Q : K} (xs : List α) (f h : α → D) (p : α → Bool) {items : List D} (hi : items = xs.map f) (hl : xs.length ≤ szl) (hg : ∀ acc, gd (st ++ [.lst acc]))
    (hs : ∀ x, x ∈ xs → ∀ (acc : List D) (N : D → Store → Prop) (M : Store → Prop), (p x = true → N (h x) (st ++ [.lst acc])) → (p x = false → M (st ++ [.lst acc])) → g (f x) ρ (st ++ [.lst acc]) fun ρ2 st2 => tt ρ2 st2 fun b st3 => (b = true → te ρ2 st3 N) ∧ (b = false → M st3))
    (hd : Q (.ref st.length) (st ++ [.lst ((xs.filter p).map h)])) : lcLoop gd g tt te ρ st.length Q items [] (st ++ [.lst []]) := by
  subst hi
  refine lc_by (fun pre acc st' => acc = ((xs.take pre.length).filter p).map h ∧ st' = st ++ [.lst acc]) ⟨rfl, rfl⟩ (fun pre x post acc st' e ⟨h1, h2⟩ N M hN hM => ?_) (fun acc st' ⟨h1, h2⟩ => ?_)
  · subst h1; subst h2
    refine ⟨hg _, ?_⟩
    have hlen : pre.length < xs.length := by
      have := congrArg List.length e
      simp at this; omega
    have hx : xs[pre.length] ∈ xs := List.getElem_mem hlen
    have hfx : x = f xs[pre.length] := by
      have h2 : (xs.map f)[pre.length]? = some x := by rw [e]; simp
      rw [List.getElem?_map, List.getElem?_eq_getElem hlen] at h2
      simpa using h2.symm
    subst hfx
    have take1 : List.take (pre ++ [f xs[pre.length]]).length xs = List.take pre.length xs ++ [xs[pre.length]] := by
      rw [List.length_append]
      show List.take (pre.length + 1) xs = _
      rw [List.take_add_one, List.getElem?_eq_getElem hlen]
      rfl
    have hsz : (List.map h (List.filter p (List.take pre.length xs))).length < szl := by
      rw [List.length_map]
      have h3 := List.length_filter_le p (List.take pre.length xs)
      rw [List.length_take] at h3
      omega
    refine hs _ hx _ N M (fun hp => hN _ _ (by unfold rdL; simp) hsz ⟨?_, by rw [set_app]⟩) fun hp => hM _ (by unfold rdL; simp) ⟨?_, rfl⟩
    · rw [take1, List.filter_append, List.map_append]
      simp [hp]
    · rw [take1, List.filter_append, List.map_append]
      simp [hp]
  · subst h1; subst h2
    have e2 : List.take (List.map f xs).length xs = xs := by simp
    rw [e2] at *
    exact ⟨hg _, by unfold rdL; simp, hd⟩
/-- a comprehension with a test, of ints -/
theorem lc_some {gd : Store → Prop} {g : TG} {tt : TT} {te : TE} {ρ : Env} {st : Store} {Q : K} {items : List D} (P : Int → Prop) (hd : DrawAt st) (hl : items.length ≤ szl) (hg : ∀ st', Fra st st' → gd st')
    (hs : ∀ x ∈ items, ∀ st', Fra st st' → ∀ (N : D → Store → Prop) (M : Store → Prop), (∀ r st2, P r → Fra st' st2 → N (.int r) st2) → (∀ st2, Fra st' st2 → M st2) → g x ρ st' fun ρ2 st2 => tt ρ2 st2 fun b st3 => (b = true → te ρ2 st3 N) ∧ (b = false → M st3))
    (hQ : ∀ (rs : List Int) st', rs.length ≤ items.length → (∀ r ∈ rs, P r) → Fra st st' → rdL st' st.length (rs.map D.int) → Q (.ref st.length) st') : lcLoop gd g tt te ρ st.length Q items [] (st ++ [.lst []]) := by
  have h2 := hd.lt
  refine lc_by (fun pre acc st' => ∃ rs : List Int, acc = rs.map D.int ∧ rs.length ≤ pre.length ∧ (∀ r ∈ rs, P r) ∧ Fra st st' ∧ rdL st' st.length acc) ⟨[], rfl, Nat.le_refl _, by simp, (Fra.refl hd).app, rdL_new⟩ (fun pre x post acc st' e ⟨rs, h1, h3, h4, h5, h6⟩ N M hN hM => ?_) (fun acc st' ⟨rs, h1, h3, h4, h5, h6⟩ => ?_)
  · subst h1
    refine ⟨hg _ h5, ?_⟩
    have hlen := congrArg List.length e
    simp at hlen
    refine hs x (by rw [e]; simp) st' h5 N M (fun r st2 hr f => ?_) fun st2 f => hM _ (f.rd h6 (by omega)) ⟨rs, rfl, by simp; omega, h4, h5.trans f, f.rd h6 (by omega)⟩
    have h7 := f.rd h6 (by omega)
    refine hN _ _ h7 (by simp; omega) ⟨rs ++ [r], by simp, by simp [h3], ?_, (h5.trans f).set (Nat.le_refl _) (by omega), rdL_set h7⟩
    intro y hy
    rcases List.mem_append.mp hy with hy | hy
    · exact h4 y hy
    · simp at hy; subst hy; exact hr
  · subst h1
    exact ⟨hg _ h5, h6, hQ rs st' h3 h4 h5 h6⟩
/-- a comprehension of new lists -/
theorem lc_cells {gd : Store → Prop} {g : TG} {te : TE} {ρ : Env} {st : Store} {Q : K} {items : List D} (P : List D → Prop) (hd : DrawAt st) (hl : items.length ≤ szl) (hg : ∀ st', Fra st st' → gd st')
    (hs : ∀ x ∈ items, ∀ st', Fra st st' → ∀ N : D → Store → Prop, (∀ r xs st2, st'.length ≤ r → rdL st2 r xs → P xs → Fra st' st2 → N (.ref r) st2) → g x ρ st' fun ρ2 st2 => te ρ2 st2 N)
    (hQ : ∀ (rs : List Nat) st', rs.length = items.length → (∀ r ∈ rs, st.length < r ∧ ∃ xs, rdL st' r xs ∧ P xs) → Fra st st' → rdL st' st.length (rs.map D.ref) → Q (.ref st.length) st') : lcLoop gd g tYes te ρ st.length Q items [] (st ++ [.lst []]) := by
  have h2 := hd.lt
  refine lc_by (fun pre acc st' => ∃ rs : List Nat, acc = rs.map D.ref ∧ rs.length = pre.length ∧ (∀ r ∈ rs, st.length < r ∧ ∃ xs, rdL st' r xs ∧ P xs) ∧ Fra st st' ∧ rdL st' st.length acc) ⟨[], rfl, rfl, by simp, (Fra.refl hd).app, rdL_new⟩ (fun pre x post acc st' e ⟨rs, h1, h3, h4, h5, h6⟩ N M hN hM => ?_) (fun acc st' ⟨rs, h1, h3, h4, h5, h6⟩ => ?_)
  · subst h1
    refine ⟨hg _ h5, ?_⟩
    have e1 : (fun (ρ2 : Env) (st2 : Store) => tYes ρ2 st2 fun b st3 => (b = true → te ρ2 st3 N) ∧ (b = false → M st3)) = fun ρ2 st2 => te ρ2 st2 N := by
      funext ρ2 st2
      exact propext ⟨fun q => q.1 rfl, fun q => ⟨fun _ => q, fun e => nomatch e⟩⟩
    rw [e1]
    have hlen := congrArg List.length e
    simp at hlen
    refine hs x (by rw [e]; simp) st' h5 N fun r xs st2 hb hr hp f => ?_
    have h7 := f.rd h6 (by omega)
    have h8 := rdL_lt h6
    refine hN _ _ h7 (by simp; omega) ⟨rs ++ [r], by simp, by simp [h3], ?_, (h5.trans f).set (Nat.le_refl _) (by omega), rdL_set h7⟩
    intro y hy
    rcases List.mem_append.mp hy with hy | hy
    · obtain ⟨q1, ys, q2, q3⟩ := h4 y hy
      exact ⟨q1, ys, rdL_ne (f.rd q2 (by omega)) (by omega), q3⟩
    · simp at hy; subst hy
      exact ⟨by omega, xs, rdL_ne hr (by omega), hp⟩
  · subst h1
    exact ⟨hg _ h5, h6, hQ rs st' h3 h4 h5 h6⟩
theorem Two.mem {α β : Type} {P : α → β → Prop} {S : List α} : ∀ {as : List α} {bs : List β}, (∀ a ∈ as, a ∈ S) → Two (fun a b => a ∈ S → P a b) as bs → Two P as bs
  | _, _, _, .nil => .nil
  | _, _, hS, .cons h t => .cons (h (hS _ List.mem_cons_self)) (Two.mem (fun a ha => hS a (List.mem_cons_of_mem _ ha)) t)
theorem Two.on {α β : Type} {P : α → β → Prop} {as : List α} {bs : List β} (h : Two (fun a b => a ∈ as → P a b) as bs) : Two P as bs := Two.mem (fun _ h => h) h
theorem Two.split {α β γ : Type} {P : α → β → Prop} {R : γ → Prop} {f : γ → β} (h : ∀ a b, P a b → ∃ c, b = f c ∧ R c) : ∀ {as : List α} {bs : List β}, Two P as bs → ∃ cs : List γ, bs = cs.map f ∧ cs.length = as.length ∧ ∀ c ∈ cs, R c
  | _, _, .nil => ⟨[], rfl, rfl, by simp⟩
  | _, _, .cons p t => by
    obtain ⟨c, h1, h2⟩ := h _ _ p
    obtain ⟨cs, h3, h4, h5⟩ := Two.split h t
    refine ⟨c :: cs, by rw [h1, h3]; rfl, by simp [h4], ?_⟩
    intro x hx
    rcases List.mem_cons.mp hx with hx | hx
    · rw [hx]; exact h2
    · exact h5 x hx
/-! ### masks -/
theorem pow2_pos (n : Nat) : (0 : Int) < 2 ^ n := Int.pow_pos (by decide)
theorem pw_bd {w : Int} (h0 : 0 ≤ w) (h1 : w ≤ 8) : 0 < (2 : Int) ^ w.toNat ∧ (2 : Int) ^ w.toNat ≤ 256 := by
  have h2 : w.toNat ≤ 8 := by omega
  have h := pow2_pos w.toNat
  have h3 := Nat.pow_le_pow_right (n := 2) (by decide) h2
  have e : ((2 : Int) ^ w.toNat) = ((2 ^ w.toNat : Nat) : Int) := by simp
  constructor
  · exact h
  · rw [e]; omega
theorem and_le {x m : Int} (hm : 0 ≤ m) : 0 ≤ Builtin.bitAnd x m ∧ Builtin.bitAnd x m ≤ m := by
  unfold Builtin.bitAnd
  by_cases hx : 0 ≤ x
  · simp only [hx, hm, decide_true]
    have := Nat.and_le_right (n := x.toNat) (m := m.toNat)
    omega
  · simp only [hx, hm, decide_true, decide_false]
    have := Nat.and_le_left (n := m.toNat) (m := (Builtin.bitNot x).toNat)
    omega
theorem and_mask {x : Int} {n : Nat} (hx : 0 ≤ x) : Builtin.bitAnd x (2 ^ n - 1) = x % 2 ^ n := by
  have hm : (0 : Int) ≤ 2 ^ n - 1 := by have := pow2_pos n; omega
  unfold Builtin.bitAnd
  simp only [hx, hm, decide_true]
  have e1 : (2 ^ n - 1 : Int).toNat = 2 ^ n - 1 := by
    have : (2 ^ n : Int) = ((2 ^ n : Nat) : Int) := by simp
    rw [this]
    have := Nat.two_pow_pos n
    omega
  rw [e1, Nat.and_two_pow_sub_one_eq_mod]
  have : (2 ^ n : Int) = ((2 ^ n : Nat) : Int) := by simp
  rw [this, Int.natCast_emod, Int.toNat_of_nonneg hx]
theorem or_one {x : Int} (hx : 0 ≤ x) : Builtin.bitOr x 1 = x + 1 - x % 2 := by
  unfold Builtin.bitOr Builtin.bitNot Builtin.bitAnd
  have h1 : ¬ (0 ≤ -x - 1) := by omega
  have h2 : ¬ ((0 : Int) ≤ -1 - 1) := by omega
  simp only [h1, h2, decide_false]
  unfold Builtin.bitNot
  have e1 : (-(-x - 1) - 1).toNat = x.toNat := by omega
  have e2 : (-(-1 - 1 : Int) - 1).toNat = 1 := by decide
  rw [e1, e2]
  have h3 : x.toNat ||| 1 = x.toNat + 1 - x.toNat % 2 := by
    have h4 := Nat.div_add_mod x.toNat 2
    have h6 : 2 * (x.toNat / 2) ||| 1 = 2 * (x.toNat / 2) + 1 := (Nat.two_pow_add_eq_or_of_lt (i := 1) (by decide) (x.toNat / 2)).symm
    rcases Nat.mod_two_eq_zero_or_one x.toNat with h5 | h5
    · have : x.toNat = 2 * (x.toNat / 2) := by omega
      rw [h5]
      rw [← this] at h6
      omega
    · have : x.toNat = 2 * (x.toNat / 2) ||| 1 := by omega
      rw [h5]
      have h7 : x.toNat ||| 1 = x.toNat := by
        conv => lhs; rw [this]
        rw [Nat.or_assoc, Nat.or_self]
        exact this.symm
      omega
  rw [h3]
  omega
end Pd
end PartPdLib

section PartPdKit
set_option Elab.async false
set_option linter.all false
set_option maxRecDepth 100000
/-! Pd: small defs that several laws have. Own work. -/
namespace Pd
open PySem
local macro_rules | `(tactic| walk_at "s") => `(tactic| (repeat (refine Red.red ?_)))
local macro_rules | `(tactic| walk_at "r") => `(tactic| (repeat (first | refine Red.red ?_ | refine Nxt.mk ?_)))
instance {x : D} {xs : List D} {st : Store} {r : Bool → Prop} : Red (inC x (.tup xs) st r) (x.flat = true ∧ xs.all D.flat = true ∧ r (xs.any fun y => D.eqb y x)) := ⟨id⟩
instance {x : D} {xs : List D} {st : Store} {r : Bool → Prop} : Red (notinC x (.tup xs) st r) (x.flat = true ∧ xs.all D.flat = true ∧ r (!xs.any fun y => D.eqb y x)) := ⟨id⟩
/-- a, b = x, y -/
def ParK (i j : Nat) (xs : List D) (σ : Env) (q : Env → Prop) : Prop := ∃ x y, xs = [x, y] ∧ q ((σ.set i (some x)).set j (some y))
instance {i j : Nat} {Ar : TA} {D0 : Ends} {σ : Env} {st : Store} : Red (sPar i j Ar D0 σ st) (Ar σ st fun xs st1 => ParK i j xs σ fun σ' => D0.nx σ' st1) := ⟨id⟩
instance {i j : Nat} {σ σ' σ'' : Env} {x y : D} {q : Env → Prop} [h : SetE σ i (some x) σ'] [h' : SetE σ' j (some y) σ''] : Red (ParK i j [x, y] σ q) (q σ'') := ⟨fun z => ⟨x, y, rfl, by rw [h.eq, h'.eq]; exact z⟩⟩
instance {a b : Bool} {st : Store} {r : Bool → Prop} : Red (eqC (.bl a) (.bl b) st r) (r (a == b)) := ⟨fun h => ⟨rfl, rfl, h⟩⟩
instance {a b : Bool} {st : Store} {r : Bool → Prop} : Red (neC (.bl a) (.bl b) st r) (r (!(a == b))) := ⟨fun h => ⟨rfl, rfl, h⟩⟩
theorem at_is {xs : List D} {i : Int} {d : D} {P : D → Prop} (h : atD xs i = some d) (q : P d) : ∃ d, atD xs i = some d ∧ P d := ⟨d, h, q⟩
theorem zipD_maps {α β : Type} (f : α → D) (g : β → D) : ∀ (xs : List α) (ys : List β), zipD (xs.map f) (ys.map g) = (xs.zip ys).map fun p => D.tup [f p.1, g p.2]
  | [], ys => by cases ys <;> rfl
  | x :: xs, [] => rfl
  | x :: xs, y :: ys => by simp [zipD, zipD_maps f g xs ys]
mutual
theorem eqb_refl : ∀ (n : Nat) (d : D), D.okd n d = true → D.eqb d d = true
  | _, .non, _ => rfl
  | _, .bl b, _ => by simp [D.eqb]
  | _, .int i, _ => by simp [D.eqb]
  | _, .str x, _ => by simp [D.eqb]
  | 0, .tup _, h => by simp [D.okd] at h
  | n + 1, .tup xs, h => by
    have := eqbs_refl n xs (by simpa [D.okd] using h)
    simpa [D.eqb] using this
  | _, .ref _, h => by simp [D.okd] at h
theorem eqbs_refl : ∀ (n : Nat) (ds : List D), okds n ds = true → eqbs ds ds = true
  | _, [], _ => rfl
  | n, d :: ds, h => by
    have h' : D.okd n d = true ∧ okds n ds = true := by simpa [okds] using h
    have h1 := eqb_refl n d h'.1
    have h2 := eqbs_refl n ds h'.2
    simp [eqbs, h1, h2]
end
theorem okds_all (n : Nat) : ∀ ds : List D, okds n ds = ds.all (D.okd n)
  | [] => rfl
  | d :: ds => by simp [okds, okds_all n ds]
theorem ne_self {d : D} {st : Store} {r : Bool → Prop} (h : D.okd 60 d = true) (hr : ∀ n, d ≠ .ref n) (q : r false) : neC d d st r := by
  have e := eqb_refl 60 d h
  have key : eqC d d st fun b => r (!b) := by
    cases d with
    | ref n => exact absurd rfl (hr n)
    | non => exact ⟨h, h, by rw [e]; exact q⟩
    | bl b => exact ⟨h, h, by rw [e]; exact q⟩
    | int b => exact ⟨h, h, by rw [e]; exact q⟩
    | str b => exact ⟨h, h, by rw [e]; exact q⟩
    | tup b => exact ⟨h, h, by rw [e]; exact q⟩
  exact key
/-! dicts -/
theorem put_len (kvs : List (Ky × D)) (k : Ky) (v : D) : (putD kvs k v).length ≤ kvs.length + 1 := by
  unfold putD
  split <;> simp
theorem val_put (kvs : List (Ky × D)) (k j : Ky) (v : D) : valD (putD kvs k v) j = if j = k then some v else valD kvs j := by
  unfold putD
  split
  · rename_i h
    induction kvs with
    | nil => simp at h
    | cons p kvs ih =>
      obtain ⟨a, d⟩ := p
      by_cases e : a = k
      · subst e
        by_cases ej : j = a
        · subst ej; simp [valD]
        · have ej' : ¬ a = j := fun z => ej z.symm
          have rest : ∀ l : List (Ky × D), valD (l.map fun kv => if kv.1 = a then (kv.1, v) else kv) j = valD l j := by
            intro l
            induction l with
            | nil => rfl
            | cons q l ih2 =>
              obtain ⟨b, z⟩ := q
              by_cases eb : b = a
              · subst eb
                simp [valD, ej'] at ih2 ⊢
                exact ih2
              · by_cases ebj : b = j
                · subst ebj; simp [valD, eb]
                · simp [valD, eb, ebj] at ih2 ⊢
                  exact ih2
          rw [if_neg ej]
          exact rest _
      · have h' : (kvs.any fun kv => decide (kv.1 = k)) = true := by simpa [e] using h
        have ih' := ih h'
        by_cases ea : a = j
        · subst ea
          simp [valD, e]
        · simp [valD, e, ea] at ih' ⊢
          exact ih'
  · rename_i h
    have hno : ∀ p ∈ kvs, ¬ p.1 = k := fun p hp e => h (List.any_eq_true.mpr ⟨p, hp, by simp [e]⟩)
    clear h
    induction kvs with
    | nil =>
      by_cases e : j = k
      · subst e; simp [valD]
      · have : ¬ k = j := fun z => e z.symm
        simp [valD, e, this]
    | cons p kvs ih =>
      obtain ⟨a, d⟩ := p
      have hak : ¬ a = k := hno (a, d) List.mem_cons_self
      have ih' := ih fun q hq => hno q (List.mem_cons_of_mem _ hq)
      by_cases ea : a = j
      · subst ea
        rw [if_neg hak]
        simp [valD]
      · simp [valD, ea] at ih' ⊢
        exact ih'
theorem dc_pure {α : Type} {gd : Store → Prop} {g : TG} {tk tv : TE} {ρ : Env} {st : Store} {Q : K} (f : α → D) (kf : α → Ky) (vf : α → D) (hg : ∀ acc, gd (st ++ [.dic acc])) : ∀ (xs : List α) (acc : List (Ky × D)) {items : List D}, items = xs.map f → acc.length + xs.length ≤ szl →
    (∀ x, x ∈ xs → ∀ (acc : List (Ky × D)) (N : D → D → Store → Prop), N (keyD (kf x)) (vf x) (st ++ [.dic acc]) → g (f x) ρ (st ++ [.dic acc]) fun ρ2 st2 => tk ρ2 st2 fun y st4 => tv ρ2 st4 fun z st5 => N y z st5) →
    Q (.ref st.length) (st ++ [.dic (xs.foldl (fun acc x => putD acc (kf x) (vf x)) acc)]) → dcLoop gd g tYes tk tv ρ st.length Q items acc (st ++ [.dic acc])
  | [], acc, items, e, hl, hs, hd => by
    subst e
    exact ⟨hg _, by unfold rdD; simp, hd⟩
  | x :: xs, acc, items, e, hl, hs, hd => by
    subst e
    refine ⟨hg _, ?_⟩
    have e1 : ∀ (R : D → D → Store → Prop), (fun (ρ2 : Env) (st2 : Store) => tYes ρ2 st2 fun b st3 => (b = true → tk ρ2 st3 fun y st4 => tv ρ2 st4 fun z st5 => R y z st5) ∧ (b = false → rdD st3 st.length acc ∧ dcLoop gd g tYes tk tv ρ st.length Q (xs.map f) acc st3)) = fun ρ2 st2 => tk ρ2 st2 fun y st4 => tv ρ2 st4 fun z st5 => R y z st5 := fun R => by
      funext ρ2 st2
      exact propext ⟨fun q => q.1 rfl, fun q => ⟨fun _ => q, fun e => nomatch e⟩⟩
    rw [e1]
    simp only [List.length_cons] at hl
    refine hs x List.mem_cons_self acc _ ⟨kf x, rfl, by unfold rdD; simp, by omega, ?_⟩
    have e2 : (st ++ [C.dic acc]).set st.length (.dic (putD acc (kf x) (vf x))) = st ++ [.dic (putD acc (kf x) (vf x))] := by
      rw [List.set_append_right _ _ (Nat.le_refl _)]; simp
    rw [e2]
    have := put_len acc (kf x) (vf x)
    exact dc_pure f kf vf hg xs _ rfl (by omega) (fun y hy => hs y (List.mem_cons_of_mem _ hy)) hd
section
variable {prog : String → Option Def} {k : Nat} {st : Store} {Q : K}
def pickBody (c : Cl) : TS := sRet (dOp ixK (dVar 1) (dCall c "_law_draw" (aCons (dVar 0) (aCons (dB lenB (aCons (dVar 1) (aNil))) (aNil)))))
theorem pick_ok (hp : prog "_law_pick" = some ⟨2, 2, pickBody⟩) (hp2 : prog "_law_draw" = some ⟨2, 5, drawBody⟩) {n : Nat} {xs : List D} (hd : DrawAt st) (h : rdL st n xs) (hn : n ≠ 2) (h0 : 0 < xs.length) (h1 : xs.length < 1073741824)
    (q : ∀ x st', x ∈ xs → Fra st st' → st'.length = st.length → Q x st') : callN prog (k + 2) "_law_pick" [.ref 2, .ref n] st Q := by
  refine call_intro hp rfl ?_
  unfold pickBody
  walk_at "r"
  refine len_at h ?_
  walk_at "r"
  refine draw_ok hp2 hd (by omega) (by omega) fun r st' r0 r1 f fl => ?_
  obtain ⟨x, hx, _, e⟩ := atD_of (xs := xs) r0 r1
  exact ix_at (f.rd h hn) e (q x st' hx f fl)
theorem pickT_ok (hp : prog "_law_pick" = some ⟨2, 2, pickBody⟩) (hp2 : prog "_law_draw" = some ⟨2, 5, drawBody⟩) {xs : List D} (hd : DrawAt st) (h0 : 0 < xs.length) (h1 : xs.length < 1073741824)
    (q : ∀ x st', x ∈ xs → Fra st st' → st'.length = st.length → Q x st') : callN prog (k + 2) "_law_pick" [.ref 2, .tup xs] st Q := by
  refine call_intro hp rfl ?_
  unfold pickBody
  walk_at "r"
  refine draw_ok hp2 hd (by omega) (by omega) fun r st' r0 r1 f fl => ?_
  obtain ⟨x, hx, _, e⟩ := atD_of (xs := xs) r0 r1
  exact ⟨x, e, q x st' hx f fl⟩
def rareBody (c : Cl) : TS := sRet (dCmp eqC (dCall c "_law_draw" (aCons (dVar 0) (aCons (dVar 1) (aNil)))) (dOp fdivK (dVar 1) (dC (.int 2))))
theorem rareK_ok (hp : prog "_law_rare" = some ⟨2, 2, rareBody⟩) (hp2 : prog "_law_draw" = some ⟨2, 5, drawBody⟩) {many : Int} (h : DrawAt st) (h0 : 0 < many) (h1 : many < 1073741824) (q : ∀ b st', Fra st st' → st'.length = st.length → Q (.bl b) st') : callN prog (k + 2) "_law_rare" [.ref 2, .int many] st Q := by
  refine call_intro hp rfl ?_
  unfold rareBody
  walk_at "r"
  refine draw_ok hp2 h h0 h1 fun r st' r0 r1 f fl => ?_
  walk_at "r"
  refine ⟨⟨by decide, by decide⟩, ?_⟩
  walk_at "r"
  exact q _ _ f fl
def isIntBody (c : Cl) : TS := sRet (dAndT (dIsi .int (dVar 0)) (dNotT (dIsi .bool (dVar 0))))
theorem isInt_ok (hp : prog "_law_is_int" = some ⟨1, 1, isIntBody⟩) {i : Int} (q : Q (.bl true) st) : callN prog (k + 1) "_law_is_int" [.int i] st Q := by
  refine call_intro hp rfl ?_
  unfold isIntBody
  walk_at "r"
  refine wayT rfl ?_
  walk_at "r"
  exact q
def fullI (w : Int) : Int := 2 ^ w.toNat - 1
theorem fullI_bd {w : Int} (h0 : 0 ≤ w) (h1 : w ≤ 8) : 0 ≤ fullI w ∧ fullI w ≤ 255 := by
  have := pw_bd h0 h1
  unfold fullI
  omega
theorem cmul_small {a b : Int} (h0 : 0 ≤ b) (h1 : b ≤ 1000000) : cMul a b := .inr ⟨by omega, by omega⟩
theorem cpow_small {w : Int} (h0 : 0 ≤ w) (h1 : w ≤ 1000) : cPow 1 w := ⟨h0, by omega, by decide⟩
def greatestBody (c : Cl) : TS := sRet (dOp subK (dOp shlK (dC (.int 1)) (dVar 0)) (dC (.int 1)))
theorem greatest_ok (hp : prog "greatest" = some ⟨1, 1, greatestBody⟩) {w : Int} (h0 : 0 ≤ w) (h1 : w ≤ 8) (q : Q (.int (fullI w)) st) : callN prog (k + 1) "greatest" [.int w] st Q := by
  refine call_intro hp rfl ?_
  unfold greatestBody
  walk_at "r"
  refine ⟨cpow_small h0 (by omega), ?_⟩
  walk_at "r"
  rw [Int.one_mul]
  exact q
/-- the first place of n at which P holds -/
def Fnd (P : Nat → Prop) (n : Nat) : Option Nat → Prop
  | some t => t < n ∧ P t ∧ ∀ u, u < t → ¬ P u
  | none => ∀ u, u < n → ¬ P u
theorem Fnd.uniq {P : Nat → Prop} {n : Nat} : ∀ {r r' : Option Nat}, Fnd P n r → Fnd P n r' → r = r'
  | none, none, _, _ => rfl
  | some t, none, h, h' => absurd h.2.1 (h' t h.1)
  | none, some t, h, h' => absurd h'.2.1 (h t h'.1)
  | some t, some t', h, h' => by
    rcases Nat.lt_trichotomy t t' with e | e | e
    · exact absurd h.2.1 (h'.2.2 t e)
    · rw [e]
    · exact absurd h'.2.1 (h.2.2 t' e)
def optD : Option Nat → D
  | some t => .int t
  | none => .non
/-- cells are as they were, but the drawer and p -/
structure FraE (p : Nat) (st st' : Store) : Prop where
  dr : DrawAt st'
  le : st.length ≤ st'.length
  at' : ∀ n, n < st.length → n ≠ 2 → n ≠ p → st'[n]? = st[n]?
theorem FraE.rd {p : Nat} {st st' : Store} (f : FraE p st st') {n : Nat} {xs : List D} (h : rdL st n xs) (ne : n ≠ 2) (ne' : n ≠ p) : rdL st' n xs := by
  unfold rdL at *
  rw [f.at' n (rdL_lt h) ne ne']; exact h
theorem FraE.of {p : Nat} {st st' : Store} (f : Fra st st') : FraE p st st' := ⟨f.dr, f.le, fun n h1 h2 _ => f.at' n h1 h2⟩
theorem FraE.trans {p : Nat} {a b c : Store} (h : FraE p a b) (h' : FraE p b c) : FraE p a c := ⟨h'.dr, Nat.le_trans h.le h'.le, fun n hn ne ne' => (h'.at' n (Nat.lt_of_lt_of_le hn h.le) ne ne').trans (h.at' n hn ne ne')⟩
theorem FraE.setP {p : Nat} {st st' : Store} {c : C} (f : FraE p st st') (h2 : 2 < p) : FraE p st (st'.set p c) := ⟨f.dr.set h2, by simp; exact f.le, fun m hm ne ne' => by
  rw [List.getElem?_set_ne (Ne.symm ne')]; exact f.at' m hm ne ne'⟩
theorem FraE.fra {p : Nat} {st st' : Store} (f : FraE p st st') (h : st.length ≤ p) : Fra st st' := ⟨f.dr, f.le, fun n hn ne => f.at' n hn ne (by omega)⟩
theorem FraE.setN {p : Nat} {st st' : Store} {n : Nat} {c : C} (f : FraE p st st') (hn : st.length ≤ n) (h2 : 2 < n) : FraE p st (st'.set n c) := ⟨f.dr.set h2, by simp; exact f.le, fun m hm ne ne' => by
  rw [List.getElem?_set_ne (by omega)]; exact f.at' m hm ne ne'⟩
/-- cells of before are as they were; the new ones, g among them, as they come -/
structure FraG (g : Nat) (st st' : Store) : Prop where
  big : st.length ≤ g
  at' : ∀ n, n < st.length → st'[n]? = st[n]?
  le : st.length ≤ st'.length
theorem FraG.new {st : Store} {c : C} : FraG st.length st (st ++ [c]) := ⟨Nat.le_refl _, fun n h => List.getElem?_append_left h, by simp⟩
theorem FraG.refl {st : Store} {g : Nat} (h : st.length ≤ g) : FraG g st st := ⟨h, fun _ _ => rfl, Nat.le_refl _⟩
theorem FraG.rd {g : Nat} {st st' : Store} (f : FraG g st st') {n : Nat} {xs : List D} (h : rdL st n xs) (hn : n < st.length) : rdL st' n xs := by
  unfold rdL at *
  rw [f.at' n hn]; exact h
theorem FraG.app {g : Nat} {st st' : Store} {c : C} (f : FraG g st st') : FraG g st (st' ++ [c]) := ⟨f.big, fun n h => by rw [List.getElem?_append_left (Nat.lt_of_lt_of_le h f.le)]; exact f.at' n h, by simp; have := f.le; omega⟩
theorem FraG.setG {g : Nat} {st st' : Store} {c : C} (f : FraG g st st') : FraG g st (st'.set g c) := ⟨f.big, fun n h => by
  have := f.big
  rw [List.getElem?_set_ne (by omega)]; exact f.at' n h, by simp; exact f.le⟩
theorem FraG.setN {g n : Nat} {st st' : Store} {c : C} (f : FraG g st st') (hn : st.length ≤ n) : FraG g st (st'.set n c) := ⟨f.big, fun m h => by
  rw [List.getElem?_set_ne (by omega)]; exact f.at' m h, by simp; exact f.le⟩
theorem FraG.grw {g : Nat} {st st' : Store} (f : FraG g st st') : Grw st st' := by
  refine ⟨st'.drop st.length, ?_⟩
  apply List.ext_getElem?
  intro n
  by_cases h : n < st.length
  · rw [f.at' n h, List.getElem?_append_left h]
  · rw [List.getElem?_append_right (by omega), List.getElem?_drop, show st.length + (n - st.length) = n by omega]
theorem FraG.more {g : Nat} {st st' st2 : Store} (f : FraG g st st') (h : Grw st' st2) : FraG g st st2 := by
  obtain ⟨m, rfl⟩ := h
  exact ⟨f.big, fun n h => by rw [List.getElem?_append_left (Nat.lt_of_lt_of_le h f.le)]; exact f.at' n h, by simp; have := f.le; omega⟩
/-- the element adds cells alone: the new list is the map -/
theorem lc_mapG {α : Type} {gd : Store → Prop} {g : TG} {te : TE} {ρ : Env} (xs : List α) (f h : α → D) {items : List D} (hi : items = xs.map f) (hl : xs.length ≤ szl) (hg : ∀ st', FraG st.length st st' → gd st')
    (hs : ∀ x, x ∈ xs → ∀ (st1 : Store) (N : D → Store → Prop), FraG st.length st st1 → (∀ st2, Grw st1 st2 → N (h x) st2) → g (f x) ρ st1 fun ρ2 st2 => te ρ2 st2 N)
    (hd : ∀ st', FraG st.length st st' → rdL st' st.length (xs.map h) → Q (.ref st.length) st') : lcLoop gd g tYes te ρ st.length Q items [] (st ++ [.lst []]) := by
  subst hi
  refine lc_by (fun pre acc st' => acc = (xs.take pre.length).map h ∧ FraG st.length st st' ∧ rdL st' st.length acc) ⟨rfl, FraG.new, rdL_new⟩ (fun pre x post acc st' e ⟨h1, h5, h6⟩ N M hN hM => ?_) (fun acc st' ⟨h1, h5, h6⟩ => ?_)
  · refine ⟨hg _ h5, ?_⟩
    have e1 : (fun (ρ2 : Env) (st2 : Store) => tYes ρ2 st2 fun b st3 => (b = true → te ρ2 st3 N) ∧ (b = false → M st3)) = fun ρ2 st2 => te ρ2 st2 N := by
      funext ρ2 st2
      exact propext ⟨fun q => q.1 rfl, fun q => ⟨fun _ => q, fun e => nomatch e⟩⟩
    rw [e1]
    have hlen := congrArg List.length e
    simp at hlen
    have hx : (xs.map f)[pre.length]? = some x := by rw [e]; simp
    rw [List.getElem?_map] at hx
    cases hy : xs[pre.length]? with
    | none => rw [hy] at hx; cases hx
    | some y =>
      rw [hy] at hx
      cases hx
      refine hs y (List.mem_of_getElem? hy) st' _ h5 fun st2 gr => ?_
      have h7 := gr.rd h6
      refine hN _ _ h7 (by rw [h1]; simp; omega) ⟨?_, (h5.more gr).setG, rdL_set h7⟩
      rw [List.length_append]
      show _ = (xs.take (pre.length + 1)).map h
      rw [List.take_add_one, hy, List.map_append, h1]; rfl
  · rw [List.length_map, List.take_length] at h1
    subst h1
    exact ⟨hg _ h5, h6, hd st' h5 h6⟩
def popBody (c : Cl) : TS := sRet (dM tyLst popM (dVar 1) (aCons (dCall c "_law_draw" (aCons (dVar 0) (aCons (dB lenB (aCons (dVar 1) (aNil))) (aNil)))) (aNil)))
theorem pop_ok (hp : prog "_law_pop" = some ⟨2, 2, popBody⟩) (hp2 : prog "_law_draw" = some ⟨2, 5, drawBody⟩) {n : Nat} {xs : List D} (hd : DrawAt st) (h : rdL st n xs) (hn : 2 < n) (h0 : 0 < xs.length) (h1 : xs.length < 1073741824)
    (q : ∀ (i : Nat) x st', xs[i]? = some x → FraE n st st' → rdL st' n (xs.eraseIdx i) → st'.length = st.length → Q x st') : callN prog (k + 2) "_law_pop" [.ref 2, .ref n] st Q := by
  refine call_intro hp rfl ?_
  unfold popBody
  walk_at "r"
  refine ⟨ty_at h, ?_⟩
  walk_at "r"
  refine len_at h ?_
  walk_at "r"
  refine draw_ok hp2 hd (by omega) (by omega) fun r st' r0 r1 f fl => ?_
  walk_at "r"
  obtain ⟨x, hx, e', e⟩ := atD_of (xs := xs) r0 r1
  have h' := f.rd h (by omega)
  exact ⟨xs, x, h', ⟨r0, by omega⟩, e, q r.toNat x _ e' ((FraE.of f).setP hn) (rdL_set h') (by simp [fl])⟩

def shuffledBody (c : Cl) : TS := sSeq (sAsg (dB listB (aCons (dVar 1) (aNil))) (gName 2)) (sSeq (sAsg (dLst (aNil)) (gName 3)) (sSeq (sFor (iR1 (dB lenB (aCons (dVar 2) (aNil)))) (gName 4) (sExpr (dM tyLst appendM (dVar 3) (aCons (dM tyLst popM (dVar 2) (aCons (dCall c "_law_draw" (aCons (dVar 0) (aCons (dB lenB (aCons (dVar 2) (aNil))) (aNil)))) (aNil))) (aNil))))) (sRet (dVar 3))))
theorem perm_erase {α : Type} {x : α} : ∀ {l : List α} {i : Nat}, l[i]? = some x → (x :: l.eraseIdx i).Perm l
  | [], _, h => by simp at h
  | a :: l, 0, h => by simp at h; subst h; exact List.Perm.refl _
  | a :: l, i + 1, h => (List.Perm.swap a x _).trans ((perm_erase (l := l) (i := i) (by simpa using h)).cons a)
theorem shuffled_ok (hp : prog "_law_shuffled" = some ⟨2, 5, shuffledBody⟩) (hp2 : prog "_law_draw" = some ⟨2, 5, drawBody⟩) {n : Nat} {xs : List D} (hd : DrawAt st) (h : rdL st n xs) (hn : 2 < n) (h1 : xs.length < 1000000)
    (q : ∀ fn ys st', ys.Perm xs → st.length ≤ fn → rdL st' fn ys → Fra st st' → Q (.ref fn) st') : callN prog (k + 2) "_law_shuffled" [.ref 2, .ref n] st Q := by
  refine call_intro hp rfl ?_
  unfold shuffledBody
  have d2 := hd.lt
  walk_at "r"
  refine list_at h ?_
  walk_at "r"
  refine ⟨by show 0 ≤ szl; decide, ?_⟩
  walk_at "r"
  refine len_at (rdL_app rdL_new) ?_
  walk_at "r"
  refine ⟨by omega, by omega, ?_⟩
  have l1 : st.length < (st ++ [C.lst xs]).length := by simp
  have f0 := ((Fra.refl hd).app (c := C.lst xs)).app (c := C.lst [])
  have hf0 := rdL_new (st := st ++ [C.lst xs]) (xs := [])
  have hl0 : rdL (st ++ [C.lst xs] ++ [C.lst []]) st.length xs := rdL_app rdL_new
  generalize (st ++ [C.lst xs]).length = fn at l1 hf0 ⊢
  generalize (st ++ [C.lst xs] ++ [C.lst []]) = st1 at f0 hf0 hl0 ⊢
  refine for_rng (fun j σ st' => ∃ y4 ls fs, σ = [some (.ref 2), some (.ref n), some (.ref st.length), some (.ref fn), y4] ∧ rdL st' st.length ls ∧ rdL st' fn fs ∧ (fs ++ ls).Perm xs ∧ fs.length = j ∧ Fra st st') ⟨none, xs, [], rfl, hl0, hf0, List.Perm.refl _, rfl, f0⟩ (fun j σ st' hj ⟨y4, ls, fs, e, hls, hfs, pm, hfl, f⟩ N hN => ?_) (fun σ st' ⟨y4, ls, fs, e, hls, hfs, pm, hfl, f⟩ => ?_)
  · subst e
    have hpl := pm.length_eq
    rw [List.length_append] at hpl
    refine ⟨trivial, ?_⟩
    walk_at "r"
    refine ⟨ty_at hfs, ?_⟩
    walk_at "r"
    refine ⟨ty_at hls, ?_⟩
    walk_at "r"
    refine len_at hls ?_
    walk_at "r"
    refine draw_ok hp2 f.dr (by omega) (by omega) fun r st2 r0 r1 f2 l2 => ?_
    walk_at "r"
    obtain ⟨x, hx, e', e⟩ := atD_of (xs := ls) r0 r1
    have hls2 := f2.rd hls (by omega)
    have hfs2 := f2.rd hfs (by omega)
    refine ⟨ls, x, hls2, ⟨r0, by omega⟩, e, ?_⟩
    walk_at "r"
    have hfs3 : rdL (st2.set st.length (.lst (ls.eraseIdx r.toNat))) fn fs := rdL_ne hfs2 (by omega)
    refine append_at hfs3 (by unfold szl; omega) ?_
    refine hN _ _ ⟨_, ls.eraseIdx r.toNat, fs ++ [x], rfl, rdL_ne (rdL_set hls2) (by omega), rdL_set hfs3, ?_, by simp [hfl], ((f.trans f2).set (Nat.le_refl _) d2).set (by omega) (by omega)⟩
    rw [List.append_assoc]
    exact ((perm_erase e').append_left fs).trans pm
  · subst e
    refine ⟨trivial, ?_⟩
    walk_at "r"
    have hpl := pm.length_eq
    rw [List.length_append] at hpl
    have hl : ls = [] := List.eq_nil_of_length_eq_zero (by omega)
    subst hl
    rw [List.append_nil] at pm
    exact q fn fs st' pm (by omega) hfs f
theorem and_maskZ (x : Int) (n : Nat) : Builtin.bitAnd x (2 ^ n - 1) = x % 2 ^ n := by
  by_cases hx : 0 ≤ x
  · exact and_mask hx
  · have hm : (0 : Int) ≤ 2 ^ n - 1 := by have := pow2_pos n; omega
    unfold Builtin.bitAnd
    simp only [hx, hm, decide_true, decide_false]
    unfold Builtin.bitNot
    have e1 : (2 ^ n - 1 : Int).toNat = 2 ^ n - 1 := by
      have : (2 ^ n : Int) = ((2 ^ n : Nat) : Int) := by simp
      rw [this]
      have := Nat.two_pow_pos n
      omega
    obtain ⟨m, hm2⟩ : ∃ m : Nat, (-x - 1).toNat = m := ⟨_, rfl⟩
    have hx2 : x = -(m : Int) - 1 := by omega
    rw [hm2, e1, Nat.and_comm, Nat.and_two_pow_sub_one_eq_mod, hx2]
    have hp := pow2_pos n
    have c : ((2 : Int) ^ n) = ((2 ^ n : Nat) : Int) := by simp
    have h1 := Nat.div_add_mod m (2 ^ n)
    have h2 := Nat.mod_lt m (Nat.two_pow_pos n)
    have h3 : -(m : Int) - 1 = ((2 : Int) ^ n - 1 - ((m % 2 ^ n : Nat) : Int)) + 2 ^ n * (-((m / 2 ^ n : Nat) : Int) - 1) := by
      have h4 : (m : Int) = 2 ^ n * ((m / 2 ^ n : Nat) : Int) + ((m % 2 ^ n : Nat) : Int) := by
        rw [c, ← Int.natCast_mul, ← Int.natCast_add, h1]
      rw [Int.mul_sub, Int.mul_neg, Int.mul_one]
      omega
    rw [h3, Int.add_mul_emod_self_left, Int.emod_eq_of_lt (by omega) (by omega)]

/-- a for over known items, by the place -/
theorem for_map {α : Type} {gd : Store → Prop} {g : TG} {tb : TS} {D0 : Ends} {σ : Env} (xs : List α) (f : α → D) {items : List D} (hi : items = xs.map f) (Pv : Nat → Env → Store → Prop) (h0 : Pv 0 σ st)
    (hs : ∀ j x σ st, xs[j]? = some x → Pv j σ st → ∀ N : Env → Store → Prop, (∀ σ st, Pv (j + 1) σ st → N σ st) → gd st ∧ g (f x) σ st fun σ2 st2 => tb { D0 with nx := N, ct := N, bk := D0.nx } σ2 st2)
    (hd : ∀ σ st, Pv xs.length σ st → gd st ∧ D0.nx σ st) : forLoop gd g tb D0 items σ st := by
  subst hi
  refine for_by (fun pre σ st => Pv pre.length σ st) h0 (fun pre x post σ st e h N hN => ?_) (fun σ st h => hd σ st (by simpa using h))
  have hx : (xs.map f)[pre.length]? = some x := by rw [e]; simp
  rw [List.getElem?_map] at hx
  cases hy : xs[pre.length]? with
  | none => rw [hy] at hx; cases hx
  | some y =>
    rw [hy] at hx
    cases hx
    exact hs pre.length y σ st hy h N fun σ st h' => hN σ st (by simpa using h')
theorem lc_two {α β : Type} {gd : Store → Prop} {g : TG} {te : TE} {ρ : Env} (xs : List α) (f : α → D) (f' : β → D) (P : α → β → Prop) {items : List D} (hi : items = xs.map f) (hd : DrawAt st) (hl : xs.length ≤ szl) (hg : ∀ st', Fra st st' → gd st')
    (hs : ∀ x ∈ xs, ∀ st', Fra st st' → ∀ N : D → Store → Prop, (∀ y st2, P x y → Fra st' st2 → N (f' y) st2) → g (f x) ρ st' fun ρ2 st2 => te ρ2 st2 N)
    (hQ : ∀ (ys : List β) st', Two P xs ys → Fra st st' → rdL st' st.length (ys.map f') → Q (.ref st.length) st') : lcLoop gd g tYes te ρ st.length Q items [] (st ++ [.lst []]) := by
  subst hi
  have key : ∀ {as : List α} {zs : List D}, Two (fun a z => ∃ b, z = f' b ∧ P a b) as zs → ∃ bs : List β, zs = bs.map f' ∧ Two P as bs := by
    intro as zs h
    induction h with
    | nil => exact ⟨[], rfl, .nil⟩
    | cons p _ ih =>
      obtain ⟨b, h1, h2⟩ := p
      obtain ⟨bs, h3, h4⟩ := ih
      exact ⟨b :: bs, by rw [h1, h3]; rfl, .cons h2 h4⟩
  have h2 := hd.lt
  refine lc_by (fun pre acc st' => Two (fun a z => ∃ b, z = f' b ∧ P a b) (xs.take pre.length) acc ∧ Fra st st' ∧ rdL st' st.length acc) ⟨.nil, (Fra.refl hd).app, rdL_new⟩ (fun pre x post acc st' e ⟨h1, h5, h6⟩ N M hN hM => ?_) (fun acc st' ⟨h1, h5, h6⟩ => ?_)
  · refine ⟨hg _ h5, ?_⟩
    have e1 : (fun (ρ2 : Env) (st2 : Store) => tYes ρ2 st2 fun b st3 => (b = true → te ρ2 st3 N) ∧ (b = false → M st3)) = fun ρ2 st2 => te ρ2 st2 N := by
      funext ρ2 st2
      exact propext ⟨fun q => q.1 rfl, fun q => ⟨fun _ => q, fun e => nomatch e⟩⟩
    rw [e1]
    have hlen := congrArg List.length e
    simp at hlen
    have hx : (xs.map f)[pre.length]? = some x := by rw [e]; simp
    rw [List.getElem?_map] at hx
    cases hy : xs[pre.length]? with
    | none => rw [hy] at hx; cases hx
    | some y =>
      rw [hy] at hx
      cases hx
      refine hs y (List.mem_of_getElem? hy) st' h5 N fun z st2 hr fr => ?_
      have h7 := fr.rd h6 (by omega)
      have hal := h1.length
      rw [List.length_take] at hal
      refine hN _ _ h7 (by omega) ⟨?_, (h5.trans fr).set (Nat.le_refl _) (by omega), rdL_set h7⟩
      rw [List.length_append]
      show Two _ (xs.take (pre.length + 1)) _
      rw [List.take_add_one, hy]
      exact h1.snoc ⟨z, rfl, hr⟩
  · rw [List.length_map, List.take_length] at h1
    obtain ⟨bs, rfl, h8⟩ := key h1
    exact ⟨hg _ h5, h6, hQ bs st' h8 h5 h6⟩
end
end Pd
end PartPdKit

section PartPdk02B
set_option linter.all false
set_option maxRecDepth 100000
namespace Pk02
open PySem Pd
def k_LEAST : D := .tup [.int 1, .int 1, .int 0, .int 0]
def k_GREATEST : D := .tup [.int 32, .int 8, .int 8, .int 12]
def k_BOUNDS : D := .tup [.int 24, .int 4, .int 4, .int 8]
def b_cb : TS := sSeq (sIf (tOr (tNot (tTru (dIsi .tuple (dVar 0)))) (tTru (dCmp neC (dB lenB (aCons (dVar 0) (aNil))) (dC (.int 4))))) (sRaise0 "BadBounds") (sNext)) (sFor (iZip3T (dVar 0) (dC k_LEAST) (dC k_GREATEST)) (gTup (gsCons (gName 1) (gsCons (gName 2) (gsCons (gName 3) (gsNil)))) 3) (sIf (tOr (tNot (tTru (dIsi .int (dVar 1)))) (tOr (tTru (dIsi .bool (dVar 1))) (tNot (tTru (dChain leC leC (dVar 2) (dVar 1) (dVar 3)))))) (sRaise0 "BadBounds") (sNext)))
def c_cb : List D → Store → K → Prop := fun ds st Q => ds.length = 1 ∧ runX b_cb { nx := fun _ _ => False, rt := Q } (start 4 ds) st
def cX1 : Cl := fun _ => c_cb
def b_cw : TS := sSeq (sExprX cX1 "check_bounds" (aCons (dVar 2) (aNil))) sNever
def c_cw : List D → Store → K → Prop := fun ds st Q => ds.length = 3 ∧ runX b_cw { nx := fun _ _ => False, rt := Q } (start 3 ds) st
def cX2 : Cl := fun _ => c_cw
def b_cs : TS := sSeq (sExprX cX2 "check_wide" (aCons (dVar 0) (aCons (dVar 1) (aCons (dVar 3) (aNil))))) sNever
def c_cs : List D → Store → K → Prop := fun ds st Q => ds.length = 4 ∧ runX b_cs { nx := fun _ _ => False, rt := Q } (start 4 ds) st
def cX3 : Cl := fun _ => c_cs
def b_rt : TS := sSeq (sExprX cX3 "check_start" (aCons (dVar 0) (aCons (dVar 1) (aCons (dVar 2) (aCons (dVar 4) (aNil)))))) sNever
def c_rt : List D → Store → K → Prop := fun ds st Q => ds.length = 5 ∧ runX b_rt { nx := fun _ _ => False, rt := Q } (start 5 ds) st
def cX4 : Cl := fun _ => c_rt
def b_l_begin (c : Cl) : TS := sRet (dLst (aCons (dLc (iSeq (dVar 0)) (gName 1) (tYes) (dB intB (aCons (dVar 1) (aNil))) [1]) (aCons (dC (.int 0)) (aCons (dC (.int 0)) (aCons (dC (.int 7)) (aCons (dC (.int 2)) (aNil)))))))
def b_l_draw (c : Cl) : TS := sSeq (sIf (tTru (dCmp gtC (dOp ixK (dVar 0) (dC (.int 2))) (dC (.int 0)))) (sSeq (sAsg (dOp ixK (dVar 0) (dC (.int 2))) (gName 2)) (sSeq (sAsg (dOp fdivK (dVar 2) (dVar 1)) (gSub (dVar 0) (dC (.int 2)))) (sRet (dOp modK (dB intB (aCons (dVar 2) (aNil))) (dVar 1))))) (sNext)) (sSeq (sAsg (dC (.int 0)) (gName 3)) (sSeq (sIf (tTru (dCmp ltC (dOp ixK (dVar 0) (dC (.int 1))) (dB lenB (aCons (dOp ixK (dVar 0) (dC (.int 0))) (aNil))))) (sSeq (sAsg (dOp ixK (dOp ixK (dVar 0) (dC (.int 0))) (dOp ixK (dVar 0) (dC (.int 1)))) (gName 4)) (sAsg (dOp addK (dOp mulK (dC (.int 2)) (dB absB (aCons (dVar 4) (aNil)))) (dB intB (aCons (dCmp ltC (dVar 4) (dC (.int 0))) (aNil)))) (gName 3))) (sNext)) (sSeq (sAugL iaddK (dVar 0) (dC (.int 1)) (dC (.int 1))) (sSeq (sIf (tTru (dCmp geC (dVar 3) (dOp mulK (dC (.int 2)) (dOp powK (dC (.int 10)) (dC (.int 18)))))) (sSeq (sAsg (dOp modK (dB intB (aCons (dOp fdivK (dVar 3) (dC (.int 2))) (aNil))) (dOp shlK (dC (.int 1)) (dC (.int 6000)))) (gName 2)) (sSeq (sAsg (dOp fdivK (dVar 2) (dVar 1)) (gSub (dVar 0) (dC (.int 2)))) (sRet (dOp modK (dB intB (aCons (dVar 2) (aNil))) (dVar 1))))) (sNext)) (sSeq (sAsg (dOp modK (dB intB (aCons (dOp addK (dOp addK (dOp addK (dOp mulK (dOp ixK (dVar 0) (dC (.int 3))) (dC (.int 48271))) (dOp mulK (dOp modK (dB intB (aCons (dVar 3) (aNil))) (dC (.int 2147483629))) (dC (.int 16807)))) (dOp mulK (dOp ixK (dVar 0) (dC (.int 1))) (dC (.int 69621)))) (dC (.int 11))) (aNil))) (dC (.int 2147483647))) (gSub (dVar 0) (dC (.int 3)))) (sRet (dOp modK (dB intB (aCons (dOp fdivK (dOp ixK (dVar 0) (dC (.int 3))) (dC (.int 16))) (aNil))) (dVar 1))))))))
def b_l_pick (c : Cl) : TS := sRet (dOp ixK (dVar 1) (dCall c "_law_draw" (aCons (dVar 0) (aCons (dB lenB (aCons (dVar 1) (aNil))) (aNil)))))
def b_l_right (c : Cl) : TS := sSeq (sAsg (dLst (aCons (dC (.int 1)) (aCons (dC (.int 1)) (aCons (dC (.int 0)) (aCons (dC (.int 0)) (aNil)))))) (gName 1)) (sSeq (sAsg (dLst (aCons (dC (.int 32)) (aCons (dC (.int 8)) (aCons (dC (.int 8)) (aCons (dC (.int 12)) (aNil)))))) (gName 2)) (sSeq (sAsg (dLst (aNil)) (gName 3)) (sSeq (sFor (iZip2 (dVar 1) (dVar 2)) (gTup (gsCons (gName 4) (gsCons (gName 5) (gsNil))) 2) (sSeq (sAsg (dCall c "_law_draw" (aCons (dVar 0) (aCons (dC (.int 4)) (aNil)))) (gName 6)) (sExpr (dM tyLst appendM (dVar 3) (aCons (dIf (tTru (dCmp eqC (dVar 6) (dC (.int 0)))) (dVar 4) (dIf (tTru (dCmp eqC (dVar 6) (dC (.int 1)))) (dVar 5) (dOp addK (dVar 4) (dCall c "_law_draw" (aCons (dVar 0) (aCons (dOp addK (dOp subK (dVar 5) (dVar 4)) (dC (.int 1))) (aNil))))))) (aNil)))))) (sRet (dB tupleB (aCons (dVar 3) (aNil)))))))
def b_l_spoilt (c : Cl) : TS := sSeq (sAsg (dLst (aCons (dC (.int 1)) (aCons (dC (.int 1)) (aCons (dC (.int 0)) (aCons (dC (.int 0)) (aNil)))))) (gName 2)) (sSeq (sAsg (dLst (aCons (dC (.int 32)) (aCons (dC (.int 8)) (aCons (dC (.int 8)) (aCons (dC (.int 12)) (aNil)))))) (gName 3)) (sSeq (sAsg (dCall c "_law_draw" (aCons (dVar 0) (aCons (dC (.int 13)) (aNil)))) (gName 4)) (sSeq (sIf (tTru (dCmp eqC (dVar 4) (dC (.int 0)))) (sRet (dSl (dVar 1) (oNone) (oSome (dC (.int 3))))) (sNext)) (sSeq (sIf (tTru (dCmp eqC (dVar 4) (dC (.int 1)))) (sRet (dOp addK (dVar 1) (dTup (aCons (dC (.int 1)) (aNil))))) (sNext)) (sSeq (sIf (tTru (dCmp eqC (dVar 4) (dC (.int 2)))) (sRet (dB listB (aCons (dVar 1) (aNil)))) (sNext)) (sSeq (sIf (tTru (dCmp eqC (dVar 4) (dC (.int 3)))) (sRet (dCall c "_law_pick" (aCons (dVar 0) (aCons (dLst (aCons (dC .non) (aCons (dC (.str "bounds")) (aCons (dC (.int 5)) (aCons (dTup (aNil)) (aNil)))))) (aNil))))) (sNext)) (sSeq (sAsg (dCall c "_law_draw" (aCons (dVar 0) (aCons (dC (.int 4)) (aNil)))) (gName 5)) (sSeq (sAsg (dOp ixK (dLst (aCons (dOp subK (dOp ixK (dVar 2) (dVar 5)) (dC (.int 1))) (aCons (dOp addK (dOp ixK (dVar 3) (dVar 5)) (dC (.int 1))) (aCons (dOp subK (dUn negK (dC (.int 7))) (dCall c "_law_draw" (aCons (dVar 0) (aCons (dC (.int 90)) (aNil))))) (aCons (dOp addK (dC (.int 100)) (dCall c "_law_draw" (aCons (dVar 0) (aCons (dC (.int 90)) (aNil))))) (aCons (dC .non) (aCons (dC (.bl true)) (aCons (dC (.bl false)) (aCons (dC (.str "4")) (aCons (dTup (aCons (dC (.int 1)) (aNil))) (aNil))))))))))) (dOp subK (dVar 4) (dC (.int 4)))) (gName 6)) (sRet (dOp addK (dOp addK (dSl (dVar 1) (oNone) (oSome (dVar 5))) (dTup (aCons (dVar 6) (aNil)))) (dSl (dVar 1) (oSome (dOp addK (dVar 5) (dC (.int 1)))) (oNone))))))))))))
def b_l_refused : TS := sSeq (sTryE cX1 "check_bounds" (aCons (dVar 0) (aNil)) "BadBounds" (hTry 1 (sRet (dC (.bl true))))) (sRet (dC (.bl false)))
def c_ref : List D → Store → K → Prop := fun ds st Q => (⟨1, 2, fun _ => b_l_refused⟩ : Def).run (fun _ _ _ _ => False) ds st Q
def b_l_run_refused : TS := sSeq (sTryE cX4 "run_tree" (aCons (dVar 0) (aCons (dC (.str "f")) (aCons (dVar 1) (aCons (dTup (aNil)) (aCons (dVar 2) (aNil)))))) "BadBounds" (hTry 3 (sRet (dC (.bl true))))) (sRet (dC (.bl false)))
def c_rref : List D → Store → K → Prop := fun ds st Q => (⟨3, 4, fun _ => b_l_run_refused⟩ : Def).run (fun _ _ _ _ => False) ds st Q
def cR : Cl
  | "_law_refused" => c_ref
  | _ => c_rref
def b_l_law (c : Cl) : TS := sSeq (sAsg (dCall c "_law_begin" (aCons (dVar 0) (aNil))) (gName 1)) (sSeq (sAsg (dCall c "_law_right" (aCons (dVar 1) (aNil))) (gName 2)) (sSeq (sIf (tOr (tTru (dCmp isntC (dCallN cX1 "check_bounds" (aCons (dVar 2) (aNil))) (dC .non))) (tOr (tTru (dCmp neC (dC k_BOUNDS) (dTup (aCons (dC (.int 24)) (aCons (dC (.int 4)) (aCons (dC (.int 4)) (aCons (dC (.int 8)) (aNil)))))))) (tTru (dCmp isntC (dCallN cX1 "check_bounds" (aCons (dC k_BOUNDS) (aNil))) (dC .non))))) (sRet (dC (.bl false))) (sNext)) (sSeq (sAsg (dCall c "_law_spoilt" (aCons (dVar 1) (aCons (dVar 2) (aNil)))) (gName 3)) (sSeq (sAsg (dTup (aCons (dTup (aCons (dC (.str "function")) (aCons (dC (.str "f")) (aCons (dTup (aCons (dTup (aCons (dC (.str "x")) (aCons (dC (.int 2)) (aNil)))) (aNil))) (aCons (dC (.int 2)) (aCons (dC (.int 1)) (aCons (dTup (aNil)) (aCons (dTup (aCons (dTup (aCons (dC (.str "return")) (aCons (dTup (aCons (dC (.str "name")) (aCons (dC (.str "x")) (aNil)))) (aNil)))) (aNil))) (aNil))))))))) (aNil))) (gName 4)) (sSeq (sAsg (dCall c "_law_pick" (aCons (dVar 1) (aCons (dLst (aCons (dTup (aCons (dC (.int 3)) (aNil))) (aCons (dTup (aCons (dC (.int 4)) (aNil))) (aCons (dTup (aNil)) (aCons (dTup (aCons (dC (.int 1)) (aCons (dC (.int 1)) (aNil)))) (aNil)))))) (aNil)))) (gName 5)) (sRet (dAndT (dCall cR "_law_refused" (aCons (dVar 3) (aNil))) (dCall cR "_law_run_refused" (aCons (dVar 4) (aCons (dVar 5) (aCons (dVar 3) (aNil))))))))))))
def prog : String → Option Def
  | "_law_begin" => some ⟨1, 2, b_l_begin⟩
  | "_law_draw" => some ⟨2, 5, b_l_draw⟩
  | "_law_pick" => some ⟨2, 2, b_l_pick⟩
  | "_law_right" => some ⟨1, 7, b_l_right⟩
  | "_law_spoilt" => some ⟨2, 7, b_l_spoilt⟩
  | "law" => some ⟨1, 6, b_l_law⟩
  | _ => none
end Pk02
end PartPdk02B

section PartPdk02L
set_option Elab.async false
set_option linter.all false
set_option maxRecDepth 100000
set_option maxHeartbeats 4000000
namespace Pk02
open PySem PySem.Spec Pd
open PyProof.Rows (envOfC)
def topS (i : Nat) : Stmt := PySem.Challenge.pw_metorshut_k02_bounds_checked.main.body.getD i (.Pass ⟨0, 0, 0, 0⟩)
abbrev names : List String := ["_law_begin", "_law_draw", "_law_pick", "_law_right", "_law_spoilt"]
abbrev snames : List (String × Nat) := []
abbrev blts : List String := ["abs", "bool", "int", "isinstance", "len", "list", "tuple", "zip"]
abbrev sp_check_bounds : Stmt := topS 12
abbrev np_check_bounds : List Str := ["bounds", "value", "low", "high"]
theorem scp_check_bounds : L2.FnScope np_check_bounds ["bounds"] (L2.defScope sp_check_bounds) := ⟨rfl, rfl, rfl, by decide +kernel, rfl, by decide +kernel, by decide +kernel⟩
abbrev sl_begin : Stmt := topS 57
abbrev nl_begin : List Str := ["_law_script", "_law_cell"]
theorem scl_begin : L2.FnScope nl_begin ["_law_script"] (L2.defScope sl_begin) := ⟨rfl, rfl, rfl, by decide +kernel, rfl, by decide +kernel, by decide +kernel⟩
abbrev sl_draw : Stmt := topS 58
abbrev nl_draw : List Str := ["_law_d", "_law_many", "_law_found", "_law_size", "_law_cell"]
theorem scl_draw : L2.FnScope nl_draw ["_law_d", "_law_many"] (L2.defScope sl_draw) := ⟨rfl, rfl, rfl, by decide +kernel, rfl, by decide +kernel, by decide +kernel⟩
abbrev sl_pick : Stmt := topS 59
abbrev nl_pick : List Str := ["_law_d", "_law_row"]
theorem scl_pick : L2.FnScope nl_pick ["_law_d", "_law_row"] (L2.defScope sl_pick) := ⟨rfl, rfl, rfl, by decide +kernel, rfl, by decide +kernel, by decide +kernel⟩
abbrev sl_right : Stmt := topS 60
abbrev nl_right : List Str := ["_law_d", "_law_lows", "_law_highs", "_law_found", "_law_low", "_law_high", "_law_way"]
theorem scl_right : L2.FnScope nl_right ["_law_d"] (L2.defScope sl_right) := ⟨rfl, rfl, rfl, by decide +kernel, rfl, by decide +kernel, by decide +kernel⟩
abbrev sl_spoilt : Stmt := topS 61
abbrev nl_spoilt : List Str := ["_law_d", "_law_bounds", "_law_lows", "_law_highs", "_law_way", "_law_k", "_law_value"]
theorem scl_spoilt : L2.FnScope nl_spoilt ["_law_d", "_law_bounds"] (L2.defScope sl_spoilt) := ⟨rfl, rfl, rfl, by decide +kernel, rfl, by decide +kernel, by decide +kernel⟩
abbrev sl_refused : Stmt := topS 62
abbrev nl_refused : List Str := ["_law_bounds", "raised"]
theorem scl_refused : L2.FnScope nl_refused ["_law_bounds"] (L2.defScope sl_refused) := ⟨rfl, rfl, rfl, by decide +kernel, rfl, by decide +kernel, by decide +kernel⟩
abbrev sl_run_refused : Stmt := topS 63
abbrev nl_run_refused : List Str := ["_law_program", "_law_args", "_law_bounds", "raised"]
theorem scl_run_refused : L2.FnScope nl_run_refused ["_law_program", "_law_args", "_law_bounds"] (L2.defScope sl_run_refused) := ⟨rfl, rfl, rfl, by decide +kernel, rfl, by decide +kernel, by decide +kernel⟩
abbrev sl_law : Stmt := topS 64
abbrev nl_law : List Str := ["_law_script", "_law_d", "_law_bounds", "_law_wrong", "_law_program", "_law_args"]
theorem scl_law : L2.FnScope nl_law ["_law_script"] (L2.defScope sl_law) := ⟨rfl, rfl, rfl, by decide +kernel, rfl, by decide +kernel, by decide +kernel⟩
section
variable {P : Program} {w : World} {K : PySem.W.Frag} {mg : Str → Option Value} {base : Heap}
/-- what is known of BadBounds -/
structure BBok (P : Program) (w : World) (K : PySem.W.Frag) (mg : Str → Option Value) (base : Heap) (CB fI cc : Addr) (F : NdefX.NF) (fdI : FuncData) : Prop where
  S : L2.SupC P K mg CB fI cc F
  iC : PySem.W.findIn K (.ref CB) "__init__" = some (some (.ref fI))
  tI : PySem.W.typeIn K (.ref fI) = some (.type "function")
  hm : mg "BadBounds" = some (.ref CB)
  hn : PySem.W.nsIn K mainGlobals "BadBounds" = some (some (.ref CB))
  F1 : L2.FnOk P w K mg base L2.CX0 1 fI fdI ["self"] (L2.spIni ["self", "__class__"] ["self"] CB L2.tNext)
  bI : L2.Binds K fdI ["self"] []
abbrev sp_check_wide : Stmt := topS 52
theorem scp_check_wide : L2.FnScope ["program", "unit", "bounds"] ["program", "unit", "bounds"] (L2.defScope sp_check_wide) := ⟨rfl, rfl, rfl, by decide +kernel, rfl, by decide +kernel, by decide +kernel⟩
abbrev sp_check_start : Stmt := topS 51
theorem scp_check_start : L2.FnScope ["program", "unit", "args", "bounds"] ["program", "unit", "args", "bounds"] (L2.defScope sp_check_start) := ⟨rfl, rfl, rfl, by decide +kernel, rfl, by decide +kernel, by decide +kernel⟩
abbrev sp_run_tree : Stmt := topS 54
theorem scp_run_tree : L2.FnScope ["program", "unit", "args", "answers", "bounds"] ["program", "unit", "args", "answers", "bounds"] (L2.defScope sp_run_tree) := ⟨rfl, rfl, rfl, by decide +kernel, rfl, by decide +kernel, by decide +kernel⟩
abbrev sI : Stmt := L2.inClass (topS 6) 0
abbrev FBB (cc c : Addr) : NdefX.NF := ⟨"__init__", "BadBounds.__init__", L2.defArgs sI, L2.defBody sI, L2.defScope sI, [(("__class__" : Str), cc)], c⟩
theorem nsI : NdefX.NScope ["self", "__class__"] ["self"] ["__class__"] (L2.defScope sI) := NdefX.nscope_by (by decide +kernel)
theorem bb_fn {CB fI cc c : Addr} {oc : Value} {od : Option Addr} {doc pm ct : Value} {sl : Array (Option Value)} (S : L2.SupC P K mg CB fI cc (FBB cc c)) (lI : K.lookup fI = some ⟨oc, od, .func ((FBB cc c).fd doc pm ct), sl⟩) : L2.FnOk P w K mg base L2.CX0 1 fI ((FBB cc c).fd doc pm ct) ["self"] (L2.spIni ["self", "__class__"] ["self"] CB L2.tNext) :=
  L2.init_fn (k := 0) (rest := []) S nsI rfl (fun _ _ _ _ _ _ h => by rw [lI] at h; cases h; rfl) rfl rfl (show (L2.defScope sI).names.lookup ("super" : Str) = some .globalImplicit by decide +kernel) (fun _ => rfl) (fun _ => rfl) (fun _ _ _ _ _ _ => L2.pss_nil)
theorem bb_binds {cc c : Addr} {doc pm ct : Value} : L2.Binds K ((FBB cc c).fd doc pm ct) ["self"] [] := .all fun us hl => match us, hl with | [_], _ => rfl
theorem der_cb {k : Nat} (h3 : 3 ≤ k) (zs : ∀ y ∈ blts, mg (Str.ofString y) = none) (cs_LEAST : GlobIs K mg "LEAST" k_LEAST) (cs_GREATEST : GlobIs K mg "GREATEST" k_GREATEST) {CB fI cc : Addr} {F : NdefX.NF} {fdI : FuncData} (B : BBok P w K mg base CB fI cc F fdI) {fa : Addr} (cdv : Value) (A : Around) (outer : List PySem.Env) (s : Shared) (H : L2.Hp) (E : L2.XK)
    (hr : L2.Room k (A.deeper (envOfC "check_bounds" (L2.defScope sp_check_bounds) s.heap.objs.size fa cdv))) (tk : L2.Takes (L2.cxOf (L2.CX P w) P w K mg base np_check_bounds "check_bounds" (L2.defScope sp_check_bounds) fa cdv A outer s H E) (fun cls d _ H' => E cls d H'))
    (hpo : PassesOwn (model P w) (A.deeper (envOfC "check_bounds" (L2.defScope sp_check_bounds) s.heap.objs.size fa cdv)) (envOfC "check_bounds" (L2.defScope sp_check_bounds) s.heap.objs.size fa cdv) (L2.cxOf (L2.CX P w) P w K mg base np_check_bounds "check_bounds" (L2.defScope sp_check_bounds) fa cdv A outer s H E).xe) :
    PDXs (L2.cxOf (L2.CX P w) P w K mg base np_check_bounds "check_bounds" (L2.defScope sp_check_bounds) fa cdv A outer s H E) (fun cls d _ H' => E cls d H') (L2.defBody sp_check_bounds) b_cb := by
  have nd := scp_check_bounds.nd
  unfold b_cb
  exact pxs_cons (px_if (ptw (pw_or (pt_not (pt_tru (pd_isi (T := "tuple") .tuple rfl (zs "isinstance" (by decide)) rfl rfl (zs "tuple" (by decide)) bt_tuple (pd_var (i := 0) rfl)))) (pw_or1 (pt_cmp (L2.op_neD hr.units) real_ne (by rfl) (pd_callB L2.call_len real_lenB rfl (zs "len" (by decide)) bt_len (pa_cons (pd_var (i := 0) rfl) (pa_nil))) (pd_int))))) (pxs_one (px_raise0 rfl tk B.hn (L2.pmk_sup0 B.S.T B.iC B.tI B.F1 (hr.mono (by omega)) B.bI rfl B.hm))) (pxs_nil)) (pxs_one (px_for hpo rfl (pi_zip3T rfl (zs "zip" (by decide)) (pd_var (i := 0) rfl) (pd_globE cs_LEAST rfl) (pd_globE cs_GREATEST rfl)) (pg_tup rfl (pgs_cons (pg_name (i := 1) nd rfl (by first | exact .inl rfl | exact .inr rfl)) (pgs_cons (pg_name (i := 2) nd rfl (by first | exact .inl rfl | exact .inr rfl)) (pgs_cons (pg_name (i := 3) nd rfl (by first | exact .inl rfl | exact .inr rfl)) (pgs_nil))))) (pxs_one (px_if (ptw (pw_or (pt_not (pt_tru (pd_isi (T := "int") .int rfl (zs "isinstance" (by decide)) rfl rfl (zs "int" (by decide)) bt_int (pd_var (i := 1) rfl)))) (pw_or (pt_tru (pd_isi (T := "bool") .bool rfl (zs "isinstance" (by decide)) rfl rfl (zs "bool" (by decide)) bt_bool (pd_var (i := 1) rfl))) (pw_or1 (pt_not (pt_chain L2.op_le real_le L2.op_le real_le (pd_var (i := 2) rfl) (pd_var (i := 1) rfl) (pd_var (i := 3) rfl))))))) (pxs_one (px_raise0 rfl tk B.hn (L2.pmk_sup0 B.S.T B.iC B.tI B.F1 (hr.mono (by omega)) B.bI rfl B.hm))) (pxs_nil)))))
theorem der_l_begin {k : Nat} {c : Cl} (ok : ∀ y ∈ names, Own P w K mg base k (Str.ofString y) (c y)) (oks : ∀ q ∈ snames, OwnS P w K mg base k q.2 (Str.ofString q.1) (c q.1)) (zs : ∀ y ∈ blts, mg (Str.ofString y) = none) (cs_LEAST : GlobIs K mg "LEAST" k_LEAST) (cs_GREATEST : GlobIs K mg "GREATEST" k_GREATEST) (cs_BOUNDS : GlobIs K mg "BOUNDS" k_BOUNDS) {fa : Addr} (cdv : Value) (A : Around) (outer : List PySem.Env) (s : Shared) (H : L2.Hp) (E : L2.XK) (hr : L2.Room k (A.deeper (envOfC "_law_begin" (L2.defScope sl_begin) s.heap.objs.size fa cdv))) :
    PDSs (L2.cxOf L2.CX0 P w K mg base nl_begin "_law_begin" (L2.defScope sl_begin) fa cdv A outer s H E).nox (L2.defBody sl_begin) (b_l_begin c) := by
  have nd := scl_begin.nd
  unfold b_l_begin
  exact pss_one (ps_ret (pd_lst (pa_cons (pd_lc (own := [("_law_cell", 1)]) rfl nd (pi_seq (pd_var (i := 0) rfl)) (L2.blkOk_by (N := nl_begin) (sc := L2.defScope sl_begin) (by decide +kernel)) (fun _ _ _ _ _ => pg_name (i := 1) nd rfl (by first | exact .inl rfl | exact .inr rfl)) (fun _ _ _ _ _ => pts_nil) (fun _ _ _ _ _ => pd_callTy L2.call_int1 real_intB rfl (zs "int" (by decide)) bt_int (pa_cons (pd_var (i := 1) rfl) (pa_nil))) (by decide)) (pa_cons (pd_int) (pa_cons (pd_int) (pa_cons (pd_int) (pa_cons (pd_int) (pa_nil))))))))
theorem der_l_draw {k : Nat} {c : Cl} (ok : ∀ y ∈ names, Own P w K mg base k (Str.ofString y) (c y)) (oks : ∀ q ∈ snames, OwnS P w K mg base k q.2 (Str.ofString q.1) (c q.1)) (zs : ∀ y ∈ blts, mg (Str.ofString y) = none) (cs_LEAST : GlobIs K mg "LEAST" k_LEAST) (cs_GREATEST : GlobIs K mg "GREATEST" k_GREATEST) (cs_BOUNDS : GlobIs K mg "BOUNDS" k_BOUNDS) {fa : Addr} (cdv : Value) (A : Around) (outer : List PySem.Env) (s : Shared) (H : L2.Hp) (E : L2.XK) (hr : L2.Room k (A.deeper (envOfC "_law_draw" (L2.defScope sl_draw) s.heap.objs.size fa cdv))) :
    PDSs (L2.cxOf L2.CX0 P w K mg base nl_draw "_law_draw" (L2.defScope sl_draw) fa cdv A outer s H E).nox (L2.defBody sl_draw) (b_l_draw c) := by
  have nd := scl_draw.nd
  unfold b_l_draw
  exact pss_cons (ps_if (pt_cmp L2.op_gt real_gt (by rfl) (pd_ix (fun _ _ => rfl) (pd_var (i := 0) rfl) (pd_int)) (pd_int)) (pss_cons (ps_set (i := 2) nd rfl (by first | exact .inl rfl | exact .inr rfl) (pd_ix (fun _ _ => rfl) (pd_var (i := 0) rfl) (pd_int))) (pss_cons (ps_asg (pd_fdiv (pd_var (i := 2) rfl) (pd_var (i := 1) rfl)) (pg_sub (pd_var (i := 0) rfl) (pd_int))) (pss_one (ps_ret (pd_mod (pd_callTy L2.call_int1 real_intB rfl (zs "int" (by decide)) bt_int (pa_cons (pd_var (i := 2) rfl) (pa_nil))) (pd_var (i := 1) rfl)))))) (pss_nil)) (pss_cons (ps_set (i := 3) nd rfl (by first | exact .inl rfl | exact .inr rfl) (pd_int)) (pss_cons (ps_if (pt_cmp L2.op_lt real_lt (by rfl) (pd_ix (fun _ _ => rfl) (pd_var (i := 0) rfl) (pd_int)) (pd_callB L2.call_len real_lenB rfl (zs "len" (by decide)) bt_len (pa_cons (pd_ix (fun _ _ => rfl) (pd_var (i := 0) rfl) (pd_int)) (pa_nil)))) (pss_cons (ps_set (i := 4) nd rfl (by first | exact .inl rfl | exact .inr rfl) (pd_ix (fun _ _ => rfl) (pd_ix (fun _ _ => rfl) (pd_var (i := 0) rfl) (pd_int)) (pd_ix (fun _ _ => rfl) (pd_var (i := 0) rfl) (pd_int)))) (pss_one (ps_set (i := 3) nd rfl (by first | exact .inl rfl | exact .inr rfl) (pd_add (pd_mul (pd_int) (pd_callB L2.call_abs real_absB rfl (zs "abs" (by decide)) bt_abs (pa_cons (pd_var (i := 4) rfl) (pa_nil)))) (pd_callTy L2.call_int1 real_intB rfl (zs "int" (by decide)) bt_int (pa_cons (pd_cmp L2.op_lt real_lt (by rfl) (pd_var (i := 4) rfl) (pd_int)) (pa_nil))))))) (pss_nil)) (pss_cons (ps_augS ip_add real_iadd (pd_var (i := 0) rfl) (pd_int) (pd_int)) (pss_cons (ps_if (pt_cmp L2.op_ge real_ge (by rfl) (pd_var (i := 3) rfl) (pd_mul (pd_int) (pd_pow (pd_int) (pd_int)))) (pss_cons (ps_set (i := 2) nd rfl (by first | exact .inl rfl | exact .inr rfl) (pd_mod (pd_callTy L2.call_int1 real_intB rfl (zs "int" (by decide)) bt_int (pa_cons (pd_fdiv (pd_var (i := 3) rfl) (pd_int)) (pa_nil))) (pd_shl (pd_int) (pd_int)))) (pss_cons (ps_asg (pd_fdiv (pd_var (i := 2) rfl) (pd_var (i := 1) rfl)) (pg_sub (pd_var (i := 0) rfl) (pd_int))) (pss_one (ps_ret (pd_mod (pd_callTy L2.call_int1 real_intB rfl (zs "int" (by decide)) bt_int (pa_cons (pd_var (i := 2) rfl) (pa_nil))) (pd_var (i := 1) rfl)))))) (pss_nil)) (pss_cons (ps_asg (pd_mod (pd_callTy L2.call_int1 real_intB rfl (zs "int" (by decide)) bt_int (pa_cons (pd_add (pd_add (pd_add (pd_mul (pd_ix (fun _ _ => rfl) (pd_var (i := 0) rfl) (pd_int)) (pd_int)) (pd_mul (pd_mod (pd_callTy L2.call_int1 real_intB rfl (zs "int" (by decide)) bt_int (pa_cons (pd_var (i := 3) rfl) (pa_nil))) (pd_int)) (pd_int))) (pd_mul (pd_ix (fun _ _ => rfl) (pd_var (i := 0) rfl) (pd_int)) (pd_int))) (pd_int)) (pa_nil))) (pd_int)) (pg_sub (pd_var (i := 0) rfl) (pd_int))) (pss_one (ps_ret (pd_mod (pd_callTy L2.call_int1 real_intB rfl (zs "int" (by decide)) bt_int (pa_cons (pd_fdiv (pd_ix (fun _ _ => rfl) (pd_var (i := 0) rfl) (pd_int)) (pd_int)) (pa_nil))) (pd_var (i := 1) rfl)))))))))
theorem der_l_pick {k : Nat} {c : Cl} (ok : ∀ y ∈ names, Own P w K mg base k (Str.ofString y) (c y)) (oks : ∀ q ∈ snames, OwnS P w K mg base k q.2 (Str.ofString q.1) (c q.1)) (zs : ∀ y ∈ blts, mg (Str.ofString y) = none) (cs_LEAST : GlobIs K mg "LEAST" k_LEAST) (cs_GREATEST : GlobIs K mg "GREATEST" k_GREATEST) (cs_BOUNDS : GlobIs K mg "BOUNDS" k_BOUNDS) {fa : Addr} (cdv : Value) (A : Around) (outer : List PySem.Env) (s : Shared) (H : L2.Hp) (E : L2.XK) (hr : L2.Room k (A.deeper (envOfC "_law_pick" (L2.defScope sl_pick) s.heap.objs.size fa cdv))) :
    PDSs (L2.cxOf L2.CX0 P w K mg base nl_pick "_law_pick" (L2.defScope sl_pick) fa cdv A outer s H E).nox (L2.defBody sl_pick) (b_l_pick c) := by
  have nd := scl_pick.nd
  unfold b_l_pick
  exact pss_one (ps_ret (pd_ix (fun _ _ => rfl) (pd_var (i := 1) rfl) (pd_call (y := "_law_draw") (ok "_law_draw" (by decide)) hr rfl (pa_cons (pd_var (i := 0) rfl) (pa_cons (pd_callB L2.call_len real_lenB rfl (zs "len" (by decide)) bt_len (pa_cons (pd_var (i := 1) rfl) (pa_nil))) (pa_nil))))))
theorem der_l_right {k : Nat} {c : Cl} (ok : ∀ y ∈ names, Own P w K mg base k (Str.ofString y) (c y)) (oks : ∀ q ∈ snames, OwnS P w K mg base k q.2 (Str.ofString q.1) (c q.1)) (zs : ∀ y ∈ blts, mg (Str.ofString y) = none) (cs_LEAST : GlobIs K mg "LEAST" k_LEAST) (cs_GREATEST : GlobIs K mg "GREATEST" k_GREATEST) (cs_BOUNDS : GlobIs K mg "BOUNDS" k_BOUNDS) {fa : Addr} (cdv : Value) (A : Around) (outer : List PySem.Env) (s : Shared) (H : L2.Hp) (E : L2.XK) (hr : L2.Room k (A.deeper (envOfC "_law_right" (L2.defScope sl_right) s.heap.objs.size fa cdv))) :
    PDSs (L2.cxOf L2.CX0 P w K mg base nl_right "_law_right" (L2.defScope sl_right) fa cdv A outer s H E).nox (L2.defBody sl_right) (b_l_right c) := by
  have nd := scl_right.nd
  unfold b_l_right
  exact pss_cons (ps_set (i := 1) nd rfl (by first | exact .inl rfl | exact .inr rfl) (pd_lst (pa_cons (pd_int) (pa_cons (pd_int) (pa_cons (pd_int) (pa_cons (pd_int) (pa_nil))))))) (pss_cons (ps_set (i := 2) nd rfl (by first | exact .inl rfl | exact .inr rfl) (pd_lst (pa_cons (pd_int) (pa_cons (pd_int) (pa_cons (pd_int) (pa_cons (pd_int) (pa_nil))))))) (pss_cons (ps_set (i := 3) nd rfl (by first | exact .inl rfl | exact .inr rfl) (pd_lst (pa_nil))) (pss_cons (ps_for PassesOwn.never rfl (pi_zip rfl (zs "zip" (by decide)) (pd_var (i := 1) rfl) (pd_var (i := 2) rfl)) (pg_tup rfl (pgs_cons (pg_name (i := 4) nd rfl (by first | exact .inl rfl | exact .inr rfl)) (pgs_cons (pg_name (i := 5) nd rfl (by first | exact .inl rfl | exact .inr rfl)) (pgs_nil)))) (pss_cons (ps_set (i := 6) nd rfl (by first | exact .inl rfl | exact .inr rfl) (pd_call (y := "_law_draw") (ok "_law_draw" (by decide)) hr rfl (pa_cons (pd_var (i := 0) rfl) (pa_cons (pd_int) (pa_nil))))) (pss_one (ps_expr (pd_m L2.mt_append real_append ty_list PySem.F.plainAttrs_list PySem.F.slot_list_append PySem.F.type_list_append (pd_var (i := 3) rfl) (pa_cons (pd_if (pt_cmp (L2.op_eqD hr.units) real_eq (by rfl) (pd_var (i := 6) rfl) (pd_int)) (pd_var (i := 4) rfl) (pd_if (pt_cmp (L2.op_eqD hr.units) real_eq (by rfl) (pd_var (i := 6) rfl) (pd_int)) (pd_var (i := 5) rfl) (pd_add (pd_var (i := 4) rfl) (pd_call (y := "_law_draw") (ok "_law_draw" (by decide)) hr rfl (pa_cons (pd_var (i := 0) rfl) (pa_cons (pd_add (pd_sub (pd_var (i := 5) rfl) (pd_var (i := 4) rfl)) (pd_int)) (pa_nil))))))) (pa_nil))))))) (pss_one (ps_ret (pd_callTy L2.call_tuple_of real_tupleB rfl (zs "tuple" (by decide)) bt_tuple (pa_cons (pd_var (i := 3) rfl) (pa_nil))))))))
theorem der_l_spoilt {k : Nat} {c : Cl} (ok : ∀ y ∈ names, Own P w K mg base k (Str.ofString y) (c y)) (oks : ∀ q ∈ snames, OwnS P w K mg base k q.2 (Str.ofString q.1) (c q.1)) (zs : ∀ y ∈ blts, mg (Str.ofString y) = none) (cs_LEAST : GlobIs K mg "LEAST" k_LEAST) (cs_GREATEST : GlobIs K mg "GREATEST" k_GREATEST) (cs_BOUNDS : GlobIs K mg "BOUNDS" k_BOUNDS) {fa : Addr} (cdv : Value) (A : Around) (outer : List PySem.Env) (s : Shared) (H : L2.Hp) (E : L2.XK) (hr : L2.Room k (A.deeper (envOfC "_law_spoilt" (L2.defScope sl_spoilt) s.heap.objs.size fa cdv))) :
    PDSs (L2.cxOf L2.CX0 P w K mg base nl_spoilt "_law_spoilt" (L2.defScope sl_spoilt) fa cdv A outer s H E).nox (L2.defBody sl_spoilt) (b_l_spoilt c) := by
  have nd := scl_spoilt.nd
  unfold b_l_spoilt
  exact pss_cons (ps_set (i := 2) nd rfl (by first | exact .inl rfl | exact .inr rfl) (pd_lst (pa_cons (pd_int) (pa_cons (pd_int) (pa_cons (pd_int) (pa_cons (pd_int) (pa_nil))))))) (pss_cons (ps_set (i := 3) nd rfl (by first | exact .inl rfl | exact .inr rfl) (pd_lst (pa_cons (pd_int) (pa_cons (pd_int) (pa_cons (pd_int) (pa_cons (pd_int) (pa_nil))))))) (pss_cons (ps_set (i := 4) nd rfl (by first | exact .inl rfl | exact .inr rfl) (pd_call (y := "_law_draw") (ok "_law_draw" (by decide)) hr rfl (pa_cons (pd_var (i := 0) rfl) (pa_cons (pd_int) (pa_nil))))) (pss_cons (ps_if (pt_cmp (L2.op_eqD hr.units) real_eq (by rfl) (pd_var (i := 4) rfl) (pd_int)) (pss_one (ps_ret (pd_sl (pd_var (i := 1) rfl) (po_none) (po_some (pd_int))))) (pss_nil)) (pss_cons (ps_if (pt_cmp (L2.op_eqD hr.units) real_eq (by rfl) (pd_var (i := 4) rfl) (pd_int)) (pss_one (ps_ret (pd_add (pd_var (i := 1) rfl) (pd_tup (pa_cons (pd_int) (pa_nil)))))) (pss_nil)) (pss_cons (ps_if (pt_cmp (L2.op_eqD hr.units) real_eq (by rfl) (pd_var (i := 4) rfl) (pd_int)) (pss_one (ps_ret (pd_callTy L2.call_list_of real_listB rfl (zs "list" (by decide)) bt_list (pa_cons (pd_var (i := 1) rfl) (pa_nil))))) (pss_nil)) (pss_cons (ps_if (pt_cmp (L2.op_eqD hr.units) real_eq (by rfl) (pd_var (i := 4) rfl) (pd_int)) (pss_one (ps_ret (pd_call (y := "_law_pick") (ok "_law_pick" (by decide)) hr rfl (pa_cons (pd_var (i := 0) rfl) (pa_cons (pd_lst (pa_cons (pd_non) (pa_cons (pd_str) (pa_cons (pd_int) (pa_cons (pd_tup (pa_nil)) (pa_nil)))))) (pa_nil)))))) (pss_nil)) (pss_cons (ps_set (i := 5) nd rfl (by first | exact .inl rfl | exact .inr rfl) (pd_call (y := "_law_draw") (ok "_law_draw" (by decide)) hr rfl (pa_cons (pd_var (i := 0) rfl) (pa_cons (pd_int) (pa_nil))))) (pss_cons (ps_set (i := 6) nd rfl (by first | exact .inl rfl | exact .inr rfl) (pd_ix (fun _ _ => rfl) (pd_lst (pa_cons (pd_sub (pd_ix (fun _ _ => rfl) (pd_var (i := 2) rfl) (pd_var (i := 5) rfl)) (pd_int)) (pa_cons (pd_add (pd_ix (fun _ _ => rfl) (pd_var (i := 3) rfl) (pd_var (i := 5) rfl)) (pd_int)) (pa_cons (pd_sub (pd_neg (pd_int)) (pd_call (y := "_law_draw") (ok "_law_draw" (by decide)) hr rfl (pa_cons (pd_var (i := 0) rfl) (pa_cons (pd_int) (pa_nil))))) (pa_cons (pd_add (pd_int) (pd_call (y := "_law_draw") (ok "_law_draw" (by decide)) hr rfl (pa_cons (pd_var (i := 0) rfl) (pa_cons (pd_int) (pa_nil))))) (pa_cons (pd_non) (pa_cons (pd_bl) (pa_cons (pd_bl) (pa_cons (pd_str) (pa_cons (pd_tup (pa_cons (pd_int) (pa_nil))) (pa_nil))))))))))) (pd_sub (pd_var (i := 4) rfl) (pd_int)))) (pss_one (ps_ret (pd_add (pd_add (pd_sl (pd_var (i := 1) rfl) (po_none) (po_some (pd_var (i := 5) rfl))) (pd_tup (pa_cons (pd_var (i := 6) rfl) (pa_nil)))) (pd_sl (pd_var (i := 1) rfl) (po_some (pd_add (pd_var (i := 5) rfl) (pd_int))) (po_none)))))))))))))
theorem der_l_refused {k : Nat} (h5 : 5 ≤ k) (zs : ∀ y ∈ blts, mg (Str.ofString y) = none) {CB CR CC CL CI CT : Addr} (O1 : OwnX P w K mg base 5 "check_bounds" c_cb) (hmB : mg "BadBounds" = some (.ref CB)) (hnB : PySem.W.nsIn K mainGlobals "BadBounds" = some (some (.ref CB))) (hmR : mg "RunError" = some (.ref CR)) (hmV : mg "ValueError" = none)
    (hmC : mg "CheckError" = some (.ref CC)) (hmL : mg "LimitError" = some (.ref CL)) (hmI : mg "BadInput" = some (.ref CI)) (hmT : mg "TooWide" = some (.ref CT)) (EC : L2.ExcC K CB) (x1 : PySem.W.exmOne K (.ref CB) (.ref CB) = some true)
    (q1 : PySem.W.kitOne K (.ref CB) (.ref CR) = some true) (q2 : PySem.W.kitOne K (.ref CB) (.type "ValueError") = some true) (q3 : PySem.W.kitAny K (.ref CB) [.ref CC, .ref CL, .ref CI, .ref CT] = some false)
    {fa : Addr} (cdv : Value) (A : Around) (outer : List PySem.Env) (s : Shared) (H : L2.Hp) (E : L2.XK) (hr : L2.Room k (A.deeper (envOfC "_law_refused" (L2.defScope sl_refused) s.heap.objs.size fa cdv))) :
    PDSs (L2.cxOf L2.CX0 P w K mg base nl_refused "_law_refused" (L2.defScope sl_refused) fa cdv A outer s H E).nox (L2.defBody sl_refused) b_l_refused := by
  have nd := scl_refused.nd
  have zi := zs "isinstance" (by decide)
  unfold b_l_refused
  refine pss_cons (ps_tryE (k := 5) (c := cX1) (C := CB) (cv := .ref CB) (i := 1) rfl rfl nd rfl rfl ⟨rfl, by decide, .inl hmB⟩ L2.takes0 O1 (hr.mono h5) rfl (fun pn xe => pa_cons (pd_var (i := 0) rfl) pa_nil) hnB x1 ⟨_, fun a oe pn hz hv =>
    L2.pss_cons (L2.ps_if (L2.PW.pt (L2.pw_or (L2.pt_not (L2.pt_val (L2.pe_isE (i := 1) EC hz hv rfl (.inl rfl) rfl zi (c := .ref CR) (L2.pe_glob (v := .ref CR) rfl hmR rfl) (fun u h => h) q1))) (L2.pw_or1 (L2.pt_not (L2.pt_val (L2.pe_isE (i := 1) EC hz hv rfl (.inl rfl) rfl zi (c := .ty "ValueError") (L2.pe_bltn (v := .ty "ValueError") rfl hmV PyProof.Rows.Boot.«ValueError» rfl) (fun u h => h) q2)))))) (L2.pss_cons (L2.ps_ret L2.pe_bl) L2.pss_nil) L2.pss_nil)
      (L2.pss_cons (L2.ps_ret (L2.pe_not (L2.pe_isET (i := 1) (cs := [CC, CL, CI, CT]) EC hz hv rfl (.inl rfl) rfl zi (L2.pa_cons (L2.pe_glob (v := .ref CC) rfl hmC rfl) (L2.pa_cons (L2.pe_glob (v := .ref CL) rfl hmL rfl) (L2.pa_cons (L2.pe_glob (v := .ref CI) rfl hmI rfl) (L2.pa_cons (L2.pe_glob (v := .ref CT) rfl hmT rfl) L2.pa_nil)))) (fun σ H Q h => h) (Nat.le_of_ble_eq_true rfl) q3))) L2.pss_nil),
    fun a D σ H f ρ st D' ha hσ R hh l => ?_⟩ (fun σ h => by rw [h]; show (1 : Nat) < 2; decide)) (pss_one (ps_ret pd_bl))
  refine ⟨hσ, true, rfl, ?_⟩
  dsimp only
  rw [if_neg (by decide)]
  refine ⟨hσ, true, rfl, ?_⟩
  dsimp only
  rw [if_neg (by decide)]
  show L2.tSeq (L2.tRet (L2.tNotV (L2.tIsT 1 a false))) L2.tNext D σ H
  refine ⟨hσ, fun p vs hp => ⟨false, rfl, ?_⟩⟩
  obtain ⟨s', e'⟩ := R.toRelS.lay (o := .tup vs) hp
  exact l.rt (.bl true) st (.bl true) f _ hh e' s' (RD.bl.mpr rfl)
theorem der_l_run_refused {k : Nat} (h8 : 8 ≤ k) (zs : ∀ y ∈ blts, mg (Str.ofString y) = none) {CB CM : Addr} (O4 : OwnX P w K mg base 8 "run_tree" c_rt) (hmB : mg "BadBounds" = some (.ref CB)) (hmM : mg "MakerError" = some (.ref CM)) (hnB : PySem.W.nsIn K mainGlobals "BadBounds" = some (some (.ref CB))) (EC : L2.ExcC K CB) (x2 : PySem.W.exmOne K (.ref CB) (.ref CM) = some true)
    (q4 : PySem.W.kitOne K (.ref CB) (.ref CB) = some true)
    {fa : Addr} (cdv : Value) (A : Around) (outer : List PySem.Env) (s : Shared) (H : L2.Hp) (E : L2.XK) (hr : L2.Room k (A.deeper (envOfC "_law_run_refused" (L2.defScope sl_run_refused) s.heap.objs.size fa cdv))) :
    PDSs (L2.cxOf L2.CX0 P w K mg base nl_run_refused "_law_run_refused" (L2.defScope sl_run_refused) fa cdv A outer s H E).nox (L2.defBody sl_run_refused) b_l_run_refused := by
  have nd := scl_run_refused.nd
  have zi := zs "isinstance" (by decide)
  unfold b_l_run_refused
  refine pss_cons (ps_tryE (k := 8) (c := cX4) (C := CB) (cv := .ref CM) (i := 3) rfl rfl nd rfl rfl ⟨rfl, by decide, .inl hmM⟩ L2.takes0 O4 (hr.mono h8) rfl (fun pn xe => pa_cons (pd_var (i := 0) rfl) (pa_cons pd_str (pa_cons (pd_var (i := 1) rfl) (pa_cons (pd_tup pa_nil) (pa_cons (pd_var (i := 2) rfl) pa_nil))))) hnB x2 ⟨_, fun a oe pn hz hv =>
    L2.pss_cons (L2.ps_ret (L2.pe_isE (i := 3) (c := .ref CB) EC hz hv rfl (.inl rfl) rfl zi (L2.pe_glob (v := .ref CB) rfl hmB rfl) (fun u h => h) q4)) L2.pss_nil,
    fun a D σ H f ρ st D' ha hσ R hh l => ⟨hσ, l.rt (.bl true) st (.bl true) f H hh .refl R.toRelS (RD.bl.mpr rfl)⟩⟩ (fun σ h => by rw [h]; show (3 : Nat) < 4; decide)) (pss_one (ps_ret pd_bl))
theorem der_l_law {k : Nat} {c : Cl} (ok : ∀ y ∈ names, Own P w K mg base k (Str.ofString y) (c y)) (oks : ∀ q ∈ snames, OwnS P w K mg base k q.2 (Str.ofString q.1) (c q.1)) (O1 : OwnX P w K mg base k "check_bounds" c_cb) (R1 : Own P w K mg base k "_law_refused" (cR "_law_refused")) (R2 : Own P w K mg base k "_law_run_refused" (cR "_law_run_refused")) (zs : ∀ y ∈ blts, mg (Str.ofString y) = none) (cs_LEAST : GlobIs K mg "LEAST" k_LEAST) (cs_GREATEST : GlobIs K mg "GREATEST" k_GREATEST) (cs_BOUNDS : GlobIs K mg "BOUNDS" k_BOUNDS) {fa : Addr} (cdv : Value) (A : Around) (outer : List PySem.Env) (s : Shared) (H : L2.Hp) (E : L2.XK) (hr : L2.Room k (A.deeper (envOfC "law" (L2.defScope sl_law) s.heap.objs.size fa cdv))) :
    PDSs (L2.cxOf L2.CX0 P w K mg base nl_law "law" (L2.defScope sl_law) fa cdv A outer s H E).nox (L2.defBody sl_law) (b_l_law c) := by
  have nd := scl_law.nd
  unfold b_l_law
  exact pss_cons (ps_set (i := 1) nd rfl (by first | exact .inl rfl | exact .inr rfl) (pd_call (y := "_law_begin") (ok "_law_begin" (by decide)) hr rfl (pa_cons (pd_var (i := 0) rfl) (pa_nil)))) (pss_cons (ps_set (i := 2) nd rfl (by first | exact .inl rfl | exact .inr rfl) (pd_call (y := "_law_right") (ok "_law_right" (by decide)) hr rfl (pa_cons (pd_var (i := 1) rfl) (pa_nil)))) (pss_cons (ps_if (ptw (pw_or (pt_cmp L2.op_notN real_isnt (by rfl) (pd_callN (c := cX1) O1 hr rfl (pa_cons (pd_var (i := 2) rfl) (pa_nil))) (pd_non)) (pw_or (pt_cmp (L2.op_neD hr.units) real_ne (by rfl) (pd_globE cs_BOUNDS rfl) (pd_tup (pa_cons (pd_int) (pa_cons (pd_int) (pa_cons (pd_int) (pa_cons (pd_int) (pa_nil))))))) (pw_or1 (pt_cmp L2.op_notN real_isnt (by rfl) (pd_callN (c := cX1) O1 hr rfl (pa_cons (pd_globE cs_BOUNDS rfl) (pa_nil))) (pd_non)))))) (pss_one (ps_ret (pd_bl))) (pss_nil)) (pss_cons (ps_set (i := 3) nd rfl (by first | exact .inl rfl | exact .inr rfl) (pd_call (y := "_law_spoilt") (ok "_law_spoilt" (by decide)) hr rfl (pa_cons (pd_var (i := 1) rfl) (pa_cons (pd_var (i := 2) rfl) (pa_nil))))) (pss_cons (ps_set (i := 4) nd rfl (by first | exact .inl rfl | exact .inr rfl) (pd_tup (pa_cons (pd_tup (pa_cons (pd_str) (pa_cons (pd_str) (pa_cons (pd_tup (pa_cons (pd_tup (pa_cons (pd_str) (pa_cons (pd_int) (pa_nil)))) (pa_nil))) (pa_cons (pd_int) (pa_cons (pd_int) (pa_cons (pd_tup (pa_nil)) (pa_cons (pd_tup (pa_cons (pd_tup (pa_cons (pd_str) (pa_cons (pd_tup (pa_cons (pd_str) (pa_cons (pd_str) (pa_nil)))) (pa_nil)))) (pa_nil))) (pa_nil))))))))) (pa_nil)))) (pss_cons (ps_set (i := 5) nd rfl (by first | exact .inl rfl | exact .inr rfl) (pd_call (y := "_law_pick") (ok "_law_pick" (by decide)) hr rfl (pa_cons (pd_var (i := 1) rfl) (pa_cons (pd_lst (pa_cons (pd_tup (pa_cons (pd_int) (pa_nil))) (pa_cons (pd_tup (pa_cons (pd_int) (pa_nil))) (pa_cons (pd_tup (pa_nil)) (pa_cons (pd_tup (pa_cons (pd_int) (pa_cons (pd_int) (pa_nil)))) (pa_nil)))))) (pa_nil))))) (pss_one (ps_ret (pd_and' (pd_call (y := "_law_refused") (cl := cR) R1 hr rfl (pa_cons (pd_var (i := 3) rfl) (pa_nil))) (pd_one (pd_call (y := "_law_run_refused") (cl := cR) R2 hr rfl (pa_cons (pd_var (i := 4) rfl) (pa_cons (pd_var (i := 5) rfl) (pa_cons (pd_var (i := 3) rfl) (pa_nil))))))))))))))
end
theorem all_mk {l : PySem.W.OpenLaw} {w : World} {K : PySem.W.Frag} {h : Heap} {mg : Str → Option Value} {fa : Addr} (X : K.In h) (G : h.Ns mainGlobals mg) (hfa : mg "law" = some (.ref fa))
    {fW : Addr} {odW anW : Option Addr} {slW : Array (Option Value)} {ocW kVW dcW pmW cdW ctW : Value} {fS : Addr} {odS anS : Option Addr} {slS : Array (Option Value)} {ocS kVS dcS pmS cdS ctS : Value} {fR : Addr} {odR anR : Option Addr} {slR : Array (Option Value)} {ocR kVR dcR pmR cdR ctR : Value} {TR aT : Addr} {oT : Value} {dT : Option Addr} {nT : Nat} {sT : Array (Option Value)} {CB CM CR CC CL CI CT fI cI ccB NB : Addr} {nmB qB : Str} {bsB bmB subB : List Value} {snB : List Str} {abB : Bool} {colB : Option Bool} {ddB odI cdlI cldcB : Option Addr} {b0 b1 b2 b3 b5 : Option Value} {ocI dcI pmI ctI clI clcB : Value} {slI csI cslB : Array (Option Value)} {vsI : Array Value} {fileI : Str} {tfI : PySem.Tok}
    {f1 : Addr} {od1 an1 : Option Addr} {sl1 : Array (Option Value)} {oc1 kV1 dc1 pm1 cd1 ct1 : Value}
    {f2 : Addr} {od2 an2 : Option Addr} {sl2 : Array (Option Value)} {oc2 kV2 dc2 pm2 cd2 ct2 : Value}
    {f3 : Addr} {od3 an3 : Option Addr} {sl3 : Array (Option Value)} {oc3 kV3 dc3 pm3 cd3 ct3 : Value}
    {f4 : Addr} {od4 an4 : Option Addr} {sl4 : Array (Option Value)} {oc4 kV4 dc4 pm4 cd4 ct4 : Value}
    {f5 : Addr} {od5 an5 : Option Addr} {sl5 : Array (Option Value)} {oc5 kV5 dc5 pm5 cd5 ct5 : Value}
    {f6 : Addr} {od6 an6 : Option Addr} {sl6 : Array (Option Value)} {oc6 kV6 dc6 pm6 cd6 ct6 : Value}
    {f7 : Addr} {od7 an7 : Option Addr} {sl7 : Array (Option Value)} {oc7 kV7 dc7 pm7 cd7 ct7 : Value}
    {f8 : Addr} {od8 an8 : Option Addr} {sl8 : Array (Option Value)} {oc8 kV8 dc8 pm8 cd8 ct8 : Value}
    {f9 : Addr} {od9 an9 : Option Addr} {sl9 : Array (Option Value)} {oc9 kV9 dc9 pm9 cd9 ct9 : Value}
    {ag1 : Addr} {og1 : Value} {dg1 : Option Addr} {ig1 : Array Value} {ng1 : Nat} {sg1 : Array (Option Value)}
    {ag2 : Addr} {og2 : Value} {dg2 : Option Addr} {ig2 : Array Value} {ng2 : Nat} {sg2 : Array (Option Value)}
    {ag3 : Addr} {og3 : Value} {dg3 : Option Addr} {ig3 : Array Value} {ng3 : Nat} {sg3 : Array (Option Value)}
    (a1 : PySem.W.nsIn K mainGlobals "check_bounds" = some (some (.ref f1))) (l1 : K.lookup f1 = some ⟨oc1, od1, .func (PySem.W.fnOf "check_bounds" "check_bounds" (L2.defArgs sp_check_bounds) (L2.defBody sp_check_bounds) (L2.defScope sp_check_bounds) .none kV1 dc1 pm1 an1 cd1 ct1), sl1⟩) (c1 : PySem.W.codeIn K cd1 "check_bounds" = true) (k1 : PySem.W.keepIn K (.ref f1) = true)
    (a2 : PySem.W.nsIn K mainGlobals "_law_begin" = some (some (.ref f2))) (l2 : K.lookup f2 = some ⟨oc2, od2, .func (PySem.W.fnOf "_law_begin" "_law_begin" (L2.defArgs sl_begin) (L2.defBody sl_begin) (L2.defScope sl_begin) .none kV2 dc2 pm2 an2 cd2 ct2), sl2⟩) (c2 : PySem.W.codeIn K cd2 "_law_begin" = true) (k2 : PySem.W.keepIn K (.ref f2) = true)
    (a3 : PySem.W.nsIn K mainGlobals "_law_draw" = some (some (.ref f3))) (l3 : K.lookup f3 = some ⟨oc3, od3, .func (PySem.W.fnOf "_law_draw" "_law_draw" (L2.defArgs sl_draw) (L2.defBody sl_draw) (L2.defScope sl_draw) .none kV3 dc3 pm3 an3 cd3 ct3), sl3⟩) (c3 : PySem.W.codeIn K cd3 "_law_draw" = true) (k3 : PySem.W.keepIn K (.ref f3) = true)
    (a4 : PySem.W.nsIn K mainGlobals "_law_pick" = some (some (.ref f4))) (l4 : K.lookup f4 = some ⟨oc4, od4, .func (PySem.W.fnOf "_law_pick" "_law_pick" (L2.defArgs sl_pick) (L2.defBody sl_pick) (L2.defScope sl_pick) .none kV4 dc4 pm4 an4 cd4 ct4), sl4⟩) (c4 : PySem.W.codeIn K cd4 "_law_pick" = true) (k4 : PySem.W.keepIn K (.ref f4) = true)
    (a5 : PySem.W.nsIn K mainGlobals "_law_right" = some (some (.ref f5))) (l5 : K.lookup f5 = some ⟨oc5, od5, .func (PySem.W.fnOf "_law_right" "_law_right" (L2.defArgs sl_right) (L2.defBody sl_right) (L2.defScope sl_right) .none kV5 dc5 pm5 an5 cd5 ct5), sl5⟩) (c5 : PySem.W.codeIn K cd5 "_law_right" = true) (k5 : PySem.W.keepIn K (.ref f5) = true)
    (a6 : PySem.W.nsIn K mainGlobals "_law_spoilt" = some (some (.ref f6))) (l6 : K.lookup f6 = some ⟨oc6, od6, .func (PySem.W.fnOf "_law_spoilt" "_law_spoilt" (L2.defArgs sl_spoilt) (L2.defBody sl_spoilt) (L2.defScope sl_spoilt) .none kV6 dc6 pm6 an6 cd6 ct6), sl6⟩) (c6 : PySem.W.codeIn K cd6 "_law_spoilt" = true) (k6 : PySem.W.keepIn K (.ref f6) = true)
    (a7 : PySem.W.nsIn K mainGlobals "_law_refused" = some (some (.ref f7))) (l7 : K.lookup f7 = some ⟨oc7, od7, .func (PySem.W.fnOf "_law_refused" "_law_refused" (L2.defArgs sl_refused) (L2.defBody sl_refused) (L2.defScope sl_refused) .none kV7 dc7 pm7 an7 cd7 ct7), sl7⟩) (c7 : PySem.W.codeIn K cd7 "_law_refused" = true) (k7 : PySem.W.keepIn K (.ref f7) = true)
    (a8 : PySem.W.nsIn K mainGlobals "_law_run_refused" = some (some (.ref f8))) (l8 : K.lookup f8 = some ⟨oc8, od8, .func (PySem.W.fnOf "_law_run_refused" "_law_run_refused" (L2.defArgs sl_run_refused) (L2.defBody sl_run_refused) (L2.defScope sl_run_refused) .none kV8 dc8 pm8 an8 cd8 ct8), sl8⟩) (c8 : PySem.W.codeIn K cd8 "_law_run_refused" = true) (k8 : PySem.W.keepIn K (.ref f8) = true)
    (a9 : PySem.W.nsIn K mainGlobals "law" = some (some (.ref f9))) (l9 : K.lookup f9 = some ⟨oc9, od9, .func (PySem.W.fnOf "law" "law" (L2.defArgs sl_law) (L2.defBody sl_law) (L2.defScope sl_law) .none kV9 dc9 pm9 an9 cd9 ct9), sl9⟩) (c9 : PySem.W.codeIn K cd9 "law" = true) (k9 : PySem.W.keepIn K (.ref f9) = true)
    (z1 : PySem.W.nsIn K mainGlobals "abs" = some none) (z2 : PySem.W.nsIn K mainGlobals "bool" = some none) (z3 : PySem.W.nsIn K mainGlobals "int" = some none) (z4 : PySem.W.nsIn K mainGlobals "isinstance" = some none) (z5 : PySem.W.nsIn K mainGlobals "len" = some none) (z6 : PySem.W.nsIn K mainGlobals "list" = some none) (z7 : PySem.W.nsIn K mainGlobals "tuple" = some none) (z8 : PySem.W.nsIn K mainGlobals "zip" = some none)
    (g1 : PySem.W.nsIn K mainGlobals "LEAST" = some (some (.ref ag1))) (gl1 : K.lookup ag1 = some ⟨og1, dg1, .seq ig1 ng1, sg1⟩) (gc1 : og1 = .type "tuple") (ge1 : (itsOk ig1.toList [.int 1, .int 1, .int 0, .int 0] && decide (ig1.size ≤ 1000)) = true)
    (g2 : PySem.W.nsIn K mainGlobals "GREATEST" = some (some (.ref ag2))) (gl2 : K.lookup ag2 = some ⟨og2, dg2, .seq ig2 ng2, sg2⟩) (gc2 : og2 = .type "tuple") (ge2 : (itsOk ig2.toList [.int 32, .int 8, .int 8, .int 12] && decide (ig2.size ≤ 1000)) = true)
    (g3 : PySem.W.nsIn K mainGlobals "BOUNDS" = some (some (.ref ag3))) (gl3 : K.lookup ag3 = some ⟨og3, dg3, .seq ig3 ng3, sg3⟩) (gc3 : og3 = .type "tuple") (ge3 : (itsOk ig3.toList [.int 24, .int 4, .int 4, .int 8] && decide (ig3.size ≤ 1000)) = true)
    (tB : PySem.W.typeIn K (.ref CB) = some (.type "type"))
    (gB : PySem.W.nsIn K mainGlobals "BadBounds" = some (some (.ref CB)))
    (lB : K.lookup CB = some (PySem.excClassObj nmB qB CB NB bsB bmB true snB subB abB colB ddB b0 b1 b2 b3 b5 "ValueError.__new__"))
    (rB : PySem.HandSPX.refsVE bmB = true)
    (saB : PySem.W.findIn K (.ref CB) "__setattr__" = some (some (.builtin "object.__setattr__")))
    (exB : PySem.W.subIn K (.ref CB) (.type "BaseException") = some true)
    (kcB : PySem.W.keepIn K (.ref CB) = true)
    (thB : PySem.W.nsIn K cStatics "thirdparty.any" = some none)
    (supB : PySem.W.ks_superIn K CB CB "__init__" = some (some (.builtin "ValueError.__init__")))
    (svB : PySem.W.subIn K (.ref CB) (.type "ValueError") = some true)
    (slB : PySem.W.mroIn K CB (.ref CB) = some true)
    (iB : PySem.W.findIn K (.ref CB) "__init__" = some (some (.ref fI)))
    (tI : PySem.W.typeIn K (.ref fI) = some (.type "function"))
    (lI : K.lookup fI = some ⟨ocI, odI, .func (PySem.W.fnX "__init__" "BadBounds.__init__" (L2.defArgs sI) (L2.defBody sI) (L2.defScope sI) [(("__class__" : Str), ccB)] .none .none dcI pmI none (.ref cI) ctI), slI⟩)
    (cdI : PySem.W.codeIn K (.ref cI) "BadBounds.__init__" = true)
    (lcI : K.lookup cI = some ⟨clI, cdlI, .fields vsI, csI⟩)
    (vI : vsI[2]? = some (.str fileI tfI))
    (hfI : ((l.prog.main.file : Str) == fileI) = true)
    (lcc : K.lookup ccB = some ⟨clcB, cldcB, .cell (some (.ref CB)), cslB⟩)
    (htop : (l.prog.main.scope.names.lookup ("super" : Str)).isSome = false)
    (zsup : PySem.W.nsIn K mainGlobals "super" = some none)
    (zve : PySem.W.nsIn K mainGlobals "ValueError" = some none)
    (gCM : PySem.W.nsIn K mainGlobals "MakerError" = some (some (.ref CM)))
    (gCR : PySem.W.nsIn K mainGlobals "RunError" = some (some (.ref CR)))
    (gCC : PySem.W.nsIn K mainGlobals "CheckError" = some (some (.ref CC)))
    (gCL : PySem.W.nsIn K mainGlobals "LimitError" = some (some (.ref CL)))
    (gCI : PySem.W.nsIn K mainGlobals "BadInput" = some (some (.ref CI)))
    (gCT : PySem.W.nsIn K mainGlobals "TooWide" = some (some (.ref CT)))
    (x1 : PySem.W.exmOne K (.ref CB) (.ref CB) = some true)
    (x2 : PySem.W.exmOne K (.ref CB) (.ref CM) = some true)
    (e1 : PySem.W.findIn K (.ref CB) "__getattribute__" = some (some (.builtin "BaseException.__getattribute__")))
    (e2 : PySem.W.findIn K (.ref CB) "__getattr__" = some none)
    (e4 : PySem.W.hasDictIn K CB = true)
    (e5 : PySem.W.findIn K (.ref CB) "__class__" = some (some (.builtin "object.__class__")))
    (e6 : PySem.W.specialIn K (.builtin "object.__class__") "__get__" = some (some (.builtin "getset_descriptor.__get__")))
    (e7 : PySem.W.takesIn K (.builtin "object.__class__") = some true)
    (e8 : PySem.W.mroIn K CB (.type "object") = some true)
    (q1 : PySem.W.kitOne K (.ref CB) (.ref CR) = some true)
    (q2 : PySem.W.kitOne K (.ref CB) (.type "ValueError") = some true)
    (q3 : PySem.W.kitAny K (.ref CB) [.ref CC, .ref CL, .ref CI, .ref CT] = some false)
    (q4 : PySem.W.kitOne K (.ref CB) (.ref CB) = some true)
    (aW : PySem.W.nsIn K mainGlobals "check_wide" = some (some (.ref fW))) (lW : K.lookup fW = some ⟨ocW, odW, .func (PySem.W.fnOf "check_wide" "check_wide" (L2.defArgs sp_check_wide) (L2.defBody sp_check_wide) (L2.defScope sp_check_wide) .none kVW dcW pmW anW cdW ctW), slW⟩) (cW : PySem.W.codeIn K cdW "check_wide" = true) (kW : PySem.W.keepIn K (.ref fW) = true)
    (aS : PySem.W.nsIn K mainGlobals "check_start" = some (some (.ref fS))) (lS : K.lookup fS = some ⟨ocS, odS, .func (PySem.W.fnOf "check_start" "check_start" (L2.defArgs sp_check_start) (L2.defBody sp_check_start) (L2.defScope sp_check_start) .none kVS dcS pmS anS cdS ctS), slS⟩) (cS : PySem.W.codeIn K cdS "check_start" = true) (kS : PySem.W.keepIn K (.ref fS) = true)
    (aR : PySem.W.nsIn K mainGlobals "run_tree" = some (some (.ref fR))) (lR : K.lookup fR = some ⟨ocR, odR, .func (PySem.W.fnOf "run_tree" "run_tree" (L2.defArgs sp_run_tree) (L2.defBody sp_run_tree) (L2.defScope sp_run_tree) (.ref TR) kVR dcR pmR anR cdR ctR), slR⟩) (cR_ : PySem.W.codeIn K cdR "run_tree" = true) (kR : PySem.W.keepIn K (.ref fR) = true)
    (lT : K.lookup TR = some ⟨oT, dT, .seq [Value.ref aT].toArray nT, sT⟩) :
    ∃ fd : FuncData, (∀ (s : Shared) (v : Value), BindsTo s fd ⟨[v], []⟩ [("_law_script", v)]) ∧ ∀ base : Heap, K.In base → base.Ns mainGlobals mg → L2.FnOk l.prog w K mg base L2.CX0 61 fa fd ["_law_script"] (liftF K 1 (callN prog 61 "law")) := by
  have e := hfa.symm.trans (PySem.W.mg_of X G a9)
  cases e
  have F1 := L2.fun_mk (st := sp_check_bounds) l1 c1 k1
  have b1 := F1.binds (ps := ["bounds"]) fun _ _ _ _ _ _ us hl => match us, hl with | [_], _ => rfl
  have F2 := L2.fun_mk (st := sl_begin) l2 c2 k2
  have b2 := F2.binds (ps := ["_law_script"]) fun _ _ _ _ _ _ us hl => match us, hl with | [_], _ => rfl
  have F3 := L2.fun_mk (st := sl_draw) l3 c3 k3
  have b3 := F3.binds (ps := ["_law_d", "_law_many"]) fun _ _ _ _ _ _ us hl => match us, hl with | [_, _], _ => rfl
  have F4 := L2.fun_mk (st := sl_pick) l4 c4 k4
  have b4 := F4.binds (ps := ["_law_d", "_law_row"]) fun _ _ _ _ _ _ us hl => match us, hl with | [_, _], _ => rfl
  have F5 := L2.fun_mk (st := sl_right) l5 c5 k5
  have b5 := F5.binds (ps := ["_law_d"]) fun _ _ _ _ _ _ us hl => match us, hl with | [_], _ => rfl
  have F6 := L2.fun_mk (st := sl_spoilt) l6 c6 k6
  have b6 := F6.binds (ps := ["_law_d", "_law_bounds"]) fun _ _ _ _ _ _ us hl => match us, hl with | [_, _], _ => rfl
  have F7 := L2.fun_mk (st := sl_refused) l7 c7 k7
  have b7 := F7.binds (ps := ["_law_bounds"]) fun _ _ _ _ _ _ us hl => match us, hl with | [_], _ => rfl
  have F8 := L2.fun_mk (st := sl_run_refused) l8 c8 k8
  have b8 := F8.binds (ps := ["_law_program", "_law_args", "_law_bounds"]) fun _ _ _ _ _ _ us hl => match us, hl with | [_, _, _], _ => rfl
  have F9 := L2.fun_mk (st := sl_law) l9 c9 k9
  have b9 := F9.binds (ps := ["_law_script"]) fun _ _ _ _ _ _ us hl => match us, hl with | [_], _ => rfl
  have zs : ∀ y ∈ blts, mg (Str.ofString y) = none := by
    intro y hy
    simp only [blts, List.mem_cons, List.not_mem_nil, or_false] at hy
    rcases hy with rfl | rfl | rfl | rfl | rfl | rfl | rfl | rfl
    · exact PySem.W.mg_none_of X G z1
    · exact PySem.W.mg_none_of X G z2
    · exact PySem.W.mg_none_of X G z3
    · exact PySem.W.mg_none_of X G z4
    · exact PySem.W.mg_none_of X G z5
    · exact PySem.W.mg_none_of X G z6
    · exact PySem.W.mg_none_of X G z7
    · exact PySem.W.mg_none_of X G z8
  have cs_LEAST : GlobIs K mg "LEAST" k_LEAST := glob_tup (PySem.W.mg_of X G g1) gl1 gc1 ge1
  have cs_GREATEST : GlobIs K mg "GREATEST" k_GREATEST := glob_tup (PySem.W.mg_of X G g2) gl2 gc2 ge2
  have cs_BOUNDS : GlobIs K mg "BOUNDS" k_BOUNDS := glob_tup (PySem.W.mg_of X G g3) gl3 gc3 ge3
  refine ⟨PySem.W.fnOf "law" "law" (L2.defArgs sl_law) (L2.defBody sl_law) (L2.defScope sl_law) .none kV9 dc9 pm9 an9 cd9 ct9, fun s v => .of_eq rfl, fun base hKb hNs => ?_⟩
  have hmB := PySem.W.mg_of X G gB
  have SB : L2.SupC l.prog K mg CB fI ccB (FBB ccB cI) := ⟨⟨⟨_, _, _, _, _, _, _, _, _, _, _, _, _, _, _, lB, rB⟩, saB, exB, tB, kcB⟩, thB, supB, svB, slB, ⟨_, _, _, lcc⟩, rfl, ⟨_, _, _, _, _, _, lcI, vI, hfI⟩, cdI, ⟨_, _, _, _, _, _, lI⟩, htop, PySem.W.mg_none_of X G zsup⟩
  have BB : BBok l.prog w K mg base CB fI ccB (FBB ccB cI) _ := ⟨SB, iB, tI, hmB, gB, bb_fn SB lI, bb_binds⟩
  have EC : L2.ExcC K CB := ⟨e1, e2, exB, e4, e5, e6, e7, e8⟩
  have FW := L2.fun_mk (st := sp_check_wide) lW cW kW
  have bW := FW.binds (ps := ["program", "unit", "bounds"]) fun _ _ _ _ _ _ us hl => match us, hl with | [_, _, _], _ => rfl
  have FS := L2.fun_mk (st := sp_check_start) lS cS kS
  have bS := FS.binds (ps := ["program", "unit", "args", "bounds"]) fun _ _ _ _ _ _ us hl => match us, hl with | [_, _, _, _], _ => rfl
  have FR : L2.FunD K "run_tree" "run_tree" (L2.defArgs sp_run_tree) (L2.defBody sp_run_tree) (L2.defScope sp_run_tree) [L2.V.ref aT] [] fR (PySem.W.fnOf "run_tree" "run_tree" (L2.defArgs sp_run_tree) (L2.defBody sp_run_tree) (L2.defScope sp_run_tree) (.ref TR) kVR dcR pmR anR cdR ctR) :=
    ⟨⟨_, _, _, _, _, _, _, _, _, _, rfl, lR, cR_, .inr ⟨by simp, TR, _, [.ref aT], nT, rfl, lT, rfl, .cons rfl .nil⟩, .inl rfl⟩, kR⟩
  obtain ⟨dsR, vR, bR⟩ := FR.binds1 (ps := ["program", "unit", "args", "answers", "bounds"]) 5 1 (by simp) rfl fun T kV doc pm an cdv ct us its hl hi => match us, its, hl, hi with | [_, _, _, _, _], [_], _, _ => ⟨_, rfl, rfl⟩
  cases vR
  have O1 : OwnX l.prog w K mg base 5 "check_bounds" c_cb := ⟨_, _, ["bounds"], fn_okX (n := 4) (k := 4) F1 scp_check_bounds rfl (der_cb (by omega) zs cs_LEAST cs_GREATEST BB), PySem.W.mg_of X G a1, F1.kp, b1, fun ds st Q h => h.1⟩
  have O2 : OwnX l.prog w K mg base 6 "check_wide" c_cw := ⟨_, _, ["program", "unit", "bounds"], fn_okX (n := 3) (k := 5) FW scp_check_wide rfl (fun cdv A outer s H E hr tk _ => pxs_cons (px_exprX (c := cX1) O1 hr tk rfl (pa_cons (pd_var (i := 2) rfl) pa_nil)) pxs_never), PySem.W.mg_of X G aW, FW.kp, bW, fun ds st Q h => h.1⟩
  have O3 : OwnX l.prog w K mg base 7 "check_start" c_cs := ⟨_, _, ["program", "unit", "args", "bounds"], fn_okX (n := 4) (k := 6) FS scp_check_start rfl (fun cdv A outer s H E hr tk _ => pxs_cons (px_exprX (c := cX2) O2 hr tk rfl (pa_cons (pd_var (i := 0) rfl) (pa_cons (pd_var (i := 1) rfl) (pa_cons (pd_var (i := 3) rfl) pa_nil)))) pxs_never), PySem.W.mg_of X G aS, FS.kp, bS, fun ds st Q h => h.1⟩
  have O4 : OwnX l.prog w K mg base 8 "run_tree" c_rt := ⟨_, _, ["program", "unit", "args", "answers", "bounds"], fn_okXD (n := 5) (k := 7) FR scp_run_tree rfl (fun cdv A outer s H E hr tk => pxs_cons (px_exprX (c := cX3) O3 hr tk rfl (pa_cons (pd_var (i := 0) rfl) (pa_cons (pd_var (i := 1) rfl) (pa_cons (pd_var (i := 2) rfl) (pa_cons (pd_var (i := 4) rfl) pa_nil))))) pxs_never), PySem.W.mg_of X G aR, FR.kp, bR, fun ds st Q h => h.1⟩
  have R1 : Own l.prog w K mg base 60 "_law_refused" (cR "_law_refused") := Own.monoX (j := 10) ⟨_, _, ["_law_bounds"], fn_ok (k := 9) (d := ⟨1, 2, fun _ => b_l_refused⟩) (c := fun _ _ _ _ => False) F7 scl_refused rfl rfl (der_l_refused (by omega) zs O1 hmB gB (PySem.W.mg_of X G gCR) (PySem.W.mg_none_of X G zve) (PySem.W.mg_of X G gCC) (PySem.W.mg_of X G gCL) (PySem.W.mg_of X G gCI) (PySem.W.mg_of X G gCT) EC x1 q1 q2 q3), PySem.W.mg_of X G a7, F7.kp, b7, fun ds st Q h => h.1⟩ (by omega)
  have R2 : Own l.prog w K mg base 60 "_law_run_refused" (cR "_law_run_refused") := Own.monoX (j := 10) ⟨_, _, ["_law_program", "_law_args", "_law_bounds"], fn_ok (k := 9) (d := ⟨3, 4, fun _ => b_l_run_refused⟩) (c := fun _ _ _ _ => False) F8 scl_run_refused rfl rfl (der_l_run_refused (by omega) zs O4 hmB (PySem.W.mg_of X G gCM) gB EC x2 q4), PySem.W.mg_of X G a8, F8.kp, b8, fun ds st Q h => h.1⟩ (by omega)
  have st : ∀ x ∈ names, ∃ d, prog x = some d ∧ Step2 l.prog w K mg base names snames x d := by
    intro x hx
    simp only [names, List.mem_cons, List.not_mem_nil, or_false] at hx
    rcases hx with rfl | rfl | rfl | rfl | rfl
    · exact ⟨_, rfl, _, _, ["_law_script"], PySem.W.mg_of X G a2, F2.kp, b2, rfl, fun k c ok oks => fn_ok F2 scl_begin rfl rfl (der_l_begin ok oks zs cs_LEAST cs_GREATEST cs_BOUNDS)⟩
    · exact ⟨_, rfl, _, _, ["_law_d", "_law_many"], PySem.W.mg_of X G a3, F3.kp, b3, rfl, fun k c ok oks => fn_ok F3 scl_draw rfl rfl (der_l_draw ok oks zs cs_LEAST cs_GREATEST cs_BOUNDS)⟩
    · exact ⟨_, rfl, _, _, ["_law_d", "_law_row"], PySem.W.mg_of X G a4, F4.kp, b4, rfl, fun k c ok oks => fn_ok F4 scl_pick rfl rfl (der_l_pick ok oks zs cs_LEAST cs_GREATEST cs_BOUNDS)⟩
    · exact ⟨_, rfl, _, _, ["_law_d"], PySem.W.mg_of X G a5, F5.kp, b5, rfl, fun k c ok oks => fn_ok F5 scl_right rfl rfl (der_l_right ok oks zs cs_LEAST cs_GREATEST cs_BOUNDS)⟩
    · exact ⟨_, rfl, _, _, ["_law_d", "_law_bounds"], PySem.W.mg_of X G a6, F6.kp, b6, rfl, fun k c ok oks => fn_ok F6 scl_spoilt rfl rfl (der_l_spoilt ok oks zs cs_LEAST cs_GREATEST cs_BOUNDS)⟩
  have st2 : ∀ q ∈ snames, ∃ d, prog q.1 = some d ∧ StepS l.prog w K mg base names snames q.1 q.2 d := by
    intro q hq
    cases hq
  have ow := all_own2 (P := l.prog) (w := w) (base := base) st st2 60
  refine (fn_ok (P := l.prog) (w := w) (mg := mg) (base := base) (k := 60) (d := ⟨1, 6, b_l_law⟩) (c := callN prog 60) F9 scl_law rfl rfl (der_l_law ow.1 ow.2 (O1.mono (by omega)) R1 R2 zs cs_LEAST cs_GREATEST cs_BOUNDS)).imp fun vs H Q E ⟨g0, f, st, ds, Q', s, r, ⟨d', e', g⟩, l⟩ => ?_
  cases (Option.some.inj e' : (⟨1, 6, b_l_law⟩ : Def) = d')
  exact ⟨g0, f, st, ds, Q', s, r, g, l⟩
end Pk02
end PartPdk02L

section PartPdk02P
set_option Elab.async false
set_option linter.all false
set_option maxRecDepth 100000
set_option maxHeartbeats 1000000
/-! k02: what check_bounds does. Own work. -/
namespace Pk02
open PySem Pd
local macro_rules | `(tactic| walk_at "s") => `(tactic| (repeat (refine Red.red ?_)))
local macro_rules | `(tactic| walk_at "r") => `(tactic| (repeat (first | refine Red.red ?_ | refine Nxt.mk ?_)))
local macro_rules | `(tactic| walk_at "t") => `(tactic| (repeat (first | refine Red.red ?_ | refine Nxt.mk ?_ | refine ⟨Nat.le_of_ble_eq_true rfl, ?_⟩)))
variable {k : Nat} {st : Store} {Q : K}
/-- a part that is none -/
def Bad (d : D) (lo hi : Int) : Prop := (∃ v, d = .int v ∧ ¬ (lo ≤ v ∧ v ≤ hi)) ∨ (∃ b, d = .bl b) ∨ d = .non ∨ (∃ s, d = .str s) ∨ ∃ xs, d = .tup xs
def tst : TS := sIf (tOr (tNot (tTru (dIsi .int (dVar 1)))) (tOr (tTru (dIsi .bool (dVar 1))) (tNot (tTru (dChain leC leC (dVar 2) (dVar 1) (dVar 3)))))) (sRaise0 "BadBounds") (sNext)
instance {u : Str} {t : Ty} {r : Bool → Prop} : Red (isTy (.str u) st t r) (r (decide (t = .str))) := ⟨id⟩
instance {n : Str} {D0 : Ends} {σ : Pd.Env} : Red (sRaise0 n D0 σ st) (D0.rt (exO n []) st) := ⟨id⟩
theorem step_bad {d b : D} {lo hi : Int} {D0 : Ends} (h : Bad d lo hi) (q : D0.rt (exO "BadBounds" []) st) : tst D0 [some b, some d, some (.int lo), some (.int hi)] st := by
  unfold tst
  rcases h with ⟨v, rfl, hv⟩ | ⟨c, rfl⟩ | rfl | ⟨s, rfl⟩ | ⟨xs, rfl⟩
  · walk_at "r"
    refine way (fun h => absurd h (by decide)) (fun _ => ?_)
    walk_at "r"
    refine way (fun h => absurd h (by decide)) (fun _ => ?_)
    walk_at "r"
    refine way (fun h1 => ?_) (fun h1 => ?_)
    · walk_at "r"
      refine way (fun h2 => q) (fun h2 => absurd ⟨of_decide_eq_true h1, ?_⟩ hv)
      simpa using h2
    · walk_at "r"
      refine way (fun _ => q) (fun h => absurd h (by decide))
  · walk_at "r"
    refine way (fun h => absurd h (by decide)) (fun _ => ?_)
    walk_at "r"
    refine way (fun _ => ?_) (fun h => absurd h (by decide))
    walk_at "r"
    exact q
  · walk_at "r"
    refine way (fun _ => ?_) (fun h => absurd h (by decide))
    walk_at "r"
    exact q
  · walk_at "r"
    refine way (fun _ => ?_) (fun h => absurd h (by decide))
    walk_at "r"
    exact q
  · walk_at "r"
    refine way (fun _ => ?_) (fun h => absurd h (by decide))
    walk_at "r"
    exact q
theorem step_good {b : D} {v lo hi : Int} {D0 : Ends} (h : lo ≤ v ∧ v ≤ hi) (q : D0.nx [some b, some (.int v), some (.int lo), some (.int hi)] st) : tst D0 [some b, some (.int v), some (.int lo), some (.int hi)] st := by
  unfold tst
  walk_at "r"
  refine way (fun h => absurd h (by decide)) (fun _ => ?_)
  walk_at "r"
  refine way (fun h => absurd h (by decide)) (fun _ => ?_)
  walk_at "r"
  refine way (fun h1 => ?_) (fun h1 => absurd h.1 (of_decide_eq_false h1))
  walk_at "r"
  refine way (fun h2 => ?_) (fun h2 => ?_)
  · have : decide (v ≤ hi) = true := decide_eq_true h.2
    rw [this] at h2
    cases h2
  · walk_at "r"
    exact q
/-- the tests, one behind the other -/
abbrev loopG : TG := gTup (gsCons (gName 1) (gsCons (gName 2) (gsCons (gName 3) (gsNil)))) 3
def itemsD : List (D × Int × Int) → List D
  | [] => []
  | (d, lo, hi) :: l => .tup [d, .int lo, .int hi] :: itemsD l
theorem loop_bad {b : D} {D0 : Ends} : ∀ {l : List (D × Int × Int)} {o1 o2 o3 : Option D}, (∃ (k : Nat) (x : D × Int × Int), l[k]? = some x ∧ Bad x.1 x.2.1 x.2.2 ∧ ∀ (j : Nat) (y : D × Int × Int), j < k → l[j]? = some y → ∃ v, y.1 = .int v ∧ y.2.1 ≤ v ∧ v ≤ y.2.2) → D0.rt (exO "BadBounds" []) st → forLoop (fun _ => True) loopG tst D0 (itemsD l) [some b, o1, o2, o3] st
  | [], _, _, _, ⟨k, x, h, _⟩, _ => by simp at h
  | (d, lo, hi) :: l, o1, o2, o3, ⟨0, x, h, hb, _⟩, q => by
    obtain rfl : (d, lo, hi) = x := by simpa using h
    refine ⟨trivial, ?_⟩
    walk_at "r"
    refine ⟨rfl, ?_⟩
    walk_at "r"
    exact step_bad hb q
  | (d, lo, hi) :: l, o1, o2, o3, ⟨k + 1, x, h, hb, hg⟩, q => by
    obtain ⟨v, hv, h1⟩ := hg 0 (d, lo, hi) (Nat.succ_pos k) rfl
    have hv : d = .int v := hv
    subst hv
    refine ⟨trivial, ?_⟩
    walk_at "r"
    refine ⟨rfl, ?_⟩
    walk_at "r"
    refine step_good h1 ?_
    exact loop_bad ⟨k, x, by simpa using h, hb, fun j y hj hy => hg (j + 1) y (Nat.succ_lt_succ hj) (by simpa using hy)⟩ q
theorem loop_good {b : D} {D0 : Ends} : ∀ {l : List (D × Int × Int)} {o1 o2 o3 : Option D}, (∀ y ∈ l, ∃ v, y.1 = .int v ∧ y.2.1 ≤ v ∧ v ≤ y.2.2) → (∀ o1 o2 o3, D0.nx [some b, o1, o2, o3] st) → forLoop (fun _ => True) loopG tst D0 (itemsD l) [some b, o1, o2, o3] st
  | [], o1, o2, o3, _, q => ⟨trivial, q o1 o2 o3⟩
  | (d, lo, hi) :: l, o1, o2, o3, hg, q => by
    obtain ⟨v, hv, h1⟩ := hg (d, lo, hi) (List.mem_cons_self ..)
    have hv : d = .int v := hv
    subst hv
    refine ⟨trivial, ?_⟩
    walk_at "r"
    refine ⟨rfl, ?_⟩
    walk_at "r"
    refine step_good h1 ?_
    exact loop_good (fun y hy => hg y (List.mem_cons_of_mem _ hy)) q
/-- the parts with what they may be -/
def parts (a b c d : D) : List (D × Int × Int) := [(a, 1, 32), (b, 1, 8), (c, 0, 8), (d, 0, 12)]
theorem cb_start {d : D} {D0 : Ends} (h : b_cb { nx := fun _ st' => Q (okO .non) st', rt := Q } [some d, none, none, none] st) : c_cb [d] st Q := ⟨rfl, h⟩
theorem cb_good {a b c d : Int} (ha : 1 ≤ a ∧ a ≤ 32) (hb : 1 ≤ b ∧ b ≤ 8) (hc : 0 ≤ c ∧ c ≤ 8) (hd : 0 ≤ d ∧ d ≤ 12) (q : Q (okO .non) st) : c_cb [.tup [.int a, .int b, .int c, .int d]] st Q := by
  refine cb_start (D0 := ⟨fun _ _ => False, Q, fun _ _ => False, fun _ _ => False⟩) ?_
  unfold b_cb
  walk_at "r"
  refine way (fun h => absurd h (by decide)) (fun _ => ?_)
  walk_at "r"
  refine way (fun h => absurd h (by simp)) (fun _ => ?_)
  walk_at "r"
  show forLoop (fun _ => True) loopG tst _ (itemsD (parts (.int a) (.int b) (.int c) (.int d))) _ st
  refine loop_good (fun y hy => ?_) (fun _ _ _ => q)
  simp only [parts, List.mem_cons, List.not_mem_nil, or_false] at hy
  rcases hy with rfl | rfl | rfl | rfl
  · exact ⟨a, rfl, ha⟩
  · exact ⟨b, rfl, hb⟩
  · exact ⟨c, rfl, hc⟩
  · exact ⟨d, rfl, hd⟩
theorem cb_bad4 {a b c d : D} (h : ∃ (k : Nat) (x : D × Int × Int), (parts a b c d)[k]? = some x ∧ Bad x.1 x.2.1 x.2.2 ∧ ∀ (j : Nat) (y : D × Int × Int), j < k → (parts a b c d)[j]? = some y → ∃ v, y.1 = .int v ∧ y.2.1 ≤ v ∧ v ≤ y.2.2) (q : Q (exO "BadBounds" []) st) : c_cb [.tup [a, b, c, d]] st Q := by
  refine cb_start (D0 := ⟨fun _ _ => False, Q, fun _ _ => False, fun _ _ => False⟩) ?_
  unfold b_cb
  walk_at "r"
  refine way (fun h => absurd h (by decide)) (fun _ => ?_)
  walk_at "r"
  refine way (fun h => absurd h (by simp)) (fun _ => ?_)
  walk_at "r"
  show forLoop (fun _ => True) loopG tst _ (itemsD (parts a b c d)) _ st
  exact loop_bad h q
theorem cb_badL {xs : List D} (h : xs.length ≠ 4) (hl : xs.length ≤ 100) (q : Q (exO "BadBounds" []) st) : c_cb [.tup xs] st Q := by
  refine cb_start (D0 := ⟨fun _ _ => False, Q, fun _ _ => False, fun _ _ => False⟩) ?_
  unfold b_cb
  walk_at "r"
  refine way (fun h => absurd h (by decide)) (fun _ => ?_)
  walk_at "r"
  refine way (fun _ => ?_) (fun h2 => ?_)
  · walk_at "r"
    exact q
  · simp at h2
    omega
/-- no tuple -/
def NoT (d : D) (st : Store) : Prop := d = .non ∨ (∃ s, d = .str s) ∨ (∃ v, d = .int v) ∨ ∃ n xs, d = .ref n ∧ rdL st n xs
theorem cb_badN {d : D} (h : NoT d st) (q : Q (exO "BadBounds" []) st) : c_cb [d] st Q := by
  refine cb_start (D0 := ⟨fun _ _ => False, Q, fun _ _ => False, fun _ _ => False⟩) ?_
  unfold b_cb
  rcases h with rfl | ⟨s, rfl⟩ | ⟨v, rfl⟩ | ⟨n, xs, rfl, hx⟩
  · walk_at "r"
    refine way (fun _ => ?_) (fun h => absurd h (by decide))
    walk_at "r"
    exact q
  · walk_at "r"
    refine way (fun _ => ?_) (fun h => absurd h (by decide))
    walk_at "r"
    exact q
  · walk_at "r"
    refine way (fun _ => ?_) (fun h => absurd h (by decide))
    walk_at "r"
    exact q
  · walk_at "r"
    refine ⟨xs, hx, ?_⟩
    walk_at "r"
    refine way (fun _ => ?_) (fun h => absurd h (by decide))
    walk_at "r"
    exact q
end Pk02
end PartPdk02P

section PartPdk02P2
set_option Elab.async false
set_option linter.all false
set_option maxRecDepth 100000
set_option maxHeartbeats 1000000
/-! k02: drawn bounds, spoilt ones; the law. Own work. -/
namespace Pk02
open PySem Pd
local macro_rules | `(tactic| walk_at "s") => `(tactic| (repeat (refine Red.red ?_)))
local macro_rules | `(tactic| walk_at "r") => `(tactic| (repeat (first | refine Red.red ?_ | refine Nxt.mk ?_)))
local macro_rules | `(tactic| walk_at "t") => `(tactic| (repeat (first | refine Red.red ?_ | refine Nxt.mk ?_ | refine ⟨Nat.le_of_ble_eq_true rfl, ?_⟩)))
variable {k : Nat} {st : Store} {Q : K}
/-- bounds as they may be -/
structure Good (a b c d : Int) : Prop where
  ha : 1 ≤ a ∧ a ≤ 32
  hb : 1 ≤ b ∧ b ≤ 8
  hc : 0 ≤ c ∧ c ≤ 8
  hd : 0 ≤ d ∧ d ≤ 12
abbrev bndD (a b c d : Int) : D := .tup [.int a, .int b, .int c, .int d]
abbrev lims : List (Int × Int) := [(1, 32), (1, 8), (0, 8), (0, 12)]
theorem right_ok (hd : DrawAt st) (q : ∀ a b c d st', Good a b c d → Fra st st' → Q (bndD a b c d) st') : callN prog (k + 2) "_law_right" [.ref 2] st Q := by
  have d2 := hd.lt
  refine call_intro rfl rfl ?_
  unfold b_l_right
  walk_at "t"
  have f1 : Fra st (st ++ [C.lst [.int 1, .int 1, .int 0, .int 0]] ++ [C.lst [.int 32, .int 8, .int 8, .int 12]] ++ [C.lst []]) := (Fra.refl hd).app.app.app
  have hl : rdL (st ++ [C.lst [.int 1, .int 1, .int 0, .int 0]] ++ [C.lst [.int 32, .int 8, .int 8, .int 12]] ++ [C.lst []]) st.length [.int 1, .int 1, .int 0, .int 0] := rdL_app (rdL_app rdL_new)
  have hh : rdL (st ++ [C.lst [.int 1, .int 1, .int 0, .int 0]] ++ [C.lst [.int 32, .int 8, .int 8, .int 12]] ++ [C.lst []]) (st ++ [C.lst [.int 1, .int 1, .int 0, .int 0]]).length [.int 32, .int 8, .int 8, .int 12] := rdL_app rdL_new
  have hf : rdL (st ++ [C.lst [.int 1, .int 1, .int 0, .int 0]] ++ [C.lst [.int 32, .int 8, .int 8, .int 12]] ++ [C.lst []]) (st ++ [C.lst [.int 1, .int 1, .int 0, .int 0]] ++ [C.lst [.int 32, .int 8, .int 8, .int 12]]).length (([] : List Int).map D.int) := rdL_new
  have n1 : st.length < (st ++ [C.lst [.int 1, .int 1, .int 0, .int 0]]).length := by simp
  have n2 : (st ++ [C.lst [.int 1, .int 1, .int 0, .int 0]]).length < (st ++ [C.lst [.int 1, .int 1, .int 0, .int 0]] ++ [C.lst [.int 32, .int 8, .int 8, .int 12]]).length := by simp
  generalize st ++ [C.lst [.int 1, .int 1, .int 0, .int 0]] ++ [C.lst [.int 32, .int 8, .int 8, .int 12]] ++ [C.lst []] = s1 at f1 hl hh hf ⊢
  generalize (st ++ [C.lst [.int 1, .int 1, .int 0, .int 0]] ++ [C.lst [.int 32, .int 8, .int 8, .int 12]]).length = c3 at hf n2 ⊢
  generalize (st ++ [C.lst [.int 1, .int 1, .int 0, .int 0]]).length = c2 at hh n1 n2 ⊢
  refine ⟨_, _, .inl hl, .inl hh, ?_⟩
  refine for_map lims (fun p => .tup [.int p.1, .int p.2]) rfl (fun j σ st' => ∃ (vs : List Int) (o4 o5 o6 : Option D), σ = [some (.ref 2), some (.ref st.length), some (.ref c2), some (.ref c3), o4, o5, o6] ∧ rdL st' c3 (vs.map D.int) ∧ Two (fun (p : Int × Int) v => p.1 ≤ v ∧ v ≤ p.2) (lims.take j) vs ∧ Fra st st' ∧ rdL st' st.length [.int 1, .int 1, .int 0, .int 0] ∧ rdL st' c2 [.int 32, .int 8, .int 8, .int 12]) ⟨[], none, none, none, rfl, hf, .nil, f1, hl, hh⟩ (fun j p σ s2 hj ⟨vs, o4, o5, o6, e0, h3, ht, f2, g1, g2⟩ N hN => ?_) (fun σ s2 ⟨vs, o4, o5, o6, e0, h3, ht, f2, g1, g2⟩ => ?_)
  · subst e0
    refine ⟨⟨.inl g1, .inl g2⟩, ?_⟩
    have hp : p.1 ≤ p.2 ∧ p.2 ≤ 32 ∧ 0 ≤ p.1 := by
      have hm := List.mem_of_getElem? hj
      simp only [lims, List.mem_cons, List.not_mem_nil, or_false] at hm
      rcases hm with rfl | rfl | rfl | rfl <;> decide
    have tk : lims.take (j + 1) = lims.take j ++ [p] := by rw [List.take_succ, hj]; rfl
    have vl : vs.length ≤ 4 := by
      have := ht.length
      have h4 : (lims.take j).length ≤ 4 := by
        have h5 : lims.length = 4 := rfl
        rw [List.length_take]; omega
      omega
    have fin : ∀ (v : Int) (s3 : Store) (o6 : Option D), p.1 ≤ v ∧ v ≤ p.2 → Fra s2 s3 → appendM (.ref c3) [.int v] s3 fun _ s4 => N [some (.ref 2), some (.ref st.length), some (.ref c2), some (.ref c3), some (.int p.1), some (.int p.2), o6] s4 := fun v s3 o6 hv f3 => by
      have h4 := f3.rd h3 (by omega)
      refine append_at h4 (by rw [List.length_map]; unfold szl; omega) ?_
      refine hN _ _ ⟨vs ++ [v], _, _, _, rfl, ?_, ?_, ?_, rdL_ne (f3.rd g1 (by omega)) (by omega), rdL_ne (f3.rd g2 (by omega)) (by omega)⟩
      · have := rdL_set (ys := vs.map D.int ++ [D.int v]) h4
        rw [List.map_append]; exact this
      · rw [tk]; exact ht.snoc hv
      · exact (f2.trans f3).set (by omega) (by omega)
    walk_at "r"
    refine ⟨rfl, ?_⟩
    walk_at "r"
    refine draw_ok rfl f2.dr (by decide) (by decide) fun w s3 w0 w1 f3 _ => ?_
    walk_at "r"
    refine ⟨ty_at (f3.rd h3 (by omega)), ?_⟩
    walk_at "r"
    refine way (fun _ => ?_) (fun _ => ?_)
    · walk_at "r"
      exact fin _ _ _ ⟨Int.le_refl _, hp.1⟩ f3
    walk_at "r"
    refine way (fun _ => ?_) (fun _ => ?_)
    · walk_at "r"
      exact fin _ _ _ ⟨hp.1, Int.le_refl _⟩ f3
    walk_at "r"
    refine draw_ok rfl f3.dr (by omega) (by omega) fun r s4 r0 r1 f4 _ => ?_
    walk_at "r"
    exact fin _ _ _ (by omega) (f3.trans f4)
  · subst e0
    refine ⟨⟨.inl g1, .inl g2⟩, ?_⟩
    walk_at "r"
    refine tuple_at h3 ?_
    match vs, ht with
    | [a, b, c, d], .cons ha (.cons hb (.cons hc (.cons hd' _))) => exact q a b c d s2 ⟨ha, hb, hc, hd'⟩ f2
end Pk02
end PartPdk02P2

section PartPdk02P3
set_option Elab.async false
set_option linter.all false
set_option maxRecDepth 100000
set_option maxHeartbeats 1000000
/-! k02: spoilt bounds; the law. Own work. -/
namespace Pk02
open PySem Pd
local macro_rules | `(tactic| walk_at "s") => `(tactic| (repeat (refine Red.red ?_)))
local macro_rules | `(tactic| walk_at "r") => `(tactic| (repeat (first | refine Red.red ?_ | refine Nxt.mk ?_)))
local macro_rules | `(tactic| walk_at "t") => `(tactic| (repeat (first | refine Red.red ?_ | refine Nxt.mk ?_ | refine ⟨Nat.le_of_ble_eq_true rfl, ?_⟩)))
variable {k : Nat} {st : Store} {Q : K}
/-- bounds that are refused, now and later -/
def SpoB (d : D) (st : Store) : Prop := ∀ (s : Store) (Q' : K), Fra st s → Q' (exO "BadBounds" []) s → c_cb [d] s Q'
theorem SpoB.later {d : D} {s : Store} (h : SpoB d st) (f : Fra st s) : SpoB d s := fun s2 Q' f2 q => h s2 Q' (f.trans f2) q
theorem spo4 {a b c d : D} (h : ∃ (k : Nat) (x : D × Int × Int), (parts a b c d)[k]? = some x ∧ Bad x.1 x.2.1 x.2.2 ∧ ∀ (j : Nat) (y : D × Int × Int), j < k → (parts a b c d)[j]? = some y → ∃ v, y.1 = .int v ∧ y.2.1 ≤ v ∧ v ≤ y.2.2) : SpoB (.tup [a, b, c, d]) st := fun s Q' _ q => cb_bad4 h q
theorem spoL {xs : List D} (h : xs.length ≠ 4) (hl : xs.length ≤ 100) : SpoB (.tup xs) st := fun s Q' _ q => cb_badL h hl q
theorem bad_of {x : D} {lo hi r r2 : Int} (hlo : 0 ≤ lo ∧ lo ≤ 1) (hhi : hi ≤ 32) (hr : 0 ≤ r) (hr2 : 0 ≤ r2) (h : x ∈ [D.int (lo - 1), D.int (hi + 1), D.int (-7 - r), D.int (100 + r2), D.non, D.bl true, D.bl false, D.str "4", D.tup [D.int 1]]) : Bad x lo hi := by
  simp only [List.mem_cons, List.not_mem_nil, or_false] at h
  rcases h with rfl | rfl | rfl | rfl | rfl | rfl | rfl | rfl | rfl
  · exact .inl ⟨_, rfl, by omega⟩
  · exact .inl ⟨_, rfl, by omega⟩
  · exact .inl ⟨_, rfl, by omega⟩
  · exact .inl ⟨_, rfl, by omega⟩
  · exact .inr (.inr (.inl rfl))
  · exact .inr (.inl ⟨_, rfl⟩)
  · exact .inr (.inl ⟨_, rfl⟩)
  · exact .inr (.inr (.inr (.inl ⟨_, rfl⟩)))
  · exact .inr (.inr (.inr (.inr ⟨_, rfl⟩)))
theorem spoilt_ok {a b c d : Int} (G : Good a b c d) (hd : DrawAt st) (q : ∀ x st', SpoB x st' → Fra st st' → Q x st') : callN prog (k + 3) "_law_spoilt" [.ref 2, bndD a b c d] st Q := by
  have d2 := hd.lt
  refine call_intro rfl rfl ?_
  unfold b_l_spoilt
  walk_at "t"
  have f1 : Fra st (st ++ [C.lst [.int 1, .int 1, .int 0, .int 0]] ++ [C.lst [.int 32, .int 8, .int 8, .int 12]]) := (Fra.refl hd).app.app
  have hl : rdL (st ++ [C.lst [.int 1, .int 1, .int 0, .int 0]] ++ [C.lst [.int 32, .int 8, .int 8, .int 12]]) st.length [.int 1, .int 1, .int 0, .int 0] := rdL_app rdL_new
  have hh : rdL (st ++ [C.lst [.int 1, .int 1, .int 0, .int 0]] ++ [C.lst [.int 32, .int 8, .int 8, .int 12]]) (st ++ [C.lst [.int 1, .int 1, .int 0, .int 0]]).length [.int 32, .int 8, .int 8, .int 12] := rdL_new
  have n1 : st.length < (st ++ [C.lst [.int 1, .int 1, .int 0, .int 0]]).length := by simp
  generalize st ++ [C.lst [.int 1, .int 1, .int 0, .int 0]] ++ [C.lst [.int 32, .int 8, .int 8, .int 12]] = s1 at f1 hl hh ⊢
  generalize (st ++ [C.lst [.int 1, .int 1, .int 0, .int 0]]).length = c2 at hh n1 ⊢
  refine draw_ok rfl f1.dr (by decide) (by decide) fun w s2 w0 w1 f2 _ => ?_
  have F2 := f1.trans f2
  walk_at "r"
  refine way (fun _ => ?_) (fun hw0 => ?_)
  · walk_at "t"
    exact q (.tup [.int a, .int b, .int c]) _ (spoL (by simp) (by simp)) F2
  walk_at "r"
  refine way (fun _ => ?_) (fun hw1 => ?_)
  · walk_at "t"
    exact q _ _ (spoL (by simp) (by simp)) F2
  walk_at "r"
  refine way (fun _ => ?_) (fun hw2 => ?_)
  · walk_at "t"
    refine q _ _ (fun s Q' f q' => cb_badN (.inr (.inr (.inr ⟨_, _, rfl, f.rd rdL_new (by have := F2.le; omega)⟩))) q') F2.app
  walk_at "r"
  refine way (fun _ => ?_) (fun hw3 => ?_)
  · walk_at "t"
    refine pick_ok rfl rfl F2.dr.app rdL_new (by have := F2.le; omega) (by simp) (by simp) fun x s3 hx f3 _ => ?_
    have F3 := F2.app.trans f3
    simp only [List.mem_cons, List.not_mem_nil, or_false] at hx
    rcases hx with rfl | rfl | rfl | rfl
    · exact q _ _ (fun s Q' f q' => cb_badN (.inl rfl) q') F3
    · exact q _ _ (fun s Q' f q' => cb_badN (.inr (.inl ⟨_, rfl⟩)) q') F3
    · exact q _ _ (fun s Q' f q' => cb_badN (.inr (.inr (.inl ⟨_, rfl⟩))) q') F3
    · exact q _ _ (spoL (by simp) (by simp)) F3
  have e0 : w ≠ 0 := of_decide_eq_false hw0
  have e1 : w ≠ 1 := of_decide_eq_false hw1
  have e2 : w ≠ 2 := of_decide_eq_false hw2
  have e3 : w ≠ 3 := of_decide_eq_false hw3
  walk_at "r"
  refine draw_ok rfl F2.dr (by decide) (by decide) fun i s3 i0 i1 f3 _ => ?_
  have F3 := F2.trans f3
  have hl3 := (f2.trans f3).rd hl (by omega)
  have hh3 := (f2.trans f3).rd hh (by omega)
  have i4 : i = 0 ∨ i = 1 ∨ i = 2 ∨ i = 3 := by omega
  walk_at "r"
  rcases i4 with rfl | rfl | rfl | rfl
  all_goals
    refine ix_at hl3 rfl ?_
    walk_at "r"
    refine ix_at hh3 rfl ?_
    walk_at "r"
    refine draw_ok rfl F3.dr (by decide) (by decide) fun r s4 r0 r1 f4 _ => ?_
    walk_at "r"
    refine draw_ok rfl f4.dr (by decide) (by decide) fun r2 s5 r20 r21 f5 _ => ?_
    walk_at "t"
  · obtain ⟨x, hx, _, e⟩ := atD_of (xs := [D.int (1 - 1), D.int (32 + 1), D.int (-7 - r), D.int (100 + r2), D.non, D.bl true, D.bl false, D.str "4", D.tup [D.int 1]]) (i := w - 4) (by omega) (by simp; omega)
    refine ix_at rdL_new e ?_
    walk_at "r"
    refine ⟨Nat.le_of_ble_eq_true rfl, ?_⟩
    walk_at "r"
    refine ⟨Nat.le_of_ble_eq_true rfl, ?_⟩
    walk_at "r"
    refine ⟨Nat.le_of_ble_eq_true rfl, ?_⟩
    refine q (.tup [x, .int b, .int c, .int d]) _ (spo4 ⟨0, (x, 1, 32), rfl, bad_of (lo := 1) (hi := 32) (by decide) (by decide) r0 r20 hx, fun j y hj hy => ?_⟩) (F3.trans (f4.trans f5)).app
    omega
  · obtain ⟨x, hx, _, e⟩ := atD_of (xs := [D.int (1 - 1), D.int (8 + 1), D.int (-7 - r), D.int (100 + r2), D.non, D.bl true, D.bl false, D.str "4", D.tup [D.int 1]]) (i := w - 4) (by omega) (by simp; omega)
    refine ix_at rdL_new e ?_
    walk_at "r"
    refine ⟨Nat.le_of_ble_eq_true rfl, ?_⟩
    walk_at "r"
    refine ⟨Nat.le_of_ble_eq_true rfl, ?_⟩
    walk_at "r"
    refine ⟨Nat.le_of_ble_eq_true rfl, ?_⟩
    refine q (.tup [.int a, x, .int c, .int d]) _ (spo4 ⟨1, (x, 1, 8), rfl, bad_of (lo := 1) (hi := 8) (by decide) (by decide) r0 r20 hx, fun j y hj hy => ?_⟩) (F3.trans (f4.trans f5)).app
    match j, hj, hy with
    | 0, _, hy => obtain rfl := Option.some.inj hy; exact ⟨_, rfl, G.ha⟩
    | j + 1, hj, _ => omega
  · obtain ⟨x, hx, _, e⟩ := atD_of (xs := [D.int (0 - 1), D.int (8 + 1), D.int (-7 - r), D.int (100 + r2), D.non, D.bl true, D.bl false, D.str "4", D.tup [D.int 1]]) (i := w - 4) (by omega) (by simp; omega)
    refine ix_at rdL_new e ?_
    walk_at "r"
    refine ⟨Nat.le_of_ble_eq_true rfl, ?_⟩
    walk_at "r"
    refine ⟨Nat.le_of_ble_eq_true rfl, ?_⟩
    walk_at "r"
    refine ⟨Nat.le_of_ble_eq_true rfl, ?_⟩
    refine q (.tup [.int a, .int b, x, .int d]) _ (spo4 ⟨2, (x, 0, 8), rfl, bad_of (lo := 0) (hi := 8) (by decide) (by decide) r0 r20 hx, fun j y hj hy => ?_⟩) (F3.trans (f4.trans f5)).app
    match j, hj, hy with
    | 0, _, hy => obtain rfl := Option.some.inj hy; exact ⟨_, rfl, G.ha⟩
    | 1, _, hy => obtain rfl := Option.some.inj hy; exact ⟨_, rfl, G.hb⟩
    | j + 2, hj, _ => omega
  · obtain ⟨x, hx, _, e⟩ := atD_of (xs := [D.int (0 - 1), D.int (12 + 1), D.int (-7 - r), D.int (100 + r2), D.non, D.bl true, D.bl false, D.str "4", D.tup [D.int 1]]) (i := w - 4) (by omega) (by simp; omega)
    refine ix_at rdL_new e ?_
    walk_at "r"
    refine ⟨Nat.le_of_ble_eq_true rfl, ?_⟩
    walk_at "r"
    refine ⟨Nat.le_of_ble_eq_true rfl, ?_⟩
    walk_at "r"
    refine ⟨Nat.le_of_ble_eq_true rfl, ?_⟩
    refine q (.tup [.int a, .int b, .int c, x]) _ (spo4 ⟨3, (x, 0, 12), rfl, bad_of (lo := 0) (hi := 12) (by decide) (by decide) r0 r20 hx, fun j y hj hy => ?_⟩) (F3.trans (f4.trans f5)).app
    match j, hj, hy with
    | 0, _, hy => obtain rfl := Option.some.inj hy; exact ⟨_, rfl, G.ha⟩
    | 1, _, hy => obtain rfl := Option.some.inj hy; exact ⟨_, rfl, G.hb⟩
    | 2, _, hy => obtain rfl := Option.some.inj hy; exact ⟨_, rfl, G.hc⟩
    | j + 3, hj, _ => omega
section
variable {D0 : Ends} {σ : Pd.Env} {c : Cl} {x : String} {ts : TA} {cn : Str} {h : TS}
instance : Red (sTryE c x ts cn h D0 σ st) (ts σ st fun ds st1 => c x ds st1 fun r st2 => (∃ d, r = okO d ∧ D0.nx σ st2) ∨ (r = exO cn [] ∧ h D0 σ st2)) := ⟨id⟩
instance : Red (sExprX c x ts D0 σ st) (ts σ st fun ds st1 => c x ds st1 fun r st2 => (∃ d, r = okO d ∧ D0.nx σ st2) ∨ ∃ cn fs, r = exO cn fs ∧ D0.rt (exO cn fs) st2) := ⟨id⟩
end
theorem refused_ok {d : D} (hd : DrawAt st) (h : SpoB d st) (q : Q (.bl true) st) : c_ref [d] st Q := by
  refine ⟨rfl, ?_⟩
  show b_l_refused { nx := fun _ st' => Q .non st', rt := Q } [some d, none] st
  unfold b_l_refused
  walk_at "r"
  exact h st _ (Fra.refl hd) (.inr ⟨rfl, q⟩)
theorem cw_ok {p u d : D} (hd : DrawAt st) (h : SpoB d st) (q : Q (exO "BadBounds" []) st) : c_cw [p, u, d] st Q := by
  refine ⟨rfl, ?_⟩
  show b_cw { nx := fun _ st' => Q (okO .non) st', rt := Q } [some p, some u, some d] st
  unfold b_cw
  walk_at "r"
  exact h st _ (Fra.refl hd) (.inr ⟨_, _, rfl, q⟩)
theorem cs_ok {p u a d : D} (hd : DrawAt st) (h : SpoB d st) (q : Q (exO "BadBounds" []) st) : c_cs [p, u, a, d] st Q := by
  refine ⟨rfl, ?_⟩
  show b_cs { nx := fun _ st' => Q (okO .non) st', rt := Q } [some p, some u, some a, some d] st
  unfold b_cs
  walk_at "r"
  exact cw_ok hd h (.inr ⟨_, _, rfl, q⟩)
theorem rt_ok {p u a w d : D} (hd : DrawAt st) (h : SpoB d st) (q : Q (exO "BadBounds" []) st) : c_rt [p, u, a, w, d] st Q := by
  refine ⟨rfl, ?_⟩
  show b_rt { nx := fun _ st' => Q (okO .non) st', rt := Q } [some p, some u, some a, some w, some d] st
  unfold b_rt
  walk_at "r"
  exact cs_ok hd h (.inr ⟨_, _, rfl, q⟩)
theorem run_refused_ok {p a d : D} (hd : DrawAt st) (h : SpoB d st) (q : Q (.bl true) st) : c_rref [p, a, d] st Q := by
  refine ⟨rfl, ?_⟩
  show b_l_run_refused { nx := fun _ st' => Q .non st', rt := Q } [some p, some a, some d, none] st
  unfold b_l_run_refused
  walk_at "t"
  exact rt_ok hd h (.inr ⟨rfl, q⟩)
theorem law_holds (ns : List Int) (hl : ns.length ≤ 63) (hb : ∀ z ∈ ns, PySem.Builtin.Int.intBits z ≤ 1048576) : callN prog 61 "law" [.ref 0] [.frz (ns.map D.int)] (fun d _ => d = .bl true) := by
  refine call_intro rfl rfl ?_
  unfold b_l_law
  walk_at "s"
  refine begin_ok rfl hl fun s0 hd0 hl0 => ?_
  walk_at "r"
  refine right_ok (k := 58) hd0 fun a b c d s1 G f1 => ?_
  walk_at "r"
  refine cb_good G.ha G.hb G.hc G.hd ⟨_, rfl, ?_⟩
  walk_at "r"
  refine way (fun h => absurd h (by decide)) (fun _ => ?_)
  walk_at "t"
  refine ne_self (d := bndD 24 4 4 8) (by decide) (fun n h => by cases h) ?_
  walk_at "r"
  refine cb_good (a := 24) (b := 4) (c := 4) (d := 8) (by decide) (by decide) (by decide) (by decide) ⟨_, rfl, ?_⟩
  walk_at "r"
  refine way (fun h => absurd h (by decide)) (fun _ => ?_)
  walk_at "r"
  refine spoilt_ok (k := 57) G f1.dr fun x s2 hx f2 => ?_
  walk_at "t"
  refine pick_ok rfl rfl f2.dr.app rdL_new (by have := f2.dr.lt; omega) (by simp) (by simp) fun y s3 hy f3 _ => ?_
  have hx3 := hx.later ((Fra.refl f2.dr).app.trans f3)
  walk_at "r"
  refine refused_ok f3.dr hx3 ?_
  walk_at "r"
  refine run_refused_ok f3.dr hx3 ?_
  walk_at "r"
  rfl
end Pk02
end PartPdk02P3

section PartPdk02T
open PySem PySem.W PyProof.Rows
set_option maxRecDepth 100000 in
set_option maxHeartbeats 0 in
theorem PySem.Challenge.cw_metorshut_k02_bounds_checked_holds : PySem.Challenge.rw_metorshut_k02_bounds_checked.Holds := by
  w_on; o_law; k_head; (case hw => w_witness2)
  k_fill
  refine L2.walk_ofB (l := PySem.Challenge.rw_metorshut_k02_bounds_checked) (n := 63) (k := 61) (x := "_law_script") (CX := fun _ => L2.CX0) (sp := fun w => Pd.liftF _ 1 (Pd.callN Pk02.prog 61 "law")) rfl (by decide) rfl ⟨rfl, by decide, by decide⟩ (fun w h Y => PySem.W.kIn_of Y) ?F (fun _ _ a ns hl hb hO hS => Pd.law_sp (Pk02.law_holds ns hl hb) hO hS) (fun _ _ _ _ _ h => h)
  case F =>
    intro w mg fa h KX G hmg
    refine' Pk02.all_mk KX G hmg ?a1 ?l1 ?c1 ?k1 ?a2 ?l2 ?c2 ?k2 ?a3 ?l3 ?c3 ?k3 ?a4 ?l4 ?c4 ?k4 ?a5 ?l5 ?c5 ?k5 ?a6 ?l6 ?c6 ?k6 ?a7 ?l7 ?c7 ?k7 ?a8 ?l8 ?c8 ?k8 ?a9 ?l9 ?c9 ?k9 ?z1 ?z2 ?z3 ?z4 ?z5 ?z6 ?z7 ?z8 ?g1 ?gl1 ?gc1 ?ge1 ?g2 ?gl2 ?gc2 ?ge2 ?g3 ?gl3 ?gc3 ?ge3 ?tB ?gB ?lB ?rB ?saB ?exB ?kcB ?thB ?supB ?svB ?slB ?iB ?tI ?lI ?cdI ?lcI ?vI ?hfI ?lcc ?htop ?zsup ?zve ?gCM ?gCR ?gCC ?gCL ?gCI ?gCT ?x1 ?x2 ?e1 ?e2 ?e4 ?e5 ?e6 ?e7 ?e8 ?q1 ?q2 ?q3 ?q4 ?aW ?lW ?cW ?kW ?aS ?lS ?cS ?kS ?aR ?lR ?cR_ ?kR ?lT
    (case a1 => k_is); (case l1 => k_is); (case c1 => k_is); (case k1 => k_is)
    (case a2 => k_is); (case l2 => k_is); (case c2 => k_is); (case k2 => k_is)
    (case a3 => k_is); (case l3 => k_is); (case c3 => k_is); (case k3 => k_is)
    (case a4 => k_is); (case l4 => k_is); (case c4 => k_is); (case k4 => k_is)
    (case a5 => k_is); (case l5 => k_is); (case c5 => k_is); (case k5 => k_is)
    (case a6 => k_is); (case l6 => k_is); (case c6 => k_is); (case k6 => k_is)
    (case a7 => k_is); (case l7 => k_is); (case c7 => k_is); (case k7 => k_is)
    (case a8 => k_is); (case l8 => k_is); (case c8 => k_is); (case k8 => k_is)
    (case a9 => k_is); (case l9 => k_is); (case c9 => k_is); (case k9 => k_is)
    (case z1 => k_is)
    (case z2 => k_is)
    (case z3 => k_is)
    (case z4 => k_is)
    (case z5 => k_is)
    (case z6 => k_is)
    (case z7 => k_is)
    (case z8 => k_is)
    (case g1 => k_is); (case gl1 => k_is); (case gc1 => exact rfl); (case ge1 => exact by decide +kernel)
    (case g2 => k_is); (case gl2 => k_is); (case gc2 => exact rfl); (case ge2 => exact by decide +kernel)
    (case g3 => k_is); (case gl3 => k_is); (case gc3 => exact rfl); (case ge3 => exact by decide +kernel)
    (case tB => first | k_is | exact rfl | kernel_rfl | exact by decide +kernel)
    (case gB => first | k_is | exact rfl | kernel_rfl | exact by decide +kernel)
    (case lB => first | k_is | exact rfl | kernel_rfl | exact by decide +kernel)
    (case rB => first | k_is | exact rfl | kernel_rfl | exact by decide +kernel)
    (case saB => first | k_is | exact rfl | kernel_rfl | exact by decide +kernel)
    (case exB => first | k_is | exact rfl | kernel_rfl | exact by decide +kernel)
    (case kcB => first | k_is | exact rfl | kernel_rfl | exact by decide +kernel)
    (case thB => first | k_is | exact rfl | kernel_rfl | exact by decide +kernel)
    (case supB => first | k_is | exact rfl | kernel_rfl | exact by decide +kernel)
    (case svB => first | k_is | exact rfl | kernel_rfl | exact by decide +kernel)
    (case slB => first | k_is | exact rfl | kernel_rfl | exact by decide +kernel)
    (case iB => first | k_is | exact rfl | kernel_rfl | exact by decide +kernel)
    (case tI => first | k_is | exact rfl | kernel_rfl | exact by decide +kernel)
    (case lI => first | k_is | exact rfl | kernel_rfl | exact by decide +kernel)
    (case cdI => first | k_is | exact rfl | kernel_rfl | exact by decide +kernel)
    (case lcI => first | k_is | exact rfl | kernel_rfl | exact by decide +kernel)
    (case vI => first | k_is | exact rfl | kernel_rfl | exact by decide +kernel)
    (case hfI => first | k_is | exact rfl | kernel_rfl | exact by decide +kernel)
    (case lcc => first | k_is | exact rfl | kernel_rfl | exact by decide +kernel)
    (case htop => first | k_is | exact rfl | kernel_rfl | exact by decide +kernel)
    (case zsup => first | k_is | exact rfl | kernel_rfl | exact by decide +kernel)
    (case zve => first | k_is | exact rfl | kernel_rfl | exact by decide +kernel)
    (case gCM => first | k_is | exact rfl | kernel_rfl | exact by decide +kernel)
    (case gCR => first | k_is | exact rfl | kernel_rfl | exact by decide +kernel)
    (case gCC => first | k_is | exact rfl | kernel_rfl | exact by decide +kernel)
    (case gCL => first | k_is | exact rfl | kernel_rfl | exact by decide +kernel)
    (case gCI => first | k_is | exact rfl | kernel_rfl | exact by decide +kernel)
    (case gCT => first | k_is | exact rfl | kernel_rfl | exact by decide +kernel)
    (case x1 => first | k_is | exact rfl | kernel_rfl | exact by decide +kernel)
    (case x2 => first | k_is | exact rfl | kernel_rfl | exact by decide +kernel)
    (case e1 => first | k_is | exact rfl | kernel_rfl | exact by decide +kernel)
    (case e2 => first | k_is | exact rfl | kernel_rfl | exact by decide +kernel)
    (case e4 => first | k_is | exact rfl | kernel_rfl | exact by decide +kernel)
    (case e5 => first | k_is | exact rfl | kernel_rfl | exact by decide +kernel)
    (case e6 => first | k_is | exact rfl | kernel_rfl | exact by decide +kernel)
    (case e7 => first | k_is | exact rfl | kernel_rfl | exact by decide +kernel)
    (case e8 => first | k_is | exact rfl | kernel_rfl | exact by decide +kernel)
    (case q1 => first | k_is | exact rfl | kernel_rfl | exact by decide +kernel)
    (case q2 => first | k_is | exact rfl | kernel_rfl | exact by decide +kernel)
    (case q3 => first | k_is | exact rfl | kernel_rfl | exact by decide +kernel)
    (case q4 => first | k_is | exact rfl | kernel_rfl | exact by decide +kernel)
    (case aW => first | k_is | exact rfl | kernel_rfl | exact by decide +kernel)
    (case lW => first | k_is | exact rfl | kernel_rfl | exact by decide +kernel)
    (case cW => first | k_is | exact rfl | kernel_rfl | exact by decide +kernel)
    (case kW => first | k_is | exact rfl | kernel_rfl | exact by decide +kernel)
    (case aS => first | k_is | exact rfl | kernel_rfl | exact by decide +kernel)
    (case lS => first | k_is | exact rfl | kernel_rfl | exact by decide +kernel)
    (case cS => first | k_is | exact rfl | kernel_rfl | exact by decide +kernel)
    (case kS => first | k_is | exact rfl | kernel_rfl | exact by decide +kernel)
    (case aR => first | k_is | exact rfl | kernel_rfl | exact by decide +kernel)
    (case lR => first | k_is | exact rfl | kernel_rfl | exact by decide +kernel)
    (case cR_ => first | k_is | exact rfl | kernel_rfl | exact by decide +kernel)
    (case kR => first | k_is | exact rfl | kernel_rfl | exact by decide +kernel)
    (case lT => first | k_is | exact rfl | kernel_rfl | exact by decide +kernel)
end PartPdk02T
