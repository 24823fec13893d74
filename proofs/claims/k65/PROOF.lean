import PyProof.Rows.All
import Wide.All
import OpenK.AllK
import Wide.FinOn
import KE.KStateDown
import KE.KTupSum
import HandS.Base
import HandS.Call
import HandS.List
import HandS.Comp
import HandS.Ends
import HandS.Iter
import HandS.Text
import HandS.Walk
import HandS.Wide
import HandS.Rev
import HandS.Zip
import HandS.TupAny
import HandS.TupMul
import HandS.Style
import HandS.IsInst
import HandS.Deep
import HandS.Exc
import HandS.ExcOwn
import HandS.TryOnly
import HandS.CallSlots
import HandS.RevRange
import HandS.More
import HandS.SetFor
import HandS.Words
import HandS.WordsExc
import HandS.WordsList
import HandS.ExcIs
import KE.KIsAll
import HandS.Dict
import HandS.TupLe
import KE.KDictKeyed
import KE.SortData
import KE.GoesEnum
import KE.KDictWalk
import KE.OsSort
import HandS.Defaults
import HandS.Head0
import HandS.Head1
import HandS.Head2
import HandS.HeadEnd
import HandS.EndBits
import HandS.HeadHook1
import HandS.HeadHook2
import HandS.HeadHook4
import PySem.Challenge.RW_rootcourt_k65_whole_root_sums_reckoned
set_option Elab.async false
set_option linter.all false
set_option maxRecDepth 100000
set_option maxHeartbeats 4000000
/-! The small language: its data, its terms, what they mean. No heap here. -/
namespace Rc
open PySem

abbrev D := PyData
/-- what a name holds: data that stands still, or a list that this frame alone has and may change -/
inductive Val where
  | d (x : D) | own (xs : List D) | many (xs : List D) | exc (c : Nat)
  /- a list that is lent to this frame: the caller's, and this frame may change it; two: what a def that borrows tells, and the list behind -/
  | lent (xs : List D) | two (x : D) (xs : List D) | twoO (ys xs : List D)
  /- a dict of the frame's own: keys whole numbers, or tuples of them -/
  | dI (kvs : List (Int × D)) | dT (kvs : List (List Int × D))
abbrev Ev := List (Option Val)
def gv : Ev → Nat → Option Val
  | [], _ => none
  | x :: _, 0 => x
  | _ :: r, n + 1 => gv r n
def pv : Ev → Nat → Option Val → Ev
  | [], _, _ => []
  | _ :: r, 0, v => v :: r
  | x :: r, n + 1, v => x :: pv r n v

mutual
/-- data without a list in it -/
def noL : D → Bool
  | .list _ => false
  | .dict _ => false
  | .tuple xs => noLs xs
  | _ => true
def noLs : List D → Bool
  | [] => true
  | x :: r => noL x && noLs r
end
/-- what a def that borrows tells -/
def kT (k : Val → List D → Prop) : Val → Prop := fun v => match v with
  | .two x xs => k (.d x) xs
  | .twoO ys xs => k (.own ys) xs
  | _ => False
/-- .. where lists of the frame's own were looked at -/
def kTP (k : Val → List D → Prop) : Val → Prop := fun v => match v with
  | .two x xs => noL x = true ∧ noLs xs = true ∧ k (.d x) xs
  | .twoO ys xs => noLs ys = true ∧ noLs xs = true ∧ k (.own ys) xs
  | _ => False
def noTwo : Val → Bool
  | .two _ _ => false
  | .twoO _ _ => false
  | _ => true
/-- what was lent is out of sight -/
def unlend : Ev → Ev
  | [] => []
  | some (.lent _) :: r => none :: unlend r
  | o :: r => o :: unlend r
/-- the list that is lent -/
def lentAt (ε : Ev) (j : Nat) (k : List D → Prop) : Prop := match gv ε j with
  | some (.lent xs) => k xs
  | _ => False
/-! ### dicts -/
section
variable {κ : Type} [DecidableEq κ]
def lkp (kvs : List (κ × D)) (k : κ) : Option D := (kvs.find? fun kv => decide (kv.1 = k)).map (·.2)
def putL (kvs : List (κ × D)) (k : κ) (v : D) : List (κ × D) :=
  if (kvs.any fun kv => decide (kv.1 = k)) = true then kvs.map (fun kv => if kv.1 = k then (kv.1, v) else kv) else kvs ++ [(k, v)]
end
def isDc : Val → Bool
  | .dI _ => true
  | .dT _ => true
  | _ => false
/-- the dict of a name -/
def dictAt (ε : Ev) (j : Nat) (k : Val → Prop) : Prop := match gv ε j with
  | some (.dI kvs) => k (.dI kvs)
  | some (.dT kvs) => k (.dT kvs)
  | _ => False
inductive Ty where
  | int | bool | tuple | list | str
  deriving DecidableEq
inductive Bi where
  | abs | int | list | tuple | max | min | all | any | sum | str
  deriving DecidableEq
inductive Tg where
  | one (j : Nat) | tup (js : List Nat) | nst (js : List Nat) (j : Nat)
inductive IE where
  | nil | cons (a r : IE) | consP (a r : IE)
  | var (j : Nat) | mov (j : Nat)
  | cst (c : D)
  | tup (a : IE) | lst (a : IE)
  | bin (o : Operator) (a b : IE)
  | cmp (o : CmpOp) (a b : IE)
  | neg (a : IE)
  | bnot (a : IE) | band (a r : IE) | bor (a r : IE) | bone (a : IE)
  | ite (c a b : IE)
  | ix (a b : IE)
  | sl (a lo hi : IE)
  | rev (a : IE)
  | call (f : Nat) (a : IE) | callP (f : Nat) (a : IE)
  | bi (b : Bi) (a : IE) | len (a : IE)
  | isi (t : Ty) (a : IE)
  | isx (c : Nat) (j : Nat)
  | itv (a : IE) | rng1 (a : IE) | rng2 (a b : IE) | rngd (a b : IE) | enm (a : IE) | rvd (a : IE) | zip (a b : IE)
  | lc (t : Tg) (it c elt : IE)
  | inn (neg : Bool) (a b : IE) | cmp2 (o o' : CmpOp) (a b c : IE) | cnt (a b : IE) | dsp (kvs : List (Str × D)) (a : IE) | rvr (a : IE) | gc (f : Nat) (d : D) | lsc (a : IE) | idx (a b : IE)
  | callL (f j : Nat) (a : IE) | lemp (j : Nat) | lix (j n : Nat) | lpop0 (j : Nat)
  | lcL (t : Tg) (it elt : IE) (j : Nat) | callLP (f j : Nat) (a : IE) | lcK (t : Tg) (it elt : IE) (j : Nat)
  /- d.get(k, x); d[k]; sorted(d); [.. for t in d.items() if c]; a comprehension that looks at a dict; sorted(xs) -/
  | dget (j : Nat) (k x : IE) | dix (j : Nat) (k : IE) | dsrt (j : Nat) | dlc (t : Tg) (c elt : IE) (j : Nat) | lcD (t : Tg) (it c elt : IE) (j : Nat) | srt (a : IE)
  /- a written tuple of written things -/
  | lit (d : D)
/-- what an except suite reckons: it knows the class that was caught alone -/
inductive HE where
  | cst (c : D) | isx (c : Nat) | isv
  | bnot (a : HE) | band (a r : HE) | bor (a r : HE) | bone (a : HE)
inductive HS where
  | nil | asg (j : Nat) (e : HE) (r : HS) | ite (c : HE) (a b r : HS) | ret (e : HE)
/-- class c' is a class c: class 0 is above all others -/
def isS (c' c : Nat) : Bool := c == 0 || c == c'
def hB (c' : Nat) : HE → Bool
  | .cst (.bool b) => b
  | .cst _ => false
  | .isx c => isS c' c
  | .isv => true
  | .bnot a => !hB c' a
  | .band a r => hB c' a && hB c' r
  | .bor a r => hB c' a || hB c' r
  | .bone a => hB c' a
def hE (c' : Nat) : HE → D
  | .cst c => c
  | e => .bool (hB c' e)
inductive IS where
  | nil | seq (s r : IS) | still (j : Nat) (r : IS)
  | asg (j : Nat) (e : IE)
  | asgT (js : List Nat) (e : IE)
  | par (i j : Nat) (a b : IE) | par3 (i j l : Nat) (a b c : IE)
  | setIx (j : Nat) (k e : IE)
  | app (j : Nat) (e : IE) | pop (j : Nat) | popT (t : Tg) (j : Nat) | ins (j : Nat) (k e : IE) | clr (j : Nat)
  | drop (e : IE)
  | ret (e : IE) | retN
  | ite (c : IE) (a b : IS) | whl (c : IE) (b : IS) | forr (t : Tg) (it : IE) (b : IS)
  | raise (c : Nat)
  | try1 (b : IS) (c : Nat) (j : Option Nat) (h : HS)
  | brk | cont | pass | never
  | aug (j : Nat) (o : Operator) (e : IE) | ext (j : Nat) (e : IE) | popI (t : Tg) (j : Nat) (k : IE)
  | set2 (j : Nat) (k l e : IE)
  | clrE (e : IE) | forP (t : Tg) (j : Nat) (c e : IE)
  | lend (j : Nat) (r : IS) | lfn (r : IS) | retL (e : IE) | lset (j n : Nat) (e : IE)
  | asgN (t : Tg) (e : IE)
  | dnew (j : Nat) (tup : Bool) | dset (j : Nat) (k e : IE)

/-- what may be wanted of an error -/
abbrev XP := Nat → Ev → Prop
abbrev KE := Val → Ev → Prop
def kD (k : D → Ev → Prop) : KE := fun v ε => match v with
  | .d x => k x ε
  | .own xs => k (.list xs) ε
  | _ => False
def kM (k : List D → Ev → Prop) : KE := fun v ε => match v with
  | .many xs => k xs ε
  | _ => False
def kB (k : Bool → Ev → Prop) : KE := fun v ε => match v with
  | .d (.bool b) => k b ε
  | _ => False
/-- a name, looked at -/
def isVar : IE → Option Nat
  | .var j => some j
  | _ => none
def peek (ε : Ev) (j : Nat) (k : D → Ev → Prop) : Prop := match gv ε j with
  | some (.d x) => k x ε
  | some (.own xs) => k (.list xs) ε
  | _ => False

def cut {α : Type} (xs : List α) (lo hi : Option Int) : List α := (xs.drop (HT.sIx xs.length 0 lo)).take (HT.sIx xs.length xs.length hi - HT.sIx xs.length 0 lo)
def small64 (i : Int) : Prop := -(2 ^ 64) < i ∧ i < 2 ^ 64
def mulOk (i j : Int) : Prop := small64 i ∨ small64 j ∨ i.natAbs.log2 + j.natAbs.log2 + 2 ≤ 134217728
def opW : Operator → D → D → (Val → Prop) → Prop
  | .Add, .int i, .int j, Q => Q (.d (.int (i + j)))
  | .Add, .tuple a, .tuple b, Q => a.length + b.length ≤ 16777216 ∧ Q (.d (.tuple (a ++ b)))
  | .Add, .list a, .list b, Q => a.length + b.length ≤ 16777216 ∧ Q (.own (a ++ b))
  | .Add, .str a, .str b, Q => a.length + b.length ≤ 16777216 ∧ Q (.d (.str (a ++ b)))
  | .Sub, .int i, .int j, Q => Q (.d (.int (i - j)))
  | .Mult, .int i, .int j, Q => mulOk i j ∧ Q (.d (.int (i * j)))
  | .Mult, .list a, .int k, Q => -(2 ^ 63) ≤ k ∧ k < 2 ^ 63 ∧ a.length * k.toNat ≤ 16777216 ∧ Q (.own (List.replicate k.toNat a).flatten)
  | .FloorDiv, .int i, .int j, Q => j ≠ 0 ∧ Q (.d (.int (i.fdiv j)))
  | .Mod, .int i, .int j, Q => j ≠ 0 ∧ Q (.d (.int (i.fmod j)))
  | .Pow, .int i, .int j, Q => 0 ≤ j ∧ j ≤ 1000000 ∧ small64 i ∧ Q (.d (.int (i ^ j.toNat)))
  | .LShift, .int i, .int j, Q => 0 ≤ j ∧ j ≤ 1000000 ∧ small64 i ∧ Q (.d (.int (i * 2 ^ j.toNat)))
  | .RShift, .int i, .int j, Q => 0 ≤ j ∧ Q (.d (.int (i / 2 ^ j.toNat)))
  | .BitAnd, .int i, .int j, Q => Q (.d (.int (Builtin.bitAnd i j)))
  | .Mult, .tuple a, .int k, Q => -(2 ^ 63) ≤ k ∧ k ≤ 1000 ∧ a.length ≤ 1000 ∧ Q (.d (.tuple (List.replicate k.toNat a).flatten))
  | _, _, _, _ => False
def isNone : D → Bool
  | .none => true
  | _ => false
def asInts : List D → Option (List Int)
  | [] => some []
  | .int i :: r => (asInts r).map (i :: ·)
  | _ :: _ => none
/-- x >= y of rows of whole numbers -/
def geI : List Int → List Int → Bool
  | _, [] => true
  | [], _ :: _ => false
  | x :: r, y :: t => if x = y then geI r t else decide (y ≤ x)
def cmpW : CmpOp → D → D → (Bool → Prop) → Prop
  | .Eq, .int i, .int j, Q => Q (decide (i = j))
  | .NotEq, .int i, .int j, Q => Q (!decide (i = j))
  | .Eq, a, b, Q => SeqAt.shaped a = true ∧ SeqAt.shaped b = true ∧ Q (PyData.eqv a b)
  | .NotEq, a, b, Q => SeqAt.shaped a = true ∧ SeqAt.shaped b = true ∧ Q (!PyData.eqv a b)
  | .Lt, .int i, .int j, Q => Q (decide (i < j))
  | .LtE, .int i, .int j, Q => Q (decide (i ≤ j))
  | .Gt, .int i, .int j, Q => Q (decide (j < i))
  | .GtE, .int i, .int j, Q => Q (decide (j ≤ i))
  | .Is, a, .none, Q => Q (isNone a)
  | .IsNot, a, .none, Q => Q (!isNone a)
  | .Is, .bool a, .bool b, Q => Q (decide (a = b))
  | .IsNot, .bool a, .bool b, Q => Q (!decide (a = b))
  | .GtE, .tuple a, .tuple b, Q => ∃ ns ms, asInts a = some ns ∧ asInts b = some ms ∧ Q (geI ns ms)
  | _, _, _, _ => False
def flatD : D → Bool
  | .none | .bool _ | .int _ | .str _ => true
  | _ => false
/-- x in y -/
def inW : D → D → (Bool → Prop) → Prop
  | x, .list ys, Q => SeqAt.shaped x = true ∧ SeqAt.shaped (.list ys) = true ∧ Q (ys.any fun z => PyData.eqv z x)
  | .tuple zs, .tuple ys, Q => SeqAt.shaped (.tuple zs) = true ∧ SeqAt.shaped (.tuple ys) = true ∧ Q (ys.any fun z => PyData.eqv z (.tuple zs))
  | x, .tuple ys, Q => flatD x = true ∧ ys.all flatD = true ∧ Q (ys.any fun z => PyData.eqv z x)
  | .str i, .str j, Q => Q (!(Builtin.Str.occurrences j i 0 j.length 1).isEmpty)
  | _, _, _ => False
/-- what a display of texts tells -/
def dspGet (s : Str) : List (Str × D) → Option D
  | [] => none
  | (x, d) :: r => if x = s then some d else dspGet s r
def dspW (kvs : List (Str × D)) : D → (D → Prop) → Prop
  | .str s, Q => ∃ d, dspGet s kvs = some d ∧ Q d
  | _, _ => False
def ixW : D → D → (D → Prop) → Prop
  | .list xs, .int i, Q => ∃ v, L2.atI xs i = some v ∧ Q v
  | .tuple xs, .int i, Q => ∃ v, L2.atI xs i = some v ∧ Q v
  | _, _, _ => False
def slW : D → Option Int → Option Int → (Val → Prop) → Prop
  | .list xs, lo, hi, Q => Q (.own (cut xs lo hi))
  | .tuple xs, lo, hi, Q => Q (.d (.tuple (cut xs lo hi)))
  | _, _, _, _ => False
def revW : D → (Val → Prop) → Prop
  | .list xs, Q => Q (.own xs.reverse)
  | .tuple xs, Q => Q (.d (.tuple xs.reverse))
  | _, _ => False
def isT : Ty → D → Bool
  | .int, .int _ => true
  | .int, .bool _ => true
  | .bool, .bool _ => true
  | .tuple, .tuple _ => true
  | .list, .list _ => true
  | .str, .str _ => true
  | _, _ => false
def asBools : List D → Option (List Bool)
  | [] => some []
  | .bool i :: r => (asBools r).map (i :: ·)
  | _ :: _ => none
def biW : Bi → List D → (Val → Prop) → Prop
  | .abs, [.int i], Q => Q (.d (.int (if i < 0 then -i else i)))
  | .int, [.int i], Q => Q (.d (.int i))
  | .int, [.bool b], Q => Q (.d (.int (if b then 1 else 0)))
  | .list, [.list xs], Q => Q (.own xs)
  | .list, [.tuple xs], Q => Q (.own xs)
  | .tuple, [.list xs], Q => Q (.d (.tuple xs))
  | .tuple, [.tuple xs], Q => Q (.d (.tuple xs))
  | .max, [.int i, .int j], Q => Q (.d (.int (if j > i then j else i)))
  | .min, [.int i, .int j], Q => Q (.d (.int (if j < i then j else i)))
  | .max, [.list xs], Q => ∃ ns m, asInts xs = some ns ∧ m ∈ ns ∧ (∀ y ∈ ns, y ≤ m) ∧ Q (.d (.int m))
  | .min, [.list xs], Q => ∃ ns m, asInts xs = some ns ∧ m ∈ ns ∧ (∀ y ∈ ns, m ≤ y) ∧ Q (.d (.int m))
  | .sum, [.list xs], Q => ∃ ns, asInts xs = some ns ∧ Q (.d (.int ns.sum))
  | .sum, [.tuple xs], Q => ∃ ns, asInts xs = some ns ∧ Q (.d (.int ns.sum))
  | .all, [.list xs], Q => ∃ bs, asBools xs = some bs ∧ Q (.d (.bool (bs.all id)))
  | .any, [.list xs], Q => ∃ bs, asBools xs = some bs ∧ Q (.d (.bool (bs.any id)))
  | .str, [.int i], Q => i.natAbs.log2 < 1920 ∧ Q (.d (.str (toString i)))
  | _, _, _ => False
def cntW : D → D → (Int → Prop) → Prop
  | .list xs, .int i, Q => ∃ ns, asInts xs = some ns ∧ Q ((ns.count i : Nat) : Int)
  | _, _, _ => False
/-- the place of the first thing that is equal -/
def idxW : D → D → (Int → Prop) → Prop
  | .list xs, y, Q => SeqAt.shaped (.list xs) = true ∧ SeqAt.shaped y = true ∧ ∃ (j : Nat) (z : D), xs[j]? = some z ∧ PyData.eqv z y = true ∧ (∀ (m : Nat) (z' : D), m < j → xs[m]? = some z' → PyData.eqv z' y = false) ∧ Q (j : Nat)
  | _, _, _ => False
def lenW : D → (Int → Prop) → Prop
  | .list xs, Q => Q xs.length
  | .tuple xs, Q => Q xs.length
  | _, _ => False
def rngW1 : D → (List D → Prop) → Prop
  | .int n, Q => (n < 2 ^ 62 ∧ -(2 ^ 62) ≤ n) ∧ Q ((List.range n.toNat).map fun (i : Nat) => .int i)
  | _, _ => False
def rngW2 : D → D → (List D → Prop) → Prop
  | .int a, .int b, Q => (-(2 ^ 62) ≤ a ∧ a < 2 ^ 62 ∧ -(2 ^ 62) ≤ b ∧ b < 2 ^ 62) ∧ Q ((List.range (b - a).toNat).map fun (i : Nat) => .int (a + i))
  | _, _, _ => False
def rngWd : D → D → (List D → Prop) → Prop
  | .int a, .int b, Q => (-(2 ^ 62) ≤ a ∧ a < 2 ^ 62 ∧ -(2 ^ 62) ≤ b ∧ b < 2 ^ 62) ∧ Q ((List.range (a - b).toNat).map fun (i : Nat) => .int (a - i))
  | _, _, _ => False
def items : D → Option (List D)
  | .list xs => some xs
  | .tuple xs => some xs
  | _ => none
def enums (n : Nat) : List D → List D
  | [] => []
  | x :: r => .tuple [.int n, x] :: enums (n + 1) r
def zips : List D → List D → List D
  | x :: r, y :: t => .tuple [x, y] :: zips r t
  | _, _ => []
def zipW : D → D → (List D → Prop) → Prop
  | .list xs, .list ys, Q => Q (zips xs ys)
  | .tuple xs, .tuple ys, Q => Q (zips xs ys)
  | _, _, _ => False
def setAll : List Nat → List D → Ev → Ev
  | j :: js, x :: xs, ε => setAll js xs (pv ε j (some (.d x)))
  | _, _, ε => ε
def tgW : Tg → D → Ev → (Ev → Prop) → Prop
  | .one j, x, ε, K => K (pv ε j (some (.d x)))
  | .tup js, .tuple xs, ε, K => xs.length = js.length ∧ K (setAll js xs ε)
  | .nst js j, .tuple [.tuple xs, y], ε, K => xs.length = js.length ∧ K (pv (setAll js xs ε) j (some (.d y)))
  | _, _, _, _ => False
def tgs : Tg → List Nat
  | .one j => [j]
  | .tup js => js
  | .nst js j => js ++ [j]
def wipeE (ε : Ev) : List Nat → Ev
  | [] => ε
  | j :: js => pv (wipeE ε js) j none
/-- a frame's own lists are out of sight -/
def blind : Ev → Ev
  | [] => []
  | some (.d x) :: r => some (.d x) :: blind r
  | _ :: r => none :: blind r
/-- a comprehension's turns: C the test, E the element -/
def lcW (t : Tg) (ε : Ev) (C : Ev → (Bool → Ev → Prop) → Prop) (E : Ev → (D → Ev → Prop) → Prop) : List D → List D → (List D → Prop) → Prop
  | [], acc, K => K acc
  | x :: r, acc, K => tgW t x (wipeE (blind ε) (tgs t)) fun ε1 => C ε1 fun b ε2 =>
      if b = true then E ε2 fun y _ => acc.length < 16777216 ∧ lcW t ε C E r (acc ++ [y]) K else lcW t ε C E r acc K
/-- a key of a dict -/
def keyI : D → Option Int
  | .int i => some i
  | _ => none
def keyT : D → Option (List Int)
  | .tuple xs => asInts xs
  | _ => none
def dGetW : Val → D → (Option D → Prop) → Prop
  | .dI kvs, y, Q => ∃ i, keyI y = some i ∧ Q (lkp kvs i)
  | .dT kvs, y, Q => ∃ i, keyT y = some i ∧ Q (lkp kvs i)
  | _, _, _ => False
def dPutW : Val → D → D → (Val → Prop) → Prop
  | .dI kvs, y, v, Q => ∃ i, keyI y = some i ∧ kvs.length < 16777216 ∧ Q (.dI (putL kvs i v))
  | .dT kvs, y, v, Q => ∃ i, keyT y = some i ∧ kvs.length < 16777216 ∧ Q (.dT (putL kvs i v))
  | _, _, _, _ => False
/-- sorted(d), keys whole numbers -/
def dSrtW : Val → (List D → Prop) → Prop
  | .dI kvs, Q => kvs.length < 64 ∧ Q (((kvs.map (·.1)).mergeSort fun x y => decide (x ≤ y)).map .int)
  | _, _ => False
def itemsD : Val → List D
  | .dI kvs => kvs.map fun kv => .tuple [.int kv.1, kv.2]
  | .dT kvs => kvs.map fun kv => .tuple [.tuple (kv.1.map .int), kv.2]
  | _ => []
/-- sorted(xs) -/
def srtW : D → (List D → Prop) → Prop
  | .list xs, Q => PySem.W.AllAlike xs ∧ PySem.W.Sortable xs ∧ (xs.length ≤ 16777216 ∧ ∀ d ∈ xs, d.depth ≤ 16) ∧ Q (xs.mergeSort (PySem.W.dataLe false id))
  | _, _ => False
def ownAt (ε : Ev) (j : Nat) (k : List D → Prop) : Prop := match gv ε j with
  | some (.own xs) => k xs
  | _ => False
/-- a comprehension whose elements look at a list that is a name's own -/
def lckW (t : Tg) (ε : Ev) (j : Nat) (L : List D) (E : Ev → (D → Ev → Prop) → Prop) : List D → List D → (List D → Prop) → Prop
  | [], acc, K => K acc
  | x :: r, acc, K => tgW t x (pv (wipeE (blind ε) (tgs t)) j (some (.own L))) fun ε1 => E ε1 fun y ε2 => ownAt ε2 j fun _ => acc.length < 16777216 ∧ lckW t ε j L E r (acc ++ [y]) K
/-- a comprehension that looks at a dict -/
def lcdW (t : Tg) (ε : Ev) (j : Nat) (v : Val) (C : Ev → (Bool → Ev → Prop) → Prop) (E : Ev → (D → Ev → Prop) → Prop) : List D → List D → (List D → Prop) → Prop
  | [], acc, K => K acc
  | x :: r, acc, K => tgW t x (pv (wipeE (blind ε) (tgs t)) j (some v)) fun ε1 => C ε1 fun b ε2 =>
      if b = true then E ε2 fun y ε3 => dictAt ε3 j fun _ => acc.length < 16777216 ∧ lcdW t ε j v C E r (acc ++ [y]) K else dictAt ε2 j fun _ => lcdW t ε j v C E r acc K
/-- a comprehension whose elements change the list that is lent -/
def lclW (t : Tg) (ε : Ev) (j : Nat) (E : Ev → (D → Ev → Prop) → Prop) : List D → List D → List D → (List D → List D → Prop) → Prop
  | [], acc, L, K => K acc L
  | x :: r, acc, L, K => tgW t x (pv (wipeE (blind ε) (tgs t)) j (some (.lent L))) fun ε1 => E ε1 fun y ε2 => lentAt ε2 j fun L' => acc.length < 16777216 ∧ lclW t ε j E r (acc ++ [y]) L' K
/-- what the defs do -/
abbrev Fs := Nat → List D → (Nat → Prop) → (Val → Prop) → Prop
def flat : Val → Bool
  | .d .none | .d (.bool _) | .d (.int _) | .d (.str _) => true
  | .d (.tuple xs) => noLs xs
  | _ => false
/-- an operand: a name is only looked at -/
def pkW (i : IE) (ε : Ev) (T : KE → Prop) (k : D → Ev → Prop) : Prop := match isVar i with
  | some j => peek ε j k
  | none => T (kD k)
def isNil : IE → Bool
  | .nil => true
  | _ => false
def ptW (i : IE) (ε : Ev) (T : KE → Prop) (k : Option Int → Ev → Prop) : Prop :=
  if isNil i = true then k none ε else T (kD fun y ε1 => match y with | .int h => k (some h) ε1 | _ => False)
section
variable (Φ : Fs)
def wE : IE → Ev → XP → KE → Prop
  | .nil, ε, _, Q => Q (.many []) ε
  | .cons a r, ε, X, Q => wE a ε X (kD fun x ε1 => wE r ε1 X (kM fun xs ε2 => Q (.many (x :: xs)) ε2))
  | .consP a r, ε, X, Q => pkW a ε (fun T => wE a ε X T) fun x ε1 => wE r ε1 X (kM fun xs ε2 => Q (.many (x :: xs)) ε2)
  | .var j, ε, _, Q => (match gv ε j with
    | some (.d x) => Q (.d x) ε
    | some (.own xs) => Q (.d (.list xs)) (pv ε j (some (.d (.list xs))))
    | _ => False)
  | .mov j, ε, _, Q => (match gv ε j with
    | some (.d x) => Q (.d x) ε
    | some (.own xs) => Q (.own xs) (pv ε j none)
    | _ => False)
  | .cst c, ε, _, Q => Q (.d c) ε
  | .tup a, ε, X, Q => wE a ε X (kM fun xs ε1 => xs.length ≤ 16777216 ∧ Q (.d (.tuple xs)) ε1)
  | .lst a, ε, X, Q => wE a ε X (kM fun xs ε1 => xs.length ≤ 16777216 ∧ Q (.own xs) ε1)
  | .bin o a b, ε, X, Q => wE a ε X (kD fun x ε1 => wE b ε1 X (kD fun y ε2 => opW o x y fun v => Q v ε2))
  | .cmp o a b, ε, X, Q => pkW a ε (fun T => wE a ε X T) fun x ε1 => pkW b ε1 (fun T => wE b ε1 X T) fun y ε2 => cmpW o x y fun c => Q (.d (.bool c)) ε2
  | .neg a, ε, X, Q => wE a ε X (kD fun x ε1 => match x with
    | .int i => Q (.d (.int (-i))) ε1
    | _ => False)
  | .bnot a, ε, X, Q => wE a ε X (kB fun b ε1 => Q (.d (.bool (!b))) ε1)
  | .band a r, ε, X, Q => wE a ε X (kB fun b ε1 => if b = true then wE r ε1 X Q else Q (.d (.bool false)) ε1)
  | .bor a r, ε, X, Q => wE a ε X (kB fun b ε1 => if b = true then Q (.d (.bool true)) ε1 else wE r ε1 X Q)
  | .bone a, ε, X, Q => wE a ε X (kD fun x ε1 => Q (.d x) ε1)
  | .ite c a b, ε, X, Q => wE c ε X (kB fun t ε1 => if t = true then wE a ε1 X Q else wE b ε1 X Q)
  | .ix a b, ε, X, Q => pkW a ε (fun T => wE a ε X T) fun x ε1 => wE b ε1 X (kD fun y ε2 => ixW x y fun v => Q (.d v) ε2)
  | .sl a lo hi, ε, X, Q => pkW a ε (fun T => wE a ε X T) fun x ε1 => ptW lo ε1 (fun T => wE lo ε1 X T) fun l ε2 => ptW hi ε2 (fun T => wE hi ε2 X T) fun h ε3 => slW x l h fun v => Q v ε3
  | .rev a, ε, X, Q => pkW a ε (fun T => wE a ε X T) fun x ε1 => revW x fun v => Q v ε1
  | .call f a, ε, X, Q => wE a ε X (kM fun ds ε1 => Φ f ds (fun c => X c ε1) fun v => Q v ε1)
  | .callP f a, ε, X, Q => wE a ε X (kM fun ds ε1 => Φ f ds (fun c => X c ε1) fun v => flat v = true ∧ Q v ε1)
  | .bi b a, ε, X, Q => wE a ε X (kM fun ds ε1 => biW b ds fun v => Q v ε1)
  | .len a, ε, X, Q => pkW a ε (fun T => wE a ε X T) fun x ε1 => lenW x fun n => Q (.d (.int n)) ε1
  | .isi t a, ε, X, Q => pkW a ε (fun T => wE a ε X T) fun x ε1 => Q (.d (.bool (isT t x))) ε1
  | .isx c j, ε, X, Q => False
  | .itv a, ε, X, Q => wE a ε X (kD fun x ε1 => match items x with
    | some xs => Q (.many xs) ε1
    | none => False)
  | .rng1 a, ε, X, Q => wE a ε X (kD fun x ε1 => rngW1 x fun xs => Q (.many xs) ε1)
  | .rng2 a b, ε, X, Q => wE a ε X (kD fun x ε1 => wE b ε1 X (kD fun y ε2 => rngW2 x y fun xs => Q (.many xs) ε2))
  | .rngd a b, ε, X, Q => wE a ε X (kD fun x ε1 => wE b ε1 X (kD fun y ε2 => rngWd x y fun xs => Q (.many xs) ε2))
  | .enm a, ε, X, Q => wE a ε X (kD fun x ε1 => match items x with
    | some xs => Q (.many (enums 0 xs)) ε1
    | none => False)
  | .rvd a, ε, X, Q => wE a ε X (kD fun x ε1 => match items x with
    | some xs => Q (.many xs.reverse) ε1
    | none => False)
  | .zip a b, ε, X, Q => wE a ε X (kD fun x ε1 => wE b ε1 X (kD fun y ε2 => zipW x y fun zs => Q (.many zs) ε2))
  | .lc t it c elt, ε, X, Q => wE it ε X (kM fun xs ε1 =>
      lcW t ε1 (fun ε2 k => if isNil c = true then k true ε2 else wE c ε2 (fun _ _ => False) (kB k))
        (fun ε2 k => wE elt ε2 (fun _ _ => False) (kD k)) xs [] fun ys => Q (.own ys) ε1)
  | .inn neg a b, ε, X, Q => pkW a ε (fun T => wE a ε X T) fun x ε1 => pkW b ε1 (fun T => wE b ε1 X T) fun y ε2 => inW x y fun c => Q (.d (.bool (if neg = true then !c else c))) ε2
  | .cmp2 o o' a b c, ε, X, Q => wE a ε X (kD fun x ε1 => wE b ε1 X (kD fun y ε2 => cmpW o x y fun t =>
      if t = true then wE c ε2 X (kD fun z ε3 => cmpW o' y z fun u => Q (.d (.bool u)) ε3) else Q (.d (.bool false)) ε2))
  | .cnt a b, ε, X, Q => pkW a ε (fun T => wE a ε X T) fun x ε1 => isT .list x = true ∧ wE b ε1 X (kD fun y ε2 => cntW x y fun n => Q (.d (.int n)) ε2)
  | .dsp kvs a, ε, X, Q => wE a ε X (kD fun y ε1 => dspW kvs y fun d => Q (.d d) ε1)
  | .gc _ d, ε, _, Q => Q (.d d) ε
  | .rvr a, ε, X, Q => wE a ε X (kD fun x ε1 => rngW1 x fun xs => Q (.many xs.reverse) ε1)
  | .lsc a, ε, X, Q => pkW a ε (fun T => wE a ε X T) fun x ε1 => match items x with
    | some xs => Q (.own xs) ε1
    | none => False
  | .idx a b, ε, X, Q => pkW a ε (fun T => wE a ε X T) fun x ε1 => isT .list x = true ∧ wE b ε1 X (kD fun y ε2 => idxW x y fun n => Q (.d (.int n)) ε2)
  | .callL f j a, ε, X, Q => lentAt ε j fun _ => wE a ε X (kM fun ds ε1 => lentAt ε1 j fun xs => Φ f (.list xs :: ds) (fun c => X c (pv ε1 j none)) (kT fun v ys => Q v (pv ε1 j (some (.lent ys)))))
  | .lemp j, ε, _, Q => lentAt ε j fun xs => SeqAt.shaped (.list xs) = true ∧ Q (.d (.bool xs.isEmpty)) ε
  | .lix j n, ε, _, Q => lentAt ε j fun xs => ∃ v, xs[n]? = some v ∧ Q (.d v) ε
  | .lpop0 j, ε, _, Q => lentAt ε j fun xs => ∃ x r, xs = x :: r ∧ Q (.d x) (pv ε j (some (.lent r)))
  | .lcL t it elt j, ε, X, Q => wE it ε X (kM fun xs ε1 => lentAt ε1 j fun L => lclW t ε1 j (fun ε2 k => wE elt ε2 (fun _ _ => False) (kD k)) xs [] L fun ys L' => Q (.own ys) (pv ε1 j (some (.lent L'))))
  | .callLP f j a, ε, X, Q => lentAt ε j fun _ => wE a ε X (kM fun ds ε1 => lentAt ε1 j fun xs => Φ f (.list xs :: ds) (fun c => X c (pv ε1 j none)) (kTP fun v ys => Q v (pv ε1 j (some (.lent ys)))))
  | .lcK t it elt j, ε, X, Q => wE it ε X (kM fun xs ε1 => ownAt ε1 j fun L => lckW t ε1 j L (fun ε2 k => wE elt ε2 (fun _ _ => False) (kD k)) xs [] fun ys => Q (.own ys) ε1)
  | .dget j k x, ε, X, Q => dictAt ε j fun _ => wE k ε X (kD fun y ε1 => wE x ε1 X (kD fun z ε2 => dictAt ε2 j fun v => dGetW v y fun o => Q (.d (o.getD z)) ε2))
  | .dix j k, ε, X, Q => dictAt ε j fun _ => wE k ε X (kD fun y ε1 => dictAt ε1 j fun v => dGetW v y fun o => ∃ d, o = some d ∧ Q (.d d) ε1)
  | .dsrt j, ε, _, Q => dictAt ε j fun v => dSrtW v fun ys => Q (.own ys) ε
  | .dlc t c elt j, ε, _, Q => dictAt ε j fun v => lcW t ε (fun ε2 k => if isNil c = true then k true ε2 else wE c ε2 (fun _ _ => False) (kB k))
        (fun ε2 k => wE elt ε2 (fun _ _ => False) (kD k)) (itemsD v) [] fun ys => Q (.own ys) ε
  | .lcD t it c elt j, ε, X, Q => wE it ε X (kM fun xs ε1 => dictAt ε1 j fun v =>
      lcdW t ε1 j v (fun ε2 k => if isNil c = true then k true ε2 else wE c ε2 (fun _ _ => False) (kB k))
        (fun ε2 k => wE elt ε2 (fun _ _ => False) (kD k)) xs [] fun ys => Q (.own ys) ε1)
  | .srt a, ε, X, Q => wE a ε X (kD fun x ε1 => srtW x fun ys => Q (.own ys) ε1)
  | .lit d, ε, _, Q => Q (.d d) ε
end
/-! ### statements -/
structure En where
  nx : Ev → Prop
  rt : Val → Prop
  bk : Ev → Prop := fun _ => False
  ct : Ev → Prop := fun _ => False
  ex : XP := fun _ _ => False
def kV (k : Val → Ev → Prop) : KE := fun v ε => match v with
  | .d _ => k v ε
  | .own _ => k v ε
  | _ => False
def forW (t : Tg) (B : Ev → En → Prop) : List D → Ev → En → Prop
  | [], ε, D => D.nx ε
  | x :: r, ε, D => tgW t x ε fun ε1 => B ε1 { D with nx := fun e => forW t B r e D, ct := fun e => forW t B r e D, bk := D.nx }
def whlW (T : Ev → (Bool → Ev → Prop) → Prop) (B : Ev → En → Prop) (ε : Ev) (D : En) : Prop :=
  ∃ I : Nat → Ev → Prop, (∃ m, I m ε) ∧ ∀ m ε1, I m ε1 → T ε1 fun b ε2 =>
    if b = true then B ε2 { D with nx := fun e => ∃ m', m' < m ∧ I m' e, ct := fun e => ∃ m', m' < m ∧ I m' e, bk := D.nx } else D.nx ε2
/-- x op= y -/
def augW : Operator → D → D → (D → Prop) → Prop
  | .Add, .int i, .int j, Q => Q (.int (i + j))
  | .Add, .str a, .str b, Q => a.length + b.length ≤ 16777216 ∧ Q (.str (a ++ b))
  | .Sub, .int i, .int j, Q => Q (.int (i - j))
  | .Mult, .int i, .int j, Q => mulOk i j ∧ Q (.int (i * j))
  | _, _, _, _ => False
def hS (c' : Nat) : HS → Ev → En → Prop
  | .nil, ε, D => D.nx ε
  | .asg j e r, ε, D => hS c' r (pv ε j (some (.d (hE c' e)))) D
  | .ite c a b r, ε, D => if hB c' c = true then hS c' a ε { D with nx := fun ε1 => hS c' r ε1 D } else hS c' b ε { D with nx := fun ε1 => hS c' r ε1 D }
  | .ret e, _, D => D.rt (.d (hE c' e))
/-- the name of an except clause is out of sight -/
def hide (ε : Ev) : Option Nat → Ev
  | some j => pv ε j none
  | none => ε
/-- x[k] = v of a frame's own list -/
def setW (Φ : Fs) (j : Nat) (k : IE) (v : D) (ε : Ev) (X : XP) (K : Ev → Prop) : Prop := ownAt ε j fun _ => wE Φ k ε X (kD fun i ε2 => match i with
  | .int z => ownAt ε2 j fun xs => ∃ n, L2.ixN xs.length z = some n ∧ K (pv ε2 j (some (.own (xs.set n v))))
  | _ => False)
/-- for x in L: if c: return e -/
def forPW (t : Tg) (j : Nat) (xs0 : List D) (T : Ev → (Bool → Ev → Prop) → Prop) (Rt : Ev → Prop) (nx : Ev → Prop) : List D → Ev → Prop
  | [], ε => nx ε
  | x :: r, ε => tgW t x ε fun ε1 => T ε1 fun b ε2 => if b = true then Rt ε2 else gv ε2 j = some (.own xs0) ∧ forPW t j xs0 T Rt nx r ε2
section
variable (Φ : Fs)
def wS : IS → Ev → En → Prop
  | .nil, ε, D => D.nx ε
  | .seq s r, ε, D => wS s ε { D with nx := fun ε1 => wS r ε1 D }
  | .still j r, ε, D => wE Φ (.var j) ε (fun _ _ => False) (fun _ ε1 => wS r ε1 D)
  | .asg j e, ε, D => wE Φ e ε D.ex (kV fun v ε1 => D.nx (pv ε1 j (some v)))
  | .asgT js e, ε, D => wE Φ e ε D.ex (kD fun x ε1 => tgW (.tup js) x ε1 D.nx)
  | .par i j a b, ε, D => wE Φ a ε D.ex (kD fun x ε1 => wE Φ b ε1 D.ex (kD fun y ε2 => D.nx (pv (pv ε2 i (some (.d x))) j (some (.d y)))))
  | .par3 i j l a b c, ε, D => wE Φ a ε D.ex (kD fun x ε1 => wE Φ b ε1 D.ex (kD fun y ε2 => wE Φ c ε2 D.ex (kD fun z ε3 => D.nx (pv (pv (pv ε3 i (some (.d x))) j (some (.d y))) l (some (.d z))))))
  | .setIx j k e, ε, D => wE Φ e ε D.ex (kD fun v ε1 => ownAt ε1 j fun _ => wE Φ k ε1 D.ex (kD fun i ε2 => match i with
      | .int z => ownAt ε2 j fun xs => ∃ n, L2.ixN xs.length z = some n ∧ D.nx (pv ε2 j (some (.own (xs.set n v))))
      | _ => False))
  | .app j e, ε, D => ownAt ε j fun _ => wE Φ e ε D.ex (kD fun v ε1 => ownAt ε1 j fun xs => xs.length < 16777216 ∧ D.nx (pv ε1 j (some (.own (xs ++ [v])))))
  | .pop j, ε, D => ownAt ε j fun xs => xs ≠ [] ∧ D.nx (pv ε j (some (.own xs.dropLast)))
  | .popT t j, ε, D => ownAt ε j fun xs => ∃ x, xs[xs.length - 1]? = some x ∧ tgW t x (pv ε j (some (.own xs.dropLast))) D.nx
  | .ins j k e, ε, D => ownAt ε j fun _ => wE Φ k ε D.ex (kD fun i ε1 => wE Φ e ε1 D.ex (kD fun v ε2 => match i with
      | .int z => ownAt ε2 j fun xs => (0 ≤ z ∧ z < 2 ^ 63 ∧ xs.length < 16777216) ∧ D.nx (pv ε2 j (some (.own (xs.take z.toNat ++ [v] ++ xs.drop z.toNat))))
      | _ => False))
  | .clr j, ε, D => ownAt ε j fun _ => D.nx (pv ε j (some (.own [])))
  | .drop e, ε, D => wE Φ e ε D.ex (kV fun _ ε1 => D.nx ε1)
  | .ret e, ε, D => wE Φ e ε D.ex (kV fun v _ => D.rt v)
  | .retN, _, D => D.rt (.d .none)
  | .ite c a b, ε, D => wE Φ c ε D.ex (kB fun t ε1 => if t = true then wS a ε1 D else wS b ε1 D)
  | .whl c b, ε, D => whlW (fun ε1 k => wE Φ c ε1 D.ex (kB k)) (fun ε1 D' => wS b ε1 D') ε D
  | .forr t it b, ε, D => wE Φ it ε D.ex (kM fun xs ε1 => forW t (fun ε2 D' => wS b ε2 D') xs ε1 D)
  | .raise c, ε, D => D.ex c ε
  | .try1 b c j h, ε, D => wS b ε { D with ex := fun c' ε1 => if isS c' c = true then hS c' h (hide ε1 j) D else D.ex c' ε1 }
  | .brk, ε, D => D.bk ε
  | .cont, ε, D => D.ct ε
  | .pass, ε, D => D.nx ε
  | .never, _, _ => False
  | .aug j o e, ε, D => ∃ d0, gv ε j = some (.d d0) ∧ wE Φ e ε D.ex (kD fun y ε1 => ∃ d1, gv ε1 j = some (.d d1) ∧ augW o d1 y fun v => D.nx (pv ε1 j (some (.d v))))
  | .ext j e, ε, D => ownAt ε j fun _ => wE Φ e ε D.ex fun v ε1 => (match v with
      | .own ys => ownAt ε1 j fun xs => xs.length + ys.length ≤ 16777216 ∧ D.nx (pv ε1 j (some (.own (xs ++ ys))))
      | _ => False)
  | .popI t j k, ε, D => ownAt ε j fun _ => wE Φ k ε D.ex (kD fun i ε1 => match i with
      | .int z => ownAt ε1 j fun xs => (-(2 ^ 63) ≤ z ∧ z < 2 ^ 63) ∧ ∃ n x, seqIndex? z xs.length = some n ∧ xs[n]? = some x ∧ tgW t x (pv ε1 j (some (.own (xs.eraseIdx n)))) D.nx
      | _ => False)
  | .set2 j k l e, ε, D => wE Φ e ε D.ex (kD fun x ε1 => match x with
      | .tuple [v, w] => setW Φ j k v ε1 D.ex fun ε2 => setW Φ j l w ε2 D.ex D.nx
      | _ => False)
  | .clrE e, ε, D => wE Φ e ε D.ex fun v ε1 => (match v with
      | .own _ => D.nx ε1
      | _ => False)
  | .forP t j c e, ε, D => ownAt ε j fun xs => forPW t j xs (fun ε1 k => wE Φ c ε1 D.ex (kB k)) (fun ε1 => wE Φ e ε1 D.ex (kV fun v _ => D.rt v)) D.nx xs ε
  | .lend j r, ε, D => ownAt ε j fun xs => wS r (pv ε j (some (.lent xs))) { nx := fun e => D.nx (unlend e), rt := fun v => noTwo v = true ∧ D.rt v, bk := fun e => D.bk (unlend e), ct := fun e => D.ct (unlend e), ex := fun c e => D.ex c (unlend e) }
  | .lfn r, ε, D => (match gv ε 0 with
    | some (.d (.list xs)) => wS r (pv ε 0 (some (.lent xs))) { D with nx := fun _ => False }
    | _ => False)
  | .retL e, ε, D => wE Φ e ε D.ex fun v ε1 => (match v with
      | .d x => lentAt ε1 0 fun xs => D.rt (.two x xs)
      | .own ys => lentAt ε1 0 fun xs => D.rt (.twoO ys xs)
      | _ => False)
  | .lset j n e, ε, D => wE Φ e ε D.ex (kD fun v ε1 => lentAt ε1 j fun xs => n < xs.length ∧ D.nx (pv ε1 j (some (.lent (xs.set n v)))))
  | .asgN t e, ε, D => wE Φ e ε D.ex (kD fun x ε1 => tgW t x ε1 D.nx)
  | .dnew j t, ε, D => D.nx (pv ε j (some (if t = true then .dT [] else .dI [])))
  | .dset j k e, ε, D => wE Φ e ε D.ex (kD fun v ε1 => dictAt ε1 j fun _ => wE Φ k ε1 D.ex (kD fun y ε2 => dictAt ε2 j fun dv => dPutW dv y v fun dv' => D.nx (pv ε2 j (some dv'))))
end
structure FnI where
  name : Str
  ps : List Str
  N : List Str
  np : Nat
  nn : Nat
  body : IS
  con : Option D
def ev0 (n : Nat) (ds : List D) : Ev := ds.map (fun x => some (.d x)) ++ List.replicate (n - ds.length) none
def runB (Φ : Fs) (fi : FnI) (ds : List D) (X : Nat → Prop) (Q : Val → Prop) : Prop :=
  ds.length = fi.np ∧ wS Φ fi.body (ev0 fi.nn ds) { nx := fun _ => Q (.d .none), rt := Q, ex := fun c _ => X c }
def sem (fns : List FnI) : Nat → Fs
  | 0 => fun _ _ _ _ => False
  | k + 1 => fun f ds X Q => match fns[f]? with
    | some fi => runB (sem fns k) fi ds X Q
    | none => False
end Rc

/-! The heap behind the small language. -/
namespace Rc
open PySem PySem.Spec PyProof.Rows L2
abbrev St := L2.St

/-! ### names and their values -/
theorem gv_pv : ∀ (ε : Ev) (i : Nat) (v : Option Val) (j : Nat), gv (pv ε i v) j = if j = i then (if i < ε.length then v else none) else gv ε j
  | [], i, v, j => by
    show gv [] j = _
    cases j <;> simp [gv]
  | x :: r, 0, v, j => by
    cases j with
    | zero => simp [pv, gv]
    | succ j => simp [pv, gv]
  | x :: r, i + 1, v, j => by
    cases j with
    | zero => simp [pv, gv]
    | succ j => simp [pv, gv, gv_pv r i v j]
theorem pv_len : ∀ (ε : Ev) (i : Nat) (v : Option Val), (pv ε i v).length = ε.length
  | [], _, _ => rfl
  | _ :: _, 0, _ => rfl
  | _ :: r, i + 1, v => by simp [pv, pv_len r i v]
theorem gv_lt : ∀ {ε : Ev} {j : Nat} {v : Val}, gv ε j = some v → j < ε.length
  | [], _, _, h => by cases h
  | _ :: _, 0, _, _ => by simp
  | _ :: r, j + 1, v, h => by
    have := gv_lt (ε := r) (j := j) (v := v) h
    simp; omega

/-! ### data at values -/
mutual
inductive Dp (K : PySem.W.Frag) (H : Hp) : V → D → Prop
  | non : Dp K H .non .none
  | bl (b : Bool) : Dp K H (.bl b) (.bool b)
  | int (i : Int) : Dp K H (.int i) (.int i)
  | str (x : Str) : Dp K H (.str x) (.str x)
  | lst {a : Addr} {xs : List V} {ds : List D} : SqL K H a xs → DpAll K H xs ds → Dp K H (.ref a) (.list ds)
  | tup {a : Addr} {xs : List V} {ds : List D} : SqT K H a xs → DpAll K H xs ds → Dp K H (.ref a) (.tuple ds)
inductive DpAll (K : PySem.W.Frag) (H : Hp) : List V → List D → Prop
  | nil : DpAll K H [] []
  | cons {v : V} {vs : List V} {d : D} {ds : List D} : Dp K H v d → DpAll K H vs ds → DpAll K H (v :: vs) (d :: ds)
end
mutual
theorem dpOut {K : PySem.W.Frag} {F : Hp} : ∀ {v : V} {d : D}, Dp K F v d → L2.Dp K F v d
  | _, _, .non => .non
  | _, _, .bl b => .bl b
  | _, _, .int i => .int i
  | _, _, .str x => .str x
  | _, _, .lst q r => .lst q (daOut r)
  | _, _, .tup q r => .tup q (daOut r)
theorem daOut {K : PySem.W.Frag} {F : Hp} : ∀ {vs : List V} {ds : List D}, DpAll K F vs ds → L2.DpAll K F vs ds
  | _, _, .nil => .nil
  | _, _, .cons a b => .cons (dpOut a) (daOut b)
end

/-! ### heaps -/
def Sub (F H : Hp) : Prop := ∀ a o, F a = some o → H a = some o
theorem Sub.refl (F : Hp) : Sub F F := fun _ _ h => h
theorem Sub.trans {F G H : Hp} (a : Sub F G) (b : Sub G H) : Sub F H := fun c o h => b c o (a c o h)
theorem Sub.upd {F H : Hp} {a : Addr} {o : HO} (s : Sub F H) (n : F a = none) : Sub F (upd H a o) := fun c u h => by
  by_cases e : c = a
  · subst e; rw [n] at h; cases h
  · rw [upd_ne e]; exact s c u h
theorem Sub.none {F H : Hp} {a : Addr} (s : Sub F H) (n : H a = none) : F a = none := by
  cases q : F a with
  | none => rfl
  | some o => rw [s a o q] at n; cases n
theorem Sub.upd2 {F H : Hp} {a : Addr} {o : HO} (s : Sub F H) : Sub (L2.upd F a o) (L2.upd H a o) := fun c u h => by
  by_cases e : c = a
  · subst e; rw [upd_same] at h ⊢; exact h
  · rw [upd_ne e] at h ⊢; exact s c u h
theorem Sub.add {F H : Hp} {a : Addr} {o : HO} (s : Sub F H) (h : H a = some o) : Sub (L2.upd F a o) H := fun c u q => by
  by_cases e : c = a
  · subst e; rw [upd_same] at q; rw [h]; exact q
  · rw [upd_ne e] at q; exact s c u q
section
variable {K : PySem.W.Frag} {F G H : Hp}
theorem rdSub {a : Addr} {u : HO} (s : Sub F G) (r : Rd F a u) : Rd G a u := by
  rcases r with r | ⟨o, r⟩
  · exact .inl (s _ _ r)
  · exact .inr ⟨o, s _ _ r⟩
theorem sqtSub {a : Addr} {xs : List V} (s : Sub F G) (r : SqT K F a xs) : SqT K G a xs := by
  rcases r with r | r
  · exact .inl (rdSub s r)
  · exact .inr r
theorem sqlSub {a : Addr} {xs : List V} (s : Sub F G) (r : SqL K F a xs) : SqL K G a xs := by
  rcases r with r | r
  · exact .inl (rdSub s r)
  · exact .inr r
mutual
theorem dpSub (s : Sub F G) : ∀ {v : V} {d : D}, Dp K F v d → Dp K G v d
  | _, _, .non => .non
  | _, _, .bl b => .bl b
  | _, _, .int i => .int i
  | _, _, .str x => .str x
  | _, _, .lst q r => .lst (sqlSub s q) (daSub s r)
  | _, _, .tup q r => .tup (sqtSub s q) (daSub s r)
theorem daSub (s : Sub F G) : ∀ {vs : List V} {ds : List D}, DpAll K F vs ds → DpAll K G vs ds
  | _, _, .nil => .nil
  | _, _, .cons a b => .cons (dpSub s a) (daSub s b)
end
theorem daLen : ∀ {vs : List V} {ds : List D}, DpAll K F vs ds → vs.length = ds.length
  | _, _, .nil => rfl
  | _, _, .cons _ b => by simp [daLen b]
theorem daGet : ∀ {vs : List V} {ds : List D} {i : Nat} {v : V}, DpAll K F vs ds → vs[i]? = some v → ∃ d, ds[i]? = some d ∧ Dp K F v d
  | _, _, _, _, .nil, h => by simp at h
  | _, _, 0, v, .cons a _, h => by simp at h; subst h; exact ⟨_, rfl, a⟩
  | _, _, i + 1, v, .cons _ b, h => by
    obtain ⟨d, h1, h2⟩ := daGet (i := i) (v := v) b (by simpa using h)
    exact ⟨d, by simpa using h1, h2⟩
theorem daGet' : ∀ {vs : List V} {ds : List D} {i : Nat} {d : D}, DpAll K F vs ds → ds[i]? = some d → ∃ v, vs[i]? = some v ∧ Dp K F v d
  | _, _, _, _, .nil, h => by simp at h
  | _, _, 0, v, .cons a _, h => by simp at h; subst h; exact ⟨_, rfl, a⟩
  | _, _, i + 1, v, .cons _ b, h => by
    obtain ⟨d, h1, h2⟩ := daGet' (i := i) (d := v) b (by simpa using h)
    exact ⟨d, by simpa using h1, h2⟩
theorem daApp : ∀ {vs ws : List V} {ds es : List D}, DpAll K F vs ds → DpAll K F ws es → DpAll K F (vs ++ ws) (ds ++ es)
  | _, _, _, _, .nil, h => h
  | _, _, _, _, .cons a b, h => .cons a (daApp b h)
theorem daSet {v : V} {d : D} (r : Dp K F v d) : ∀ {vs : List V} {ds : List D} (i : Nat), DpAll K F vs ds → DpAll K F (vs.set i v) (ds.set i d)
  | _, _, _, .nil => .nil
  | _, _, 0, .cons _ b => .cons r b
  | _, _, i + 1, .cons a b => .cons a (daSet r i b)
theorem daTake : ∀ {vs : List V} {ds : List D} (n : Nat), DpAll K F vs ds → DpAll K F (vs.take n) (ds.take n)
  | _, _, 0, _ => .nil
  | _, _, _ + 1, .nil => .nil
  | _, _, n + 1, .cons a b => .cons a (daTake n b)
theorem daDrop : ∀ {vs : List V} {ds : List D} (n : Nat), DpAll K F vs ds → DpAll K F (vs.drop n) (ds.drop n)
  | _, _, 0, r => r
  | _, _, _ + 1, .nil => .nil
  | _, _, n + 1, .cons _ b => daDrop n b
theorem daRev : ∀ {vs : List V} {ds : List D}, DpAll K F vs ds → DpAll K F vs.reverse ds.reverse
  | _, _, .nil => .nil
  | _, _, .cons a b => by
    rw [List.reverse_cons, List.reverse_cons]
    exact daApp (daRev b) (.cons a .nil)
theorem daRep {vs : List V} {ds : List D} (h : DpAll K F vs ds) : ∀ n : Nat, DpAll K F (List.replicate n vs).flatten (List.replicate n ds).flatten
  | 0 => .nil
  | n + 1 => by
    rw [List.replicate_succ, List.replicate_succ, List.flatten_cons, List.flatten_cons]
    exact daApp h (daRep h n)
theorem daDropLast : ∀ {vs : List V} {ds : List D}, DpAll K F vs ds → DpAll K F vs.dropLast ds.dropLast := fun {vs ds} h => by
  rw [List.dropLast_eq_take, List.dropLast_eq_take, ← daLen h]
  exact daTake _ h
theorem cutV_eq (xs : List V) (lo hi : Option Int) : cutV xs lo hi = cut xs lo hi := rfl
theorem daCut {vs : List V} {ds : List D} (h : DpAll K F vs ds) (lo hi : Option Int) : DpAll K F (cut vs lo hi) (cut ds lo hi) := by
  unfold Rc.cut
  rw [daLen h]
  exact daTake _ (daDrop _ h)
theorem dpInt {v : V} {i : Int} (h : Dp K F v (.int i)) : v = .int i := by cases h; rfl
theorem dpBl {v : V} {i : Bool} (h : Dp K F v (.bool i)) : v = .bl i := by cases h; rfl
theorem dpStr {v : V} {i : Str} (h : Dp K F v (.str i)) : v = .str i := by cases h; rfl
theorem dpNon {v : V} (h : Dp K F v .none) : v = .non := by cases h; rfl
theorem dpLst {v : V} {ds : List D} (h : Dp K F v (.list ds)) : ∃ a vs, v = .ref a ∧ SqL K F a vs ∧ DpAll K F vs ds := by
  cases h with
  | lst q r => exact ⟨_, _, rfl, q, r⟩
theorem dpTup {v : V} {ds : List D} (h : Dp K F v (.tuple ds)) : ∃ a vs, v = .ref a ∧ SqT K F a vs ∧ DpAll K F vs ds := by
  cases h with
  | tup q r => exact ⟨_, _, rfl, q, r⟩
theorem dpIsNon {v : V} {d : D} (h : Dp K F v d) : decide (v = .non) = isNone d := by
  cases h <;> rfl
theorem asInts_of : ∀ {vs : List V} {ds : List D} {ns : List Int}, DpAll K F vs ds → asInts ds = some ns → vs = ns.map V.int
  | _, _, _, .nil, h => by simp [asInts] at h; subst h; rfl
  | _, _, ns, .cons (d := d) a b, h => by
    cases d with
    | int i =>
      simp only [asInts, Option.map_eq_some_iff] at h
      obtain ⟨r, h1, h2⟩ := h
      subst h2
      rw [dpInt a, asInts_of b h1]
      rfl
    | _ => simp [asInts] at h
theorem asBools_of : ∀ {vs : List V} {ds : List D} {ns : List Bool}, DpAll K F vs ds → asBools ds = some ns → vs = ns.map V.bl
  | _, _, _, .nil, h => by simp [asBools] at h; subst h; rfl
  | _, _, ns, .cons (d := d) a b, h => by
    cases d with
    | bool i =>
      simp only [asBools, Option.map_eq_some_iff] at h
      obtain ⟨r, h1, h2⟩ := h
      subst h2
      rw [dpBl a, asBools_of b h1]
      rfl
    | _ => simp [asBools] at h
end

/-- a frame's ground: the heap that it was called in, and which list is lent to it -/
structure Zn where
  h : Hp
  l : Addr → Prop
def Zn.no (Z : Zn) (p : Addr) : Prop := Z.h p = none ∧ ¬ Z.l p
def Zn.of (H : Hp) : Zn := ⟨H, fun _ => False⟩
/-- all but what is lent stays -/
def SubZ (Z : Zn) (G H : Hp) : Prop := ∀ a o, ¬ Z.l a → G a = some o → H a = some o
theorem SubZ.refl {Z : Zn} (H : Hp) : SubZ Z H H := fun _ _ _ h => h
theorem SubZ.trans {Z : Zn} {F G H : Hp} (a : SubZ Z F G) (b : SubZ Z G H) : SubZ Z F H := fun c o n h => b c o n (a c o n h)
theorem SubZ.of {Z : Zn} {G H : Hp} (s : Same G H) : SubZ Z G H := fun a o _ h => s a o h
theorem SubZ.same {G G0 H : Hp} (s : SubZ (Zn.of G0) G H) : Same G H := fun a o h => s a o (fun z => z) h
theorem SubZ.upd {Z : Zn} {G H : Hp} {a : Addr} {o : HO} (s : SubZ Z G H) (n : G a = none) : SubZ Z G (upd H a o) := fun c u m h => by
  by_cases e : c = a
  · subst e; rw [n] at h; cases h
  · rw [upd_ne e]; exact s c u m h
/-! ### dicts -/
/-- keys whole numbers -/
inductive KvI (K : PySem.W.Frag) (F : Hp) : List (Key × V) → List (Int × D) → Prop
  | nil : KvI K F [] []
  | cons {i : Int} {v : V} {d : D} {r : List (Key × V)} {t : List (Int × D)} : Dp K F v d → KvI K F r t → KvI K F ((.inl i, v) :: r) ((i, d) :: t)
/-- keys tuples of whole numbers: each key, where it stands, the value -/
inductive KvT (K : PySem.W.Frag) (F : Hp) : List (List Int × Addr × Value) → List (List Int × D) → Prop
  | nil : KvT K F [] []
  | cons {k : List Int} {a : Addr} {v : V} {u : Value} {d : D} {r : List (List Int × Addr × Value)} {t : List (List Int × D)} : Dp K F (.ref a) (.tuple (k.map .int)) → RelV v u → Dp K F v d → KvT K F r t → KvT K F ((k, a, u) :: r) ((k, d) :: t)
def hshT (k : List Int) : Int := reduceHash (Builtin.Tuple.tupleHashOf (k.map hashInt))
def entT (x : List Int × Addr × Value) : DictEntry := ⟨hshT x.1, .ref x.2.1, x.2.2⟩
/-- the dict's object -/
def TbAt (p : Addr) (xs : List (List Int × Addr × Value)) (h : Heap) : Prop := ∃ o es ep, h.get? p = some o ∧ o.ExactDict ∧ o.data = .dict es ep ∧ es.toList = xs.map entT ∧ (xs.map (·.1)).Nodup ∧ xs.length ≤ sizeLine ∧ (p == sysModules) = false
def DcAt (K : PySem.W.Frag) (F H : Hp) (p : Addr) : Val → Prop
  | .dI kvs => ∃ vs, H p = some (.dK vs) ∧ KvI K F vs kvs
  | .dT kvs => ∃ xs, H p = some (.ext (TbAt p xs)) ∧ KvT K F xs kvs
  | _ => False
theorem KvI.mono {K : PySem.W.Frag} {F F' : Hp} (s : Sub F F') {a : List (Key × V)} {b : List (Int × D)} (h : KvI K F a b) : KvI K F' a b := by
  induction h with
  | nil => exact .nil
  | cons d _ ih => exact .cons (dpSub s d) ih
theorem KvT.mono {K : PySem.W.Frag} {F F' : Hp} (s : Sub F F') {a : List (List Int × Addr × Value)} {b : List (List Int × D)} (h : KvT K F a b) : KvT K F' a b := by
  induction h with
  | nil => exact .nil
  | cons k r d _ ih => exact .cons (dpSub s k) r (dpSub s d) ih
theorem DcAt.mono {K : PySem.W.Frag} {F F' H H' : Hp} {p : Addr} {v : Val} (s : Sub F F') (t : ∀ o, H p = some o → H' p = some o) (h : DcAt K F H p v) : DcAt K F' H' p v := by
  cases v with
  | dI kvs => obtain ⟨vs, h1, h2⟩ := h; exact ⟨vs, t _ h1, h2.mono s⟩
  | dT kvs => obtain ⟨vs, h1, h2⟩ := h; exact ⟨vs, t _ h1, h2.mono s⟩
  | _ => exact h.elim
theorem DcAt.there {K : PySem.W.Frag} {F H : Hp} {p : Addr} {v : Val} (h : DcAt K F H p v) : ∃ o, H p = some o ∧ (∀ vs, o ≠ .lst vs) ∧ (∀ vs, o ≠ .tup vs) ∧ Mut (some o) := by
  cases v with
  | dI kvs => obtain ⟨vs, h1, h2⟩ := h; exact ⟨_, h1, (fun _ z => nomatch z), (fun _ z => nomatch z), True.intro⟩
  | dT kvs => obtain ⟨vs, h1, h2⟩ := h; exact ⟨_, h1, (fun _ z => nomatch z), (fun _ z => nomatch z), True.intro⟩
  | _ => exact h.elim
/-- the frame's own dicts -/
structure Dcs (K : PySem.W.Frag) (Z : Zn) (F H : Hp) (σ : St) (ε : Ev) : Prop where
  at_ : ∀ j v, gv ε j = some v → isDc v = true → ∃ p, σ[j]? = some (some (.ref p)) ∧ DcAt K F H p v ∧ F p = none ∧ Z.no p
  uni : ∀ i j u v p, gv ε i = some u → isDc u = true → gv ε j = some v → isDc v = true → σ[i]? = some (some (.ref p)) → σ[j]? = some (some (.ref p)) → i = j
theorem Dcs.sub {K : PySem.W.Frag} {Z Z' : Zn} {F F' H H' : Hp} {σ σ' : St} {ε ε' : Ev} (h : Dcs K Z F H σ ε) (g : ∀ j v, gv ε' j = some v → isDc v = true → gv ε j = some v ∧ σ'[j]? = σ[j]?)
    (s : Sub F F') (t : ∀ p o, H p = some o → (∀ vs, o ≠ .lst vs) → (∀ vs, o ≠ .tup vs) → F p = none → Z.no p → (∃ j : Nat, σ[j]? = some (some (.ref p))) → H' p = some o ∧ F' p = none ∧ Z'.no p) : Dcs K Z' F' H' σ' ε' where
  at_ := fun j v q c => by
    obtain ⟨g1, g2⟩ := g j v q c
    obtain ⟨p, a1, a2, a3, a4⟩ := h.at_ j v g1 c
    obtain ⟨o, e, e1, e2, _⟩ := a2.there
    obtain ⟨t1, t2, t3⟩ := t p o e e1 e2 a3 a4 ⟨j, a1⟩
    exact ⟨p, by rw [g2]; exact a1, a2.mono s (fun o' z => by rw [e] at z; cases z; exact t1), t2, t3⟩
  uni := fun i j u v p a ca b cb ea eb => by
    obtain ⟨g1, g2⟩ := g i u a ca
    obtain ⟨g3, g4⟩ := g j v b cb
    exact h.uni i j u v p g1 ca g3 cb (by rw [← g2]; exact ea) (by rw [← g4]; exact eb)
/-- no dict -/
theorem Dcs.nil {K : PySem.W.Frag} {Z : Zn} {F H : Hp} {σ : St} {ε : Ev} (h : ∀ j v, gv ε j = some v → isDc v = false) : Dcs K Z F H σ ε where
  at_ := fun j v q c => by rw [h j v q] at c; cases c
  uni := fun i j u v p q c => by rw [h i u q] at c; cases c
/-- a name that holds no dict is told otherwise -/
theorem dcGv {ε : Ev} {j : Nat} {o : Option Val} (no : ∀ v, o = some v → isDc v = false) : ∀ i v, gv (pv ε j o) i = some v → isDc v = true → gv ε i = some v ∧ i ≠ j := fun i v q c => by
  rw [gv_pv] at q
  split at q
  · split at q
    · rw [no v q] at c; cases c
    · cases q
  · rename_i hi; exact ⟨q, hi⟩
/-! ### the state told by the small language's names -/
structure Rep (K : PySem.W.Frag) (H0 : Zn) (F0 F H : Hp) (σ : St) (ε : Ev) : Prop where
  fh : Sub F H
  ff : Sub F0 F
  h0 : SubZ H0 H0.h H
  fr : ∀ a o, F a = some o → F0 a = some o ∨ H0.h a = none
  len : σ.length = ε.length
  dat : ∀ j x, gv ε j = some (.d x) → ∃ v, σ[j]? = some (some v) ∧ Dp K F v x
  own : ∀ j xs, gv ε j = some (.own xs) → ∃ p vs, σ[j]? = some (some (.ref p)) ∧ H p = some (.lst vs) ∧ DpAll K F vs xs ∧ F p = none ∧ H0.no p
  uni : ∀ i j xs ys p, gv ε i = some (.own xs) → gv ε j = some (.own ys) → σ[i]? = some (some (.ref p)) → σ[j]? = some (some (.ref p)) → i = j
  lnt : ∀ j xs, gv ε j = some (.lent xs) → ∃ p vs, σ[j]? = some (some (.ref p)) ∧ H p = some (.lst vs) ∧ DpAll K F vs xs ∧ F p = none ∧ H0.l p
  one : ∀ i j xs ys p, gv ε i = some (.lent xs) → gv ε j = some (.lent ys) → σ[i]? = some (some (.ref p)) → σ[j]? = some (some (.ref p)) → i = j
  ll : ∀ a, H0.l a → (∃ o, H a = some o) ∧ F a = none
  dcs : Dcs K H0 F H σ ε
theorem Rep.no {K : PySem.W.Frag} {H0 : Zn} {F0 F H : Hp} {σ : St} {ε : Ev} (R : Rep K H0 F0 F H σ ε) {p : Addr} (h : H p = none) : H0.no p := by
  have nl : ¬ H0.l p := fun z => by
    obtain ⟨⟨o, e⟩, _⟩ := R.ll p z
    rw [h] at e; cases e
  refine ⟨?_, nl⟩
  cases q : H0.h p with
  | none => rfl
  | some o => rw [R.h0 p o nl q] at h; cases h
/-- p is no name's own list -/
def Off (σ : St) (ε : Ev) (p : Addr) : Prop := ∀ j ys, gv ε j = some (.own ys) → σ[j]? ≠ some (some (.ref p))
def VAt (K : PySem.W.Frag) (H0 : Zn) (F H : Hp) (σ : St) (ε : Ev) (v : V) : Val → Prop
  | .d x => Dp K F v x
  | .own xs => ∃ p vs, v = .ref p ∧ H p = some (.lst vs) ∧ DpAll K F vs xs ∧ F p = none ∧ H0.no p ∧ Off σ ε p
  | .two x xs => Dp K F v x ∧ ∃ p vs, H p = some (.lst vs) ∧ DpAll K F vs xs ∧ F p = none ∧ H0.l p
  | .twoO ys xs => (∃ p vs, v = .ref p ∧ H p = some (.lst vs) ∧ DpAll K F vs ys ∧ F p = none ∧ H0.no p) ∧ ∃ p vs, H p = some (.lst vs) ∧ DpAll K F vs xs ∧ F p = none ∧ H0.l p
  | _ => False
/-- a value that a look alone was taken at -/
def PAt (K : PySem.W.Frag) (H0 : Zn) (F H : Hp) (v : V) (x : D) : Prop := Dp K F v x ∨ ∃ p vs xs, v = .ref p ∧ x = .list xs ∧ H p = some (.lst vs) ∧ DpAll K F vs xs ∧ ¬ H0.l p
section
variable {K : PySem.W.Frag} {H0 : Zn} {F0 F H F' H' : Hp} {σ : St} {ε : Ev}
theorem PAt.dp {v : V} {x : D} (s : Sub F H) (h : PAt K H0 F H v x) : Dp K H v x := by
  rcases h with h | ⟨p, vs, xs, rfl, rfl, h1, h2, _⟩
  · exact dpSub s h
  · exact .lst (.inl (.inl h1)) (daSub s h2)
theorem PAt.mono {v : V} {x : D} (s : Sub F F') (t : SubZ H0 H H') (h : PAt K H0 F H v x) : PAt K H0 F' H' v x := by
  rcases h with h | ⟨p, vs, xs, rfl, rfl, h1, h2, h3⟩
  · exact .inl (dpSub s h)
  · exact .inr ⟨p, vs, xs, rfl, rfl, t _ _ h3 h1, daSub s h2, h3⟩
/-- new things stand behind -/
def New (F F' H : Hp) : Prop := ∀ a o, F' a = some o → F a = some o ∨ H a = none
theorem Rep.grow (R : Rep K H0 F0 F H σ ε) (t : Same H H') (s : Sub F F') (fh : Sub F' H') (n : New F F' H) : Rep K H0 F0 F' H' σ ε where
  fh := fh
  ff := R.ff.trans s
  h0 := R.h0.trans (.of t)
  fr := fun a o h => by
    rcases n a o h with q | q
    · exact R.fr a o q
    · exact .inr (R.no q).1
  len := R.len
  dat := fun j x h => let ⟨v, e, d⟩ := R.dat j x h; ⟨v, e, dpSub s d⟩
  own := fun j xs h => by
    obtain ⟨p, vs, e, h1, h2, h3, h4⟩ := R.own j xs h
    refine ⟨p, vs, e, t _ _ h1, daSub s h2, ?_, h4⟩
    cases z : F' p with
    | none => rfl
    | some u =>
      rcases n p u z with q | q
      · rw [h3] at q; cases q
      · rw [h1] at q; cases q
  uni := R.uni
  lnt := fun j xs h => by
    obtain ⟨p, vs, e, h1, h2, h3, h4⟩ := R.lnt j xs h
    refine ⟨p, vs, e, t _ _ h1, daSub s h2, ?_, h4⟩
    cases z : F' p with
    | none => rfl
    | some u =>
      rcases n p u z with q | q
      · rw [h3] at q; cases q
      · rw [h1] at q; cases q
  one := R.one
  ll := fun a h => by
    obtain ⟨⟨o, e⟩, f⟩ := R.ll a h
    refine ⟨⟨o, t _ _ e⟩, ?_⟩
    cases z : F' a with
    | none => rfl
    | some u =>
      rcases n a u z with q | q
      · rw [f] at q; cases q
      · rw [e] at q; cases q
  dcs := R.dcs.sub (fun j v h _ => ⟨h, rfl⟩) s fun p o e _ _ f z _ => ⟨t _ _ e, (by
    cases q : F' p with
    | none => rfl
    | some u =>
      rcases n p u q with g | g
      · rw [f] at g; cases g
      · rw [e] at g; cases g), z⟩
theorem New.refl : New F F H := fun _ _ h => .inl h
theorem New.add {a : Addr} {o : HO} (h : H a = none) : New F (upd F a o) H := fun b u q => by
  by_cases e : b = a
  · subst e; exact .inr h
  · rw [upd_ne e] at q; exact .inl q
theorem same_upd {a : Addr} {o : HO} (h : H a = none) : Same H (upd H a o) := fun b u q => by
  rw [upd_ne (ne_of_none q h)]; exact q
theorem sub_updF {a : Addr} {o : HO} (h : F a = none) : Sub F (upd F a o) := fun b u q => by
  rw [upd_ne (ne_of_none q h)]; exact q
/-- a new tuple -/
theorem Rep.tup (R : Rep K H0 F0 F H σ ε) {p : Addr} (o : HO) (hp : H p = none) : Rep K H0 F0 (upd F p o) (upd H p o) σ ε :=
  R.grow (same_upd hp) (sub_updF (R.fh.none hp)) R.fh.upd2 (.add hp)
/-- a new list, nobody's yet -/
theorem Rep.lst (R : Rep K H0 F0 F H σ ε) {p : Addr} (o : HO) (hp : H p = none) : Rep K H0 F0 F (upd H p o) σ ε :=
  R.grow (same_upd hp) (Sub.refl F) (R.fh.upd (R.fh.none hp)) .refl
theorem Rep.offNew (R : Rep K H0 F0 F H σ ε) {p : Addr} (hp : H p = none) : Off σ ε p := fun j ys h e => by
  obtain ⟨q, vs, e1, h1, _⟩ := R.own j ys h
  rw [e] at e1
  have : p = q := by simpa using e1
  subst this
  rw [hp] at h1; cases h1
theorem VAt.newL (R : Rep K H0 F0 F H σ ε) {p : Addr} {vs : List V} {xs : List D} (hp : H p = none) (d : DpAll K F vs xs) : VAt K H0 F (upd H p (.lst vs)) σ ε (.ref p) (.own xs) :=
  ⟨p, vs, rfl, upd_same, d, R.fh.none hp, R.no hp, R.offNew hp⟩
/-- an own thing that is held: it stands still from now on -/
theorem Rep.freeze (R : Rep K H0 F0 F H σ ε) {v : V} {x : Val} (h : VAt K H0 F H σ ε v x) {d : D} (e : (match x with | .d y => some y | .own xs => some (.list xs) | _ => none) = some d) :
    ∃ F', Sub F F' ∧ Rep K H0 F0 F' H σ ε ∧ Dp K F' v d := by
  cases x with
  | d y => cases e; exact ⟨F, .refl F, R, h⟩
  | own xs =>
    cases e
    obtain ⟨p, vs, rfl, h1, h2, h3, h4, h5⟩ := h
    have sb : Sub F (upd F p (.lst vs)) := sub_updF h3
    refine ⟨upd F p (.lst vs), sb, ⟨R.fh.add h1, R.ff.trans sb, R.h0, fun a o q => ?_, R.len, fun j y q => ?_, fun j ys q => ?_, R.uni, fun j ys q => ?_, R.one, fun a q => ?_, R.dcs.sub (fun j v h _ => ⟨h, rfl⟩) sb fun q o e n1 _ f z _ => ⟨e, by rw [upd_ne (fun w => n1 vs (by rw [w, h1] at e; exact (Option.some.inj e).symm))]; exact f, z⟩⟩, .lst (.inl (.inl upd_same)) (daSub sb h2)⟩
    · by_cases e : a = p
      · subst e; exact .inr h4.1
      · rw [upd_ne e] at q; exact R.fr a o q
    · obtain ⟨w, e, q⟩ := R.dat j y q
      exact ⟨w, e, dpSub sb q⟩
    · obtain ⟨r, ws, e1, g1, g2, g3, g4⟩ := R.own j ys q
      have ne : r ≠ p := fun z => by subst z; exact h5 j ys q e1
      exact ⟨r, ws, e1, g1, daSub sb g2, by rw [upd_ne ne]; exact g3, g4⟩
    · obtain ⟨r, ws, e1, g1, g2, g3, g4⟩ := R.lnt j ys q
      have ne : r ≠ p := fun z => by subst z; exact h4.2 g4
      exact ⟨r, ws, e1, g1, daSub sb g2, by rw [upd_ne ne]; exact g3, g4⟩
    · have ne : a ≠ p := fun z => by subst z; exact h4.2 q
      obtain ⟨g1, g2⟩ := R.ll a q
      exact ⟨g1, by rw [upd_ne ne]; exact g2⟩
  | many _ => cases e
  | exc _ => cases e
  | lent _ => cases e
  | two _ _ => cases e
  | twoO _ _ => cases e
  | dI _ => cases e
  | dT _ => cases e
theorem σlt {σ : St} {j : Nat} {v : V} (h : σ[j]? = some (some v)) : j < σ.length := (List.getElem?_eq_some_iff.mp h).1
/-- a name is told less of -/
theorem Rep.forget (R : Rep K H0 F0 F H σ ε) (j : Nat) : Rep K H0 F0 F H σ (pv ε j none) where
  fh := R.fh
  ff := R.ff
  h0 := R.h0
  fr := R.fr
  len := by rw [pv_len]; exact R.len
  dat := fun i x h => by
    rw [gv_pv] at h
    split at h
    · split at h <;> cases h
    · exact R.dat i x h
  own := fun i x h => by
    rw [gv_pv] at h
    split at h
    · split at h <;> cases h
    · exact R.own i x h
  uni := fun i k xs ys p a b => by
    rw [gv_pv] at a b
    split at a
    · split at a <;> cases a
    · split at b
      · split at b <;> cases b
      · exact R.uni i k xs ys p a b
  lnt := fun i x h => by
    rw [gv_pv] at h
    split at h
    · split at h <;> cases h
    · exact R.lnt i x h
  one := fun i k xs ys p a b => by
    rw [gv_pv] at a b
    split at a
    · split at a <;> cases a
    · split at b
      · split at b <;> cases b
      · exact R.one i k xs ys p a b
  ll := R.ll
  dcs := R.dcs.sub (fun i v h c => ⟨(dcGv (fun _ z => by cases z) i v h c).1, rfl⟩) (.refl _) fun p o e _ _ f z _ => ⟨e, f, z⟩
/-- a name's own list stands still from now on -/
theorem Rep.still (R : Rep K H0 F0 F H σ ε) {j : Nat} {xs : List D} (h : gv ε j = some (.own xs)) :
    ∃ v F', σ[j]? = some (some v) ∧ Sub F F' ∧ Rep K H0 F0 F' H σ (pv ε j (some (.d (.list xs)))) ∧ Dp K F' v (.list xs) := by
  obtain ⟨p, vs, e, h1, h2, h3, h4⟩ := R.own j xs h
  have sb : Sub F (upd F p (.lst vs)) := sub_updF h3
  have dd : Dp K (upd F p (.lst vs)) (.ref p) (.list xs) := .lst (.inl (.inl upd_same)) (daSub sb h2)
  refine ⟨.ref p, upd F p (.lst vs), e, sb, ⟨R.fh.add h1, R.ff.trans sb, R.h0, fun a o q => ?_, by rw [pv_len]; exact R.len, fun i y q => ?_, fun i ys q => ?_, fun i k ys zs r a b => ?_, fun i ys q => ?_, fun i k ys zs r a b => ?_, fun a q => ?_, R.dcs.sub (fun i v h c => ⟨(dcGv (fun _ z => by cases z; rfl) i v h c).1, rfl⟩) sb fun q o e n1 _ f z _ => ⟨e, by rw [upd_ne (fun w => n1 vs (by rw [w, h1] at e; exact (Option.some.inj e).symm))]; exact f, z⟩⟩, dd⟩
  · by_cases e : a = p
    · subst e; exact .inr h4.1
    · rw [upd_ne e] at q; exact R.fr a o q
  · rw [gv_pv] at q
    split at q
    · rename_i hi
      subst hi
      split at q
      · cases q; exact ⟨_, e, dd⟩
      · cases q
    · obtain ⟨w, e, q⟩ := R.dat i y q
      exact ⟨w, e, dpSub sb q⟩
  · rw [gv_pv] at q
    split at q
    · split at q <;> cases q
    · rename_i hi
      obtain ⟨r, ws, e1, g1, g2, g3, g4⟩ := R.own i ys q
      have ne : r ≠ p := fun z => by subst z; exact hi (R.uni i j ys xs r q h e1 e)
      exact ⟨r, ws, e1, g1, daSub sb g2, by rw [upd_ne ne]; exact g3, g4⟩
  · rw [gv_pv] at a b
    split at a
    · split at a <;> cases a
    · split at b
      · split at b <;> cases b
      · exact R.uni i k ys zs r a b
  · rw [gv_pv] at q
    split at q
    · split at q <;> cases q
    · obtain ⟨r, ws, e1, g1, g2, g3, g4⟩ := R.lnt i ys q
      have ne : r ≠ p := fun z => by subst z; exact h4.2 g4
      exact ⟨r, ws, e1, g1, daSub sb g2, by rw [upd_ne ne]; exact g3, g4⟩
  · rw [gv_pv] at a b
    split at a
    · split at a <;> cases a
    · split at b
      · split at b <;> cases b
      · exact R.one i k ys zs r a b
  · have ne : a ≠ p := fun z => by subst z; exact h4.2 q
    obtain ⟨g1, g2⟩ := R.ll a q
    exact ⟨g1, by rw [upd_ne ne]; exact g2⟩
/-- a name's own list is handed on -/
theorem Rep.move (R : Rep K H0 F0 F H σ ε) {j : Nat} {xs : List D} (h : gv ε j = some (.own xs)) :
    ∃ v, σ[j]? = some (some v) ∧ Rep K H0 F0 F H σ (pv ε j none) ∧ VAt K H0 F H σ (pv ε j none) v (.own xs) := by
  obtain ⟨p, vs, e, h1, h2, h3, h4⟩ := R.own j xs h
  refine ⟨.ref p, e, R.forget j, p, vs, rfl, h1, h2, h3, h4, fun i ys q z => ?_⟩
  rw [gv_pv] at q
  split at q
  · split at q <;> cases q
  · rename_i hi
    exact hi (R.uni i j ys xs p q h z e)
/-- a name takes a value -/
theorem Rep.store (R : Rep K H0 F0 F H σ ε) {v : V} {x : Val} (h : VAt K H0 F H σ ε v x) (j : Nat) : Rep K H0 F0 F H (σ.set j (some v)) (pv ε j (some x)) where
  fh := R.fh
  ff := R.ff
  h0 := R.h0
  fr := R.fr
  len := by rw [pv_len, List.length_set]; exact R.len
  dat := fun i y q => by
    rw [gv_pv] at q
    split at q
    · rename_i hi
      subst hi
      split at q
      · rename_i hl
        cases q
        exact ⟨v, by rw [List.getElem?_set_self (by rw [R.len]; exact hl)], h⟩
      · cases q
    · rename_i hi
      obtain ⟨w, e, d⟩ := R.dat i y q
      exact ⟨w, by rw [List.getElem?_set_ne (Ne.symm hi)]; exact e, d⟩
  own := fun i ys q => by
    rw [gv_pv] at q
    split at q
    · rename_i hi
      subst hi
      split at q
      · rename_i hl
        cases q
        obtain ⟨p, vs, rfl, h1, h2, h3, h4, h5⟩ := h
        exact ⟨p, vs, by rw [List.getElem?_set_self (by rw [R.len]; exact hl)], h1, h2, h3, h4⟩
      · cases q
    · rename_i hi
      obtain ⟨w, ws, e, d⟩ := R.own i ys q
      exact ⟨w, ws, by rw [List.getElem?_set_ne (Ne.symm hi)]; exact e, d⟩
  uni := fun i k xs ys p a b ea eb => by
    rw [gv_pv] at a b
    split at a
    · rename_i hi
      split at b
      · rename_i hk; rw [hi, hk]
      · rename_i hk
        split at a
        · rename_i hl
          cases a
          rw [hi, List.getElem?_set_self (by rw [R.len]; exact hl)] at ea
          rw [List.getElem?_set_ne (Ne.symm hk)] at eb
          obtain ⟨p', vs, rfl, h1, h2, h3, h4, h5⟩ := h
          have : p' = p := by simpa using ea
          subst this
          exact absurd eb (h5 k ys b)
        · cases a
    · rename_i hi
      rw [List.getElem?_set_ne (Ne.symm hi)] at ea
      split at b
      · rename_i hk
        split at b
        · rename_i hl
          cases b
          rw [hk, List.getElem?_set_self (by rw [R.len]; exact hl)] at eb
          obtain ⟨p', vs, rfl, h1, h2, h3, h4, h5⟩ := h
          have : p' = p := by simpa using eb
          subst this
          exact absurd ea (h5 i xs a)
        · cases b
      · rename_i hk
        rw [List.getElem?_set_ne (Ne.symm hk)] at eb
        exact R.uni i k xs ys p a b ea eb
  lnt := fun i ys q => by
    rw [gv_pv] at q
    split at q
    · split at q
      · cases q; exact h.elim
      · cases q
    · rename_i hi
      obtain ⟨w, ws, e, d⟩ := R.lnt i ys q
      exact ⟨w, ws, by rw [List.getElem?_set_ne (Ne.symm hi)]; exact e, d⟩
  one := fun i k xs ys p a b ea eb => by
    rw [gv_pv] at a b
    split at a
    · split at a
      · cases a; exact h.elim
      · cases a
    · rename_i hi
      split at b
      · split at b
        · cases b; exact h.elim
        · cases b
      · rename_i hk
        rw [List.getElem?_set_ne (Ne.symm hi)] at ea
        rw [List.getElem?_set_ne (Ne.symm hk)] at eb
        exact R.one i k xs ys p a b ea eb
  ll := R.ll
  dcs := R.dcs.sub (fun i w q c => by
    have no : ∀ w, some x = some w → isDc w = false := fun w z => by
      cases z
      cases x with
      | dI _ => exact h.elim
      | dT _ => exact h.elim
      | _ => rfl
    obtain ⟨g1, g2⟩ := dcGv no i w q c
    exact ⟨g1, List.getElem?_set_ne (Ne.symm g2)⟩) (.refl _) fun p o e _ _ f z _ => ⟨e, f, z⟩
/-- a name's own list is changed -/
theorem Rep.change (R : Rep K H0 F0 F H σ ε) {j : Nat} {xs ys : List D} {p : Addr} {ws : List V} (h : gv ε j = some (.own xs)) (e : σ[j]? = some (some (.ref p))) (d : DpAll K F ws ys) :
    Rep K H0 F0 F (upd H p (.lst ws)) σ (pv ε j (some (.own ys))) := by
  obtain ⟨p', vs, e', h1, h2, h3, h4⟩ := R.own j xs h
  have : p' = p := by rw [e'] at e; simpa using e
  subst this
  refine ⟨R.fh.upd h3, R.ff, R.h0.upd h4.1, R.fr, by rw [pv_len]; exact R.len, fun i y q => ?_, fun i zs q => ?_, fun i k as bs r a b ea eb => ?_, fun i zs q => ?_, fun i k as bs r a b => ?_, fun a q => ?_,
    R.dcs.sub (fun i v h c => ⟨(dcGv (fun _ z => by cases z; rfl) i v h c).1, rfl⟩) (.refl _) fun q o e n1 _ f z _ => ⟨by rw [upd_ne (fun w => n1 vs (by rw [w, h1] at e; exact (Option.some.inj e).symm))]; exact e, f, z⟩⟩
  · rw [gv_pv] at q
    split at q
    · split at q <;> cases q
    · exact R.dat i y q
  · rw [gv_pv] at q
    split at q
    · rename_i hi
      subst hi
      split at q
      · cases q; exact ⟨p', ws, e, upd_same, d, h3, h4⟩
      · cases q
    · rename_i hi
      obtain ⟨r, us, g1, g2, g3⟩ := R.own i zs q
      have ne : r ≠ p' := fun z => by subst z; exact hi (R.uni i j zs xs r q h g1 e)
      exact ⟨r, us, g1, by rw [upd_ne ne]; exact g2, g3⟩
  · have fix : ∀ {i : Nat} {as : List D}, gv (pv ε j (some (.own ys))) i = some (.own as) → ∃ bs, gv ε i = some (.own bs) := fun {i as} q => by
      rw [gv_pv] at q
      split at q
      · rename_i hi; subst hi; exact ⟨xs, h⟩
      · exact ⟨as, q⟩
    obtain ⟨as', a'⟩ := fix a
    obtain ⟨bs', b'⟩ := fix b
    exact R.uni i k as' bs' r a' b' ea eb
  · rw [gv_pv] at q
    split at q
    · split at q <;> cases q
    · obtain ⟨r, us, g1, g2, g3, g4, g5⟩ := R.lnt i zs q
      have ne : r ≠ p' := fun z => by subst z; exact h4.2 g5
      exact ⟨r, us, g1, by rw [upd_ne ne]; exact g2, g3, g4, g5⟩
  · rw [gv_pv] at a b
    split at a
    · split at a <;> cases a
    · split at b
      · split at b <;> cases b
      · exact R.one i k as bs r a b
  · have ne : a ≠ p' := fun z => by subst z; exact h4.2 q
    obtain ⟨⟨o, g1⟩, g2⟩ := R.ll a q
    exact ⟨⟨o, by rw [upd_ne ne]; exact g1⟩, g2⟩
/-- what is lent is changed, and more things stand -/
theorem Rep.lentTo (R : Rep K H0 F0 F H σ ε) {j : Nat} {xs ys : List D} {p : Addr} {ws : List V} (h : gv ε j = some (.lent xs)) (e : σ[j]? = some (some (.ref p))) (t : ∀ a o, a ≠ p → H a = some o → H' a = some o) (s : Sub F F') (fh : Sub F' H') (n : New F F' H)
    (hp : H' p = some (.lst ws)) (d : DpAll K F' ws ys) (fp : F' p = none) : Rep K H0 F0 F' H' σ (pv ε j (some (.lent ys))) := by
  obtain ⟨p', vs, e', h1, h2, h3, h4⟩ := R.lnt j xs h
  have : p' = p := by rw [e'] at e; simpa using e
  subst this
  have nl : ∀ a, ¬ H0.l a → a ≠ p' := fun a z e => z (e ▸ h4)
  have nf : ∀ {a : Addr} {o : HO}, H a = some o → F a = none → F' a = none := fun {a o} q f => by
    cases z : F' a with
    | none => rfl
    | some u =>
      rcases n a u z with g | g
      · rw [f] at g; cases g
      · rw [q] at g; cases g
  refine ⟨fh, R.ff.trans s, fun a o z q => t a o (nl a z) (R.h0 a o z q), fun a o q => ?_, by rw [pv_len]; exact R.len, fun i y q => ?_, fun i zs q => ?_, fun i k as bs r a b ea eb => ?_, fun i zs q => ?_, fun i k as bs r a b ea eb => ?_, fun a q => ?_,
    R.dcs.sub (fun i v h c => ⟨(dcGv (fun _ z => by cases z; rfl) i v h c).1, rfl⟩) s fun q o e n1 _ f z _ => ⟨t _ _ (nl _ z.2) e, nf e f, z⟩⟩
  · rcases n a o q with q | q
    · exact R.fr a o q
    · exact .inr (R.no q).1
  · rw [gv_pv] at q
    split at q
    · split at q <;> cases q
    · obtain ⟨v, g1, g2⟩ := R.dat i y q
      exact ⟨v, g1, dpSub s g2⟩
  · rw [gv_pv] at q
    split at q
    · split at q <;> cases q
    · obtain ⟨r, us, g1, g2, g3, g4, g5⟩ := R.own i zs q
      exact ⟨r, us, g1, t _ _ (nl _ g5.2) g2, daSub s g3, nf g2 g4, g5⟩
  · rw [gv_pv] at a b
    split at a
    · split at a <;> cases a
    · split at b
      · split at b <;> cases b
      · exact R.uni i k as bs r a b ea eb
  · rw [gv_pv] at q
    split at q
    · rename_i hi
      subst hi
      split at q
      · cases q; exact ⟨p', ws, e, hp, d, fp, h4⟩
      · cases q
    · rename_i hi
      obtain ⟨r, us, g1, g2, g3, g4, g5⟩ := R.lnt i zs q
      have ne : r ≠ p' := fun z => by subst z; exact hi (R.one i j zs xs r q h g1 e)
      exact ⟨r, us, g1, t _ _ ne g2, daSub s g3, nf g2 g4, g5⟩
  · have fix : ∀ {i : Nat} {as : List D}, gv (pv ε j (some (.lent ys))) i = some (.lent as) → ∃ bs, gv ε i = some (.lent bs) := fun {i as} q => by
      rw [gv_pv] at q
      split at q
      · rename_i hi; subst hi; exact ⟨xs, h⟩
      · exact ⟨as, q⟩
    obtain ⟨as', a'⟩ := fix a
    obtain ⟨bs', b'⟩ := fix b
    exact R.one i k as' bs' r a' b' ea eb
  · by_cases ea : a = p'
    · subst ea
      exact ⟨⟨_, hp⟩, fp⟩
    · obtain ⟨⟨o, g1⟩, g2⟩ := R.ll a q
      exact ⟨⟨o, t _ _ ea g1⟩, nf g1 g2⟩
/-- behind an error in a def that had the list -/
theorem Rep.lentGone (R : Rep K H0 F0 F H σ ε) {j : Nat} {xs : List D} {p : Addr} (h : gv ε j = some (.lent xs)) (e : σ[j]? = some (some (.ref p))) (t : ∀ a o, a ≠ p → H a = some o → H' a = some o) (hp : ∃ o, H' p = some o) : Rep K H0 F0 F H' σ (pv ε j none) := by
  obtain ⟨p', vs, e', h1, h2, h3, h4⟩ := R.lnt j xs h
  have : p' = p := by rw [e'] at e; simpa using e
  subst this
  have nl : ∀ a, ¬ H0.l a → a ≠ p' := fun a z e => z (e ▸ h4)
  have R1 := R.forget j
  refine ⟨fun a o q => t a o (fun z => by subst z; rw [h3] at q; cases q) (R.fh a o q), R.ff, fun a o z q => t a o (nl a z) (R.h0 a o z q), R.fr, R1.len, R1.dat, fun i zs q => ?_, R1.uni, fun i zs q => ?_, R1.one, fun a q => ?_,
    R1.dcs.sub (fun i v h c => ⟨h, rfl⟩) (.refl _) fun q o e n1 _ f z _ => ⟨t _ _ (nl _ z.2) e, f, z⟩⟩
  · obtain ⟨r, us, g1, g2, g3, g4, g5⟩ := R1.own i zs q
    exact ⟨r, us, g1, t _ _ (nl _ g5.2) g2, g3, g4, g5⟩
  · rw [gv_pv] at q
    split at q
    · split at q <;> cases q
    · rename_i hi
      obtain ⟨r, us, g1, g2, g3, g4, g5⟩ := R.lnt i zs q
      have ne : r ≠ p' := fun z => by subst z; exact hi (R.one i j zs xs r q h g1 e)
      exact ⟨r, us, g1, t _ _ ne g2, g3, g4, g5⟩
  · by_cases ea : a = p'
    · subst ea
      exact ⟨hp, h3⟩
    · obtain ⟨⟨o, g1⟩, g2⟩ := R.ll a q
      exact ⟨⟨o, t _ _ ea g1⟩, g2⟩
/-- a name takes a dict -/
theorem Rep.dcAny (R : Rep K H0 F0 F H σ ε) {σ' : St} {j : Nat} {p : Addr} {o : HO} {v : Val} (c : isDc v = true) (d : DcAt K F (upd H p o) p v) (fp : F p = none) (np : H0.no p) (nl : ∀ vs, H p ≠ some (.lst vs))
    (hu : ∀ i w, i ≠ j → gv ε i = some w → isDc w = true → σ[i]? ≠ some (some (.ref p))) (hl : σ'.length = σ.length) (hs : ∀ i, i ≠ j → σ'[i]? = σ[i]?) (hj : j < σ.length → σ'[j]? = some (some (.ref p))) :
    Rep K H0 F0 F (upd H p o) σ' (pv ε j (some v)) := by
  have nv : ∀ {x : Val}, v = x → isDc x = true := fun e => e ▸ c
  have tk : ∀ {q : Addr} {vs : List V}, H q = some (.lst vs) → upd H p o q = some (.lst vs) := fun {q vs} e => by rw [upd_ne (fun z => nl vs (by rw [← z]; exact e))]; exact e
  have gg : ∀ {i : Nat} {w : Val}, gv (pv ε j (some v)) i = some w → (i = j ∧ w = v ∧ j < σ.length) ∨ (i ≠ j ∧ gv ε i = some w) := fun {i w} q => by
    rw [gv_pv] at q
    split at q
    · rename_i hi
      split at q
      · rename_i hh
        cases q; exact .inl ⟨hi, rfl, by rw [R.len]; exact hh⟩
      · cases q
    · rename_i hi; exact .inr ⟨hi, q⟩
  refine ⟨R.fh.upd fp, R.ff, R.h0.upd np.1, R.fr, by rw [pv_len, hl]; exact R.len, fun i y q => ?_, fun i zs q => ?_, fun i k as bs r a b ea eb => ?_, fun i zs q => ?_, fun i k as bs r a b ea eb => ?_, fun a q => ?_, ⟨fun i w q cw => ?_, fun i k u w r a ca b cb ea eb => ?_⟩⟩
  · rcases gg q with ⟨_, e, _⟩ | ⟨hi, q⟩
    · cases nv e.symm
    · rw [hs i hi]; exact R.dat i y q
  · rcases gg q with ⟨_, e, _⟩ | ⟨hi, q⟩
    · cases nv e.symm
    · obtain ⟨r, us, g1, g2, g3⟩ := R.own i zs q
      exact ⟨r, us, by rw [hs i hi]; exact g1, tk g2, g3⟩
  · rcases gg a with ⟨_, e, _⟩ | ⟨hi, a⟩
    · cases nv e.symm
    · rcases gg b with ⟨_, e, _⟩ | ⟨hk, b⟩
      · cases nv e.symm
      · rw [hs i hi] at ea
        rw [hs k hk] at eb
        exact R.uni i k as bs r a b ea eb
  · rcases gg q with ⟨_, e, _⟩ | ⟨hi, q⟩
    · cases nv e.symm
    · obtain ⟨r, us, g1, g2, g3⟩ := R.lnt i zs q
      exact ⟨r, us, by rw [hs i hi]; exact g1, tk g2, g3⟩
  · rcases gg a with ⟨_, e, _⟩ | ⟨hi, a⟩
    · cases nv e.symm
    · rcases gg b with ⟨_, e, _⟩ | ⟨hk, b⟩
      · cases nv e.symm
      · rw [hs i hi] at ea
        rw [hs k hk] at eb
        exact R.one i k as bs r a b ea eb
  · obtain ⟨⟨u, g1⟩, g2⟩ := R.ll a q
    have ne : a ≠ p := fun z => np.2 (by rw [← z]; exact q)
    exact ⟨⟨u, by rw [upd_ne ne]; exact g1⟩, g2⟩
  · rcases gg q with ⟨hi, e, hh⟩ | ⟨hi, q⟩
    · subst e
      exact ⟨p, by rw [hi]; exact hj hh, d, fp, np⟩
    · obtain ⟨r, a1, a2, a3, a4⟩ := R.dcs.at_ i w q cw
      have ne : r ≠ p := fun z => hu i w hi q cw (by rw [← z]; exact a1)
      exact ⟨r, by rw [hs i hi]; exact a1, a2.mono (.refl _) (fun u e => by rw [upd_ne ne]; exact e), a3, a4⟩
  · rcases gg a with ⟨hi, e, hh⟩ | ⟨hi, a⟩
    · rcases gg b with ⟨hk, _, _⟩ | ⟨hk, b⟩
      · rw [hi, hk]
      · rw [hi, hj hh] at ea
        have e3 : p = r := by simpa using ea
        rw [hs k hk, ← e3] at eb
        exact absurd eb (hu k w hk b cb)
    · rw [hs i hi] at ea
      rcases gg b with ⟨hk, e, hh⟩ | ⟨hk, b⟩
      · rw [hk, hj hh] at eb
        have e3 : p = r := by simpa using eb
        rw [← e3] at ea
        exact absurd ea (hu i u hi a ca)
      · rw [hs k hk] at eb
        exact R.dcs.uni i k u w r a ca b cb ea eb
/-- a new dict -/
theorem Rep.dcNew (R : Rep K H0 F0 F H σ ε) {j : Nat} {p : Addr} {o : HO} {v : Val} (c : isDc v = true) (hp : H p = none) (d : DcAt K F (upd H p o) p v) : Rep K H0 F0 F (upd H p o) (σ.set j (some (.ref p))) (pv ε j (some v)) :=
  R.dcAny c d (R.fh.none hp) (R.no hp) (fun vs z => by rw [hp] at z; cases z) (fun i w _ q cw e => by
    obtain ⟨r, a1, a2, _⟩ := R.dcs.at_ i w q cw
    obtain ⟨u, e2, _⟩ := a2.there
    rw [e] at a1
    have : p = r := by simpa using a1
    subst this
    rw [hp] at e2; cases e2) (by rw [List.length_set]) (fun i hi => List.getElem?_set_ne (Ne.symm hi)) (fun hh => List.getElem?_set_self hh)
/-- a dict is changed -/
theorem Rep.dcPut (R : Rep K H0 F0 F H σ ε) {j : Nat} {p : Addr} {o : HO} {u v : Val} (h : gv ε j = some u) (cu : isDc u = true) (e : σ[j]? = some (some (.ref p))) (c : isDc v = true) (d : DcAt K F (upd H p o) p v) : Rep K H0 F0 F (upd H p o) σ (pv ε j (some v)) := by
  obtain ⟨r, a1, a2, a3, a4⟩ := R.dcs.at_ j u h cu
  rw [a1] at e
  have : r = p := by simpa using e
  subst this
  obtain ⟨w, e2, n1, _⟩ := a2.there
  exact R.dcAny c d a3 a4 (fun vs z => n1 vs (by rw [e2] at z; exact Option.some.inj z)) (fun i w hi q cw z => hi (R.dcs.uni i j w u r q cw h cu z a1)) rfl (fun _ _ => rfl) (fun _ => a1)
/-- the dict of a name -/
theorem dictGo (R : Rep K H0 F0 F H σ ε) {j : Nat} {k : Val → Prop} (w : dictAt ε j k) : ∃ v p, gv ε j = some v ∧ isDc v = true ∧ σ[j]? = some (some (.ref p)) ∧ DcAt K F H p v ∧ F p = none ∧ H0.no p ∧ k v := by
  unfold dictAt at w
  split at w
  · rename_i kvs h
    obtain ⟨p, a1, a2, a3, a4⟩ := R.dcs.at_ j _ h rfl
    exact ⟨_, p, h, rfl, a1, a2, a3, a4, w⟩
  · rename_i kvs h
    obtain ⟨p, a1, a2, a3, a4⟩ := R.dcs.at_ j _ h rfl
    exact ⟨_, p, h, rfl, a1, a2, a3, a4, w⟩
  · exact w.elim
end
end Rc

/-! The text against the small language's terms; what the terms mean holds of the text: expressions. -/
namespace Rc
open PySem PySem.Spec PyProof.Rows L2

/-! ### the look at the text -/
def nmB (N : List Str) (j : Nat) (x : Str) : Bool := decide (N[j]? = some x) && !(x == ("__debug__" : Str)) && !(x == ("__classdict__" : Str))
def visB (sc : Scope) (x : Str) : Bool := match sc.names.lookup x with
  | some .local => true
  | some .cell => true
  | some .free => true
  | _ => false
def locB (sc : Scope) (x : Str) : Bool := match sc.names.lookup x with
  | some .local => true
  | some .cell => true
  | _ => false
def lclB (sc : Scope) (x : Str) : Bool := match sc.names.lookup x with
  | some .local => true
  | _ => false
def glB (sc : Scope) (x : Str) : Bool := match sc.names.lookup x with
  | some .globalImplicit => true
  | _ => false
def plainE : Expr → Bool
  | .Starred .. => false
  | .Slice .. => false
  | .Set .. => false
  | _ => true
def noComp : Expr → Bool
  | .ListComp .. => false
  | .SetComp .. => false
  | .DictComp .. => false
  | _ => true
def litB : D → Const → Bool
  | .none, .none => true
  | .bool a, .bool b => a == b
  | .int i, .int j => i == j
  | .str x, .str y => decide (x = y)
  | _, _ => false
def biName : Bi → Str
  | .abs => "abs"
  | .int => "int"
  | .list => "list"
  | .tuple => "tuple"
  | .max => "max"
  | .min => "min"
  | .all => "all"
  | .any => "any"
  | .sum => "sum"
  | .str => "str"
def tyName : Ty → Str
  | .int => "int"
  | .bool => "bool"
  | .tuple => "tuple"
  | .list => "list"
  | .str => "str"
def tyStr : Ty → String
  | .int => "int"
  | .bool => "bool"
  | .tuple => "tuple"
  | .list => "list"
  | .str => "str"
def isL : IE → Bool
  | .nil => true
  | .cons _ _ => true
  | _ => false
def isLP : IE → Bool
  | .nil => true
  | .consP _ _ => true
  | _ => false
def isIt : IE → Bool
  | .itv _ => true
  | .rng1 _ => true
  | .rng2 _ _ => true
  | .rngd _ _ => true
  | .enm _ => true
  | .rvd _ => true
  | .zip _ _ => true
  | .rvr _ => true
  | _ => false
/-- the names that a target binds, with their places -/
def tgOwns : List Nat → List Expr → List (Str × Nat)
  | j :: js, .Name x _ :: es => (x, j) :: tgOwns js es
  | _, _ => []
def tgOwn : Tg → Expr → List (Str × Nat)
  | .one j, .Name x _ => [(x, j)]
  | .tup js, .Tuple es _ _ => tgOwns js es
  | .nst js j, .Tuple [.Tuple es _ _, .Name x _] _ _ => tgOwns js es ++ [(x, j)]
  | _, _ => []
/-- a comprehension's own name, a cell at times -/
def blB (scope sc : Scope) (x : Str) : Bool := lclB (relS scope sc) x || (scope.names.lookup x == some .cell)
def tgsB (p : Str → Bool) (N : List Str) : List Nat → List Expr → Bool
  | [], [] => true
  | j :: js, .Name x _ :: es => nmB N j x && p x && tgsB p N js es
  | _, _ => false
def tgB (p : Str → Bool) (N : List Str) : Tg → Expr → Bool
  | .one j, .Name x _ => nmB N j x && p x
  | .tup js, .Tuple es _ _ => tgsB p N js es
  | .nst js j, .Tuple [.Tuple es _ _, .Name x _] _ _ => tgsB p N js es && nmB N j x && p x
  | _, _ => false
/-- a part that may be left out -/
def optB (n : Bool) (l : Option Expr) (f : Expr → Bool) : Bool := match l with
  | none => n
  | some e => !n && f e
def ifsB (n : Bool) (l : List Expr) (f : Expr → Bool) : Bool := match l with
  | [] => n
  | [e] => !n && f e
  | _ => false
def isTup : Expr → Bool
  | .Tuple .. => true
  | _ => false
def noSet : Expr → Bool
  | .Set .. => false
  | _ => true
/-- the base of a method's call is no name of a module or class -/
def noAttr : Expr → Bool
  | .Name .. => true
  | .Constant .. => true
  | .List .. => true
  | .Subscript .. => true
  | _ => false
def litE (d : D) (e : Expr) : Bool := match e with
  | .Constant c _ _ => litB d c
  | .UnaryOp .USub (.Constant (.int j) _ _) _ => (match d with
    | .int i => decide (i = -j)
    | _ => false)
  | _ => false
mutual
def litX : D → Expr → Bool
  | .tuple ds, .Tuple es _ _ => litXs ds es && decide (ds.length ≤ 16777216)
  | .none, e => litE .none e
  | .bool b, e => litE (.bool b) e
  | .int i, e => litE (.int i) e
  | .str s, e => litE (.str s) e
  | _, _ => false
def litXs : List D → List Expr → Bool
  | [], [] => true
  | d :: ds, e :: es => plainE e && litX d e && litXs ds es
  | _, _ => false
end
mutual
def sameD : D → D → Bool
  | .none, .none => true
  | .bool a, .bool b => a == b
  | .int a, .int b => a == b
  | .str a, .str b => decide (a = b)
  | .tuple a, .tuple b => sameAll a b
  | _, _ => false
def sameAll : List D → List D → Bool
  | [], [] => true
  | a :: r, b :: t => sameD a b && sameAll r t
  | _, _ => false
end
mutual
theorem sameD_eq : ∀ {a b : D}, sameD a b = true → a = b
  | .none, .none, _ => rfl
  | .bool a, .bool b, h => by rw [beq_iff_eq.mp (show (a == b) = true by unfold sameD at h; exact h)]
  | .int a, .int b, h => by rw [beq_iff_eq.mp (show (a == b) = true by unfold sameD at h; exact h)]
  | .str a, .str b, h => by rw [of_decide_eq_true (show decide (a = b) = true by unfold sameD at h; exact h)]
  | .tuple a, .tuple b, h => by rw [sameAll_eq (show sameAll a b = true by unfold sameD at h; exact h)]
  | .list _, _, h => by unfold sameD at h; cases h
  | .dict _, _, h => by unfold sameD at h; cases h
  | .none, .bool _, h | .none, .int _, h | .none, .str _, h | .none, .list _, h | .none, .tuple _, h | .none, .dict _, h => by unfold sameD at h; cases h
  | .bool _, .none, h | .bool _, .int _, h | .bool _, .str _, h | .bool _, .list _, h | .bool _, .tuple _, h | .bool _, .dict _, h => by unfold sameD at h; cases h
  | .int _, .none, h | .int _, .bool _, h | .int _, .str _, h | .int _, .list _, h | .int _, .tuple _, h | .int _, .dict _, h => by unfold sameD at h; cases h
  | .str _, .none, h | .str _, .bool _, h | .str _, .int _, h | .str _, .list _, h | .str _, .tuple _, h | .str _, .dict _, h => by unfold sameD at h; cases h
  | .tuple _, .none, h | .tuple _, .bool _, h | .tuple _, .int _, h | .tuple _, .str _, h | .tuple _, .list _, h | .tuple _, .dict _, h => by unfold sameD at h; cases h
theorem sameAll_eq : ∀ {a b : List D}, sameAll a b = true → a = b
  | [], [], _ => rfl
  | a :: r, b :: t, h => by
    unfold sameAll at h
    rw [Bool.and_eq_true] at h
    rw [sameD_eq h.1, sameAll_eq h.2]
  | [], _ :: _, h => by unfold sameAll at h; cases h
  | _ :: _, [], h => by unfold sameAll at h; cases h
end
def dspB : List (Str × D) → List (Option Expr) → List Expr → Bool
  | [], [], [] => true
  | (x, d) :: r, some (.Constant (.str y) _ _) :: ks, e :: es => decide (x = y) && litE d e && dspB r ks es
  | _, _, _ => false
def ndB : List Str → Bool
  | [] => true
  | x :: r => !(r.any fun y => decide (y = x)) && ndB r
/-- stands ahead of a list of expressions, twice -/
def dm : Expr := .Constant .none 0 ⟨0, 0, 0, 0⟩
section
variable (fns : List FnI) (N : List Str)
def isLfn : IS → Bool
  | .lfn _ => true
  | _ => false
def fnB (f : Nat) (x : Str) : Bool := match fns[f]? with
  | some fi => decide (fi.name = x) && fi.con.isNone && !isLfn fi.body
  | none => false
def fnL (f : Nat) (x : Str) : Bool := match fns[f]? with
  | some fi => decide (fi.name = x) && fi.con.isNone && isLfn fi.body
  | none => false
def gcB (f : Nat) (x : Str) (d : D) : Bool := match fns[f]? with
  | some fi => decide (fi.name = x) && (match fi.con with
    | some e => sameD d e
    | none => false)
  | none => false
def chk : IE → Scope → List Expr → Bool
  | .nil, _, [_, _] => true
  | .cons a r, sc, d :: d' :: e :: es => plainE e && chk a sc [e] && isL r && chk r sc (d :: d' :: es)
  | .consP a r, sc, d :: d' :: e :: es => plainE e && chk a sc [e] && isLP r && chk r sc (d :: d' :: es)
  | .var j, sc, [.Name x _] => nmB N j x && visB sc x
  | .mov j, sc, [.Name x _] => nmB N j x && visB sc x
  | .cst c, _, [.Constant k _ _] => litB c k
  | .tup a, sc, [.Tuple es _ _] => isL a && chk a sc (dm :: dm :: es)
  | .lst a, sc, [.List es _] => isL a && chk a sc (dm :: dm :: es)
  | .bin o a b, sc, [.BinOp l o' r _] => decide (o = o') && chk a sc [l] && chk b sc [r]
  | .cmp o a b, sc, [.Compare l [o'] [r] _] => decide (o = o') && decide (o ≠ .In) && decide (o ≠ .NotIn) && chk a sc [l] && chk b sc [r]
  | .neg a, sc, [.UnaryOp .USub e _] => chk a sc [e]
  | .bnot a, sc, [.UnaryOp .Not e _] => chk a sc [e]
  | .band a r, sc, [.BoolOp .And (x :: y :: rest) p] => chk a sc [x] && chk r sc [.BoolOp .And (y :: rest) p]
  | .bor a r, sc, [.BoolOp .Or (x :: y :: rest) p] => chk a sc [x] && chk r sc [.BoolOp .Or (y :: rest) p]
  | .bone a, sc, [.BoolOp _ [x] _] => chk a sc [x]
  | .ite c a b, sc, [.IfExp t x y _] => chk c sc [t] && chk a sc [x] && chk b sc [y]
  | .ix a b, sc, [.Subscript x y _] => plainE y && chk a sc [x] && chk b sc [y]
  | .sl a lo hi, sc, [.Subscript x (.Slice l h none _) _] => chk a sc [x] && optB (isNil lo) l (fun e => chk lo sc [e]) && optB (isNil hi) h (fun e => chk hi sc [e])
  | .rev a, sc, [.Subscript x (.Slice none none (some (.UnaryOp .USub (.Constant (.int i) _ _) _)) _) _] => decide (i = 1) && chk a sc [x]
  | .call f a, sc, [.Call (.Name x _) es [] _] => fnB fns f x && glB sc x && !(x == ("__debug__" : Str)) && isL a && chk a sc (dm :: dm :: es)
  | .callP f a, sc, [.Call (.Name x _) es [] _] => fnB fns f x && glB sc x && !(x == ("__debug__" : Str)) && isLP a && chk a sc (dm :: dm :: es)
  | .bi b a, sc, [.Call (.Name x _) (e :: es) [] _] => decide (biName b = x) && glB sc x && isL a && chk a sc (dm :: dm :: e :: es)
  | .len a, sc, [.Call (.Name x _) [e] [] _] => decide (x = "len") && glB sc x && plainE e && chk a sc [e]
  | .isi t a, sc, [.Call (.Name x _) [e, .Name y _] [] _] => decide (x = "isinstance") && glB sc x && decide (tyName t = y) && glB sc y && plainE e && chk a sc [e]
  | .itv a, sc, [e, _] => plainE e && chk a sc [e]
  | .rng1 a, sc, [g, _] => (match g with
    | .Call (.Name x _) [e] [] _ => decide (x = "range") && glB sc x && plainE e && chk a sc [e]
    | _ => false)
  | .rng2 a b, sc, [g, _] => (match g with
    | .Call (.Name x _) [e, f] [] _ => decide (x = "range") && glB sc x && plainE e && plainE f && chk a sc [e] && chk b sc [f]
    | _ => false)
  | .rngd a b, sc, [g, _] => (match g with
    | .Call (.Name x _) [e, f, .UnaryOp .USub (.Constant (.int i) _ _) _] [] _ => decide (x = "range") && glB sc x && plainE e && plainE f && decide (i = 1) && chk a sc [e] && chk b sc [f]
    | _ => false)
  | .enm a, sc, [g, t] => (match g with
    | .Call (.Name x _) [e] [] _ => decide (x = "enumerate") && glB sc x && plainE e && isTup t && chk a sc [e]
    | _ => false)
  | .rvd a, sc, [g, _] => (match g with
    | .Call (.Name x _) [e] [] _ => decide (x = "reversed") && glB sc x && plainE e && chk a sc [e]
    | _ => false)
  | .lc t it c elt, sc, [.ListComp e [⟨tg, iter, ifs, as⟩] scope _] => decide (as = 0) && plainE iter && isIt it && chk it sc [iter, tg] && tgB (blB scope sc) N t tg && blkC N sc scope (tgOwn t tg) && ifsB (isNil c) ifs (fun f => chk c (relS scope sc) [f]) && chk elt (relS scope sc) [e]
  | .inn neg a b, sc, [.Compare l [o] [r] _] => decide (o = (if neg = true then .NotIn else .In)) && noSet r && chk a sc [l] && chk b sc [r]
  | .cmp2 o o' a b c, sc, [.Compare l [p, p'] [m, r] _] => decide (o = p) && decide (o' = p') && decide (o' ≠ .In) && decide (o' ≠ .NotIn) && chk a sc [l] && chk b sc [m] && chk c sc [r]
  | .cnt a b, sc, [.Call (.Attribute o m q) [e] [] p] => decide (m = "count") && (q.endLine == p.line) && plainE e && noAttr o && chk a sc [o] && chk b sc [e]
  | .idx a b, sc, [.Call (.Attribute o m q) [e] [] p] => decide (m = "index") && (q.endLine == p.line) && plainE e && noAttr o && chk a sc [o] && chk b sc [e]
  | .dsp kvs a, sc, [.Subscript (.Dict ks vs _) e _] => dspB kvs ks vs && ndB (kvs.map (·.1)) && decide (kvs.length ≤ 15) && !kvs.isEmpty && plainE e && chk a sc [e]
  | .gc f d, sc, [.Name x _] => gcB fns f x d && glB sc x && !(x == ("__debug__" : Str))
  | .zip a b, sc, [g, t] => (match g with
    | .Call (.Name x _) [e, f] [] _ => decide (x = "zip") && glB sc x && plainE e && plainE f && isTup t && chk a sc [e] && chk b sc [f]
    | _ => false)
  | .rvr a, sc, [g, _] => (match g with
    | .Call (.Name x _) [.Call (.Name y _) [e] [] _] [] _ => decide (x = "reversed") && glB sc x && decide (y = "range") && glB sc y && plainE e && chk a sc [e]
    | _ => false)
  | .lsc a, sc, [.Call (.Name x _) [e] [] _] => decide (x = "list") && glB sc x && plainE e && chk a sc [e]
  | .callL f j a, sc, [.Call (.Name x _) (.Name y _ :: es) [] _] => fnL fns f x && glB sc x && !(x == ("__debug__" : Str)) && nmB N j y && visB sc y && isL a && chk a sc (dm :: dm :: es)
  | .callLP f j a, sc, [.Call (.Name x _) (.Name y _ :: es) [] _] => fnL fns f x && glB sc x && !(x == ("__debug__" : Str)) && nmB N j y && visB sc y && isLP a && chk a sc (dm :: dm :: es)
  | .lemp j, sc, [.Compare (.Name y _) [.Eq] [.List [] _] _] => nmB N j y && visB sc y
  | .lix j n, sc, [.Subscript (.Name y _) (.Constant (.int i) _ _) _] => nmB N j y && visB sc y && decide (i = (n : Int))
  | .lpop0 j, sc, [.Call (.Attribute (.Name y _) m q) [.Constant (.int i) _ _] [] p] => decide (m = "pop") && nmB N j y && visB sc y && decide (i = 0) && (q.endLine == p.line)
  | .lcL t it elt j, sc, [.ListComp e [⟨tg, iter, [], as⟩] scope _] => decide (as = 0) && plainE iter && isIt it && chk it sc [iter, tg] && tgB (blB scope sc) N t tg && blkC N sc scope (tgOwn t tg) && !(tgs t).contains j && chk elt (relS scope sc) [e]
  | .lcK t it elt j, sc, [.ListComp e [⟨tg, iter, [], as⟩] scope _] => decide (as = 0) && plainE iter && isIt it && chk it sc [iter, tg] && tgB (blB scope sc) N t tg && blkC N sc scope (tgOwn t tg) && !(tgs t).contains j && chk elt (relS scope sc) [e]
  | .dget j k x, sc, [.Call (.Attribute (.Name y _) m q) [e, f] [] p] => decide (m = "get") && nmB N j y && visB sc y && (q.endLine == p.line) && plainE e && plainE f && chk k sc [e] && chk x sc [f]
  | .dix j k, sc, [.Subscript (.Name y _) e _] => nmB N j y && visB sc y && plainE e && chk k sc [e]
  | .dsrt j, sc, [.Call (.Name x _) [.Name y _] [] _] => decide (x = "sorted") && glB sc x && nmB N j y && visB sc y
  | .dlc t c elt j, sc, [.ListComp e [⟨tg, .Call (.Attribute (.Name y _) m q) [] [] p, ifs, as⟩] scope _] => decide (as = 0) && decide (m = "items") && (q.endLine == p.line) && nmB N j y && visB sc y && isTup tg &&
      tgB (blB scope sc) N t tg && blkC N sc scope (tgOwn t tg) && ifsB (isNil c) ifs (fun f => chk c (relS scope sc) [f]) && chk elt (relS scope sc) [e]
  | .lcD t it c elt j, sc, [.ListComp e [⟨tg, iter, ifs, as⟩] scope _] => decide (as = 0) && plainE iter && isIt it && chk it sc [iter, tg] && tgB (blB scope sc) N t tg && blkC N sc scope (tgOwn t tg) && !(tgs t).contains j &&
      ifsB (isNil c) ifs (fun f => chk c (relS scope sc) [f]) && chk elt (relS scope sc) [e]
  | .lit d, _, [e] => isTup e && litX d e
  | .srt a, sc, [.Call (.Name x _) [e] [] _] => decide (x = "sorted") && glB sc x && plainE e && chk a sc [e]
  | _, _, _ => false
end

/-! ### what a def's call promises -/
def VR (K : PySem.W.Frag) (H F' H' : Hp) (x : V) : Val → Prop
  | .d d => Dp K F' x d
  | .own xs => ∃ p vs, x = .ref p ∧ H' p = some (.lst vs) ∧ DpAll K F' vs xs ∧ F' p = none ∧ H p = none
  | _ => False
def spec (K : PySem.W.Frag) (C : Nat → Addr) (n : Nat) (φ : List D → (Nat → Prop) → (Val → Prop) → Prop) : Sp := fun vs H Q E =>
  ∃ F ds Xp Qp, Sub F H ∧ DpAll K F vs ds ∧ ds.length = n ∧ φ ds Xp Qp ∧ (∀ c H', Same H H' → Xp c → E (.ref (C c)) none H') ∧
    ∀ v H' F' x, Same H H' → Sub F F' → Sub F' H' → New F F' H → VR K H F' H' x v → Qp v → Q x H'
/-- what a call of a def that borrows a list promises -/
def specL (K : PySem.W.Frag) (C : Nat → Addr) (n : Nat) (φ : List D → (Nat → Prop) → (Val → Prop) → Prop) : Sp := fun vs H Q E =>
  ∃ F p ws xs us ds Xp Qp, vs = .ref p :: us ∧ Sub F H ∧ F p = none ∧ H p = some (.lst ws) ∧ DpAll K F ws xs ∧ DpAll K F us ds ∧ ds.length + 1 = n ∧ φ (.list xs :: ds) Xp Qp ∧ (∀ v, Qp v → noTwo v = false) ∧
    (∀ c H', (∀ a o, a ≠ p → H a = some o → H' a = some o) → (∃ o, H' p = some o) → Xp c → E (.ref (C c)) none H') ∧
    (∀ v H' F' x ws' ys, (∀ a o, a ≠ p → H a = some o → H' a = some o) → Sub F F' → Sub F' H' → New F F' H → H' p = some (.lst ws') → DpAll K F' ws' ys → F' p = none → Dp K F' x v → Qp (.two v ys) → Q x H') ∧
    ∀ zs H' F' r us' ws' ys, (∀ a o, a ≠ p → H a = some o → H' a = some o) → Sub F F' → Sub F' H' → New F F' H → H' p = some (.lst ws') → DpAll K F' ws' ys → F' p = none → H' r = some (.lst us') → DpAll K F' us' zs → F' r = none → H r = none → Qp (.twoO zs ys) → Q (.ref r) H'
def specOf (K : PySem.W.Frag) (C : Nat → Addr) (fi : FnI) (φ : List D → (Nat → Prop) → (Val → Prop) → Prop) : Sp := if isLfn fi.body = true then specL K C fi.np φ else spec K C fi.np φ
def bltNames : List Str := ["abs", "int", "list", "tuple", "max", "min", "all", "any", "sum", "str", "len", "isinstance", "range", "enumerate", "reversed", "zip", "bool", "ValueError", "sorted"]
/-- the program's own errors -/
def ClsAt (K : PySem.W.Frag) (mg : Str → Option Value) (x : Str) (a : Addr) : Prop :=
  mg x = some (.ref a) ∧ PySem.W.excIn K a [.type "ValueError", .type "Exception", .type "BaseException", .type "object"] "ValueError.__new__" = true ∧ PySem.W.keepIn K (.ref a) = true ∧
  PySem.W.subIn K (.ref a) (.type "BaseException") = some true ∧ PySem.W.typeIn K (.ref a) = some (.type "type")
/-- what isinstance and except clauses answer of them -/
structure ExF (K : PySem.W.Frag) (cls : List Str) (C : Nat → Addr) : Prop where
  cc : ∀ c', cls ≠ [] → ExcC K (C c')
  ve : ∀ c', cls ≠ [] → PySem.W.kitOne K (.ref (C c')) (.type "ValueError") = some true
  is : ∀ c' c x, cls[c]? = some x → PySem.W.kitOne K (.ref (C c')) (.ref (C c)) = some (isS c' c)
  ex : ∀ c' c x, cls[c]? = some x → PySem.W.exmOne K (.ref (C c')) (.ref (C c)) = some (isS c' c)
/-- a great number by a great number: there is room for it -/
def Pyl (X : Cx) : Prop := ∀ (pins : List (Addr × Obj)) (σ : St) (H : Hp) (s : Shared), Inv X pins σ H s → PySem.PylongRoom (model X.prog X.w) X.A s
structure Cok (fns : List FnI) (cls : List Str) (N : List Str) (C : Nat → Addr) (Φ : Fs) (k : Nat) (X : Cx) (sc : Scope) (W : WX) : Prop where
  room : Room (k + 32) X.A
  seer : X.base.NoSeer
  tree : X.prog.given.tree = none
  top : ∃ env l, X.stack = env :: l ∧ env.scope.isGenerator = false ∧ env.scope.isCoroutine = false ∧ env.builtins = builtinsNs ∧ env.globals = mainGlobals
  nd : X.N.Nodup
  eN : X.N = N
  esc : X.env.scope = sc
  calm : X.calm = true
  tk : Takes X W
  blt : ∀ x ∈ bltNames, X.mg x = none
  exc : ∀ c x, cls[c]? = some x → ClsAt X.K X.mg x (C c)
  xf : ExF X.K cls C
  ar : ∀ i fi ds Xp Q, fns[i]? = some fi → Φ i ds Xp Q → ds.length = fi.np
  gcon : ∀ (i : Nat) (fi : FnI) (d : D), fns[i]? = some fi → fi.con = some d → ∃ u v, X.mg fi.name = some u ∧ RelV v u ∧ ∀ F, Dp X.K F v d
  callee : ∀ (i : Nat) (fi : FnI), fns[i]? = some fi → fi.con = none → ∃ f fd, X.mg fi.name = some (.ref f) ∧ PySem.W.keepIn X.K (.ref f) = true ∧ Binds X.K fd fi.ps [] ∧
    FnOk X.prog X.w X.K X.mg X.base (L2.CX X.prog X.w) (k + 32) f fd fi.ps (specOf X.K C fi (Φ i))

theorem Cok.pyl {fns : List FnI} {cls N : List Str} {C : Nat → Addr} {Φ : Fs} {k : Nat} {X : Cx} {sc : Scope} {W : WX} (ok : Cok fns cls N C Φ k X sc W) : Pyl X := fun pins σ H s I => by
  obtain ⟨env, l, e1, e2, e3, e4, e5⟩ := ok.top
  have hd := ok.room.dp
  refine PySem.PylongRoom.of I.nolimit ?_ (PySem.SeerAt.of (ok.seer.keeps I.bk) ok.tree (I.ok.frames.trans (congrArg some e1)) e2 e3 e4 e5)
  show X.A.depth + 100 < _
  omega
/-! ### readings -/
structure Bd where
  C : Nat → Addr
  W : WX
  H0 : Zn
  F0 : Hp
section
variable (K : PySem.W.Frag) (b : Bd)
def Ex (Xp : XP) (σ : St) (H : Hp) : Prop := ∀ c ε' H' F', SubZ b.H0 H H' → Rep K b.H0 b.F0 F' H' σ ε' → Xp c ε' → b.W (.ref (b.C c)) none σ H'
def rdE (T : Ev → XP → KE → Prop) : TE := fun σ H Q => ∃ ε F Xp Qp, Rep K b.H0 b.F0 F H σ ε ∧ T ε Xp Qp ∧ Ex K b Xp σ H ∧
  ∀ v ε' H' F' x, SubZ b.H0 H H' → Sub F F' → Rep K b.H0 b.F0 F' H' σ ε' → VAt K b.H0 F' H' σ ε' x v → Qp v ε' → Q x H'
/-- its value stands still -/
def rdD (T : Ev → XP → KE → Prop) : TE := fun σ H Q => ∃ ε F Xp, ∃ Qp : D → Ev → Prop, Rep K b.H0 b.F0 F H σ ε ∧ T ε Xp (kD Qp) ∧ Ex K b Xp σ H ∧
  ∀ d ε' H' F' x, SubZ b.H0 H H' → Sub F F' → Rep K b.H0 b.F0 F' H' σ ε' → Dp K F' x d → Qp d ε' → Q x H'
/-- its value is looked at -/
def rdP (T : Ev → XP → (D → Ev → Prop) → Prop) : TE := fun σ H Q => ∃ ε F Xp, ∃ Qp : D → Ev → Prop, Rep K b.H0 b.F0 F H σ ε ∧ T ε Xp Qp ∧ Ex K b Xp σ H ∧
  ∀ d ε' H' F' x, SubZ b.H0 H H' → Sub F F' → Rep K b.H0 b.F0 F' H' σ ε' → PAt K b.H0 F' H' x d → Qp d ε' → Q x H'
def rdT (T : Ev → XP → KE → Prop) : TT := fun σ H Q => ∃ ε F Xp, ∃ Qp : Bool → Ev → Prop, Rep K b.H0 b.F0 F H σ ε ∧ T ε Xp (kB Qp) ∧ Ex K b Xp σ H ∧
  ∀ d ε' H' F', SubZ b.H0 H H' → Sub F F' → Rep K b.H0 b.F0 F' H' σ ε' → Qp d ε' → Q d H'
def rdA (T : Ev → XP → KE → Prop) : TA := fun σ H Q => ∃ ε F Xp, ∃ Qp : List D → Ev → Prop, Rep K b.H0 b.F0 F H σ ε ∧ T ε Xp (kM Qp) ∧ Ex K b Xp σ H ∧
  ∀ ds ε' H' F' xs, SubZ b.H0 H H' → Sub F F' → Rep K b.H0 b.F0 F' H' σ ε' → DpAll K F' xs ds → Qp ds ε' → Q xs H'
/-- lists of the frame's own, looked at, beside what stands still -/
def Lsts (Z : Zn) (F F1 H : Hp) : Prop := Sub F F1 ∧ Sub F1 H ∧ ∀ a o, F1 a = some o → F a = some o ∨ ((∃ ws, o = .lst ws) ∧ ¬ Z.l a)
def rdAP (T : Ev → XP → KE → Prop) : TA := fun σ H Q => ∃ ε F Xp, ∃ Qp : List D → Ev → Prop, Rep K b.H0 b.F0 F H σ ε ∧ T ε Xp (kM Qp) ∧ Ex K b Xp σ H ∧
  ∀ ds ε' H' F' F1 xs, SubZ b.H0 H H' → Sub F F' → Rep K b.H0 b.F0 F' H' σ ε' → Lsts b.H0 F' F1 H' → DpAll K F1 xs ds → Qp ds ε' → Q xs H'
/-- an iterator of these -/
structure ItOk (J : It) (F1 : Hp) (ds : List D) : Prop where
  go : ∀ i H, i < ds.length → Sub F1 H → J.go i H
  stop : ∀ H, Sub F1 H → J.stop ds.length H
  yld : ∀ i H x H' F, i < ds.length → Sub F1 F → Sub F H → J.yld i H x H' → Same H H' ∧ ∃ F' d, Sub F F' ∧ Sub F' H' ∧ New F F' H ∧ ds[i]? = some d ∧ Dp K F' x d
def rdI (T : Ev → XP → KE → Prop) : TI := fun σ H R => ∃ ε F Xp, ∃ Qp : List D → Ev → Prop, Rep K b.H0 b.F0 F H σ ε ∧ T ε Xp (kM Qp) ∧ Ex K b Xp σ H ∧
  ∀ ds ε' H' F' J, SubZ b.H0 H H' → Sub F F' → Rep K b.H0 b.F0 F' H' σ ε' → ItOk K J F' ds → Qp ds ε' → R J H'
end
theorem Ex.mono {K : PySem.W.Frag} {b : Bd} {Xp : XP} {σ : St} {H H' : Hp} (x : Ex K b Xp σ H) (s : SubZ b.H0 H H') : Ex K b Xp σ H' := fun c ε' H2 F' t R q => x c ε' H2 F' (s.trans t) R q
section
variable {X : Cx} {e : Expr} {b : Bd}
theorem peImp {t t' : TE} (h : PE X e t) (f : ∀ σ H Q, t' σ H Q → t σ H Q) : PE X e t' := ⟨fun pins s σ H Q I w => h.run pins s σ H Q I (f _ _ _ w)⟩
theorem ptImp {t t' : TT} (h : PT X e t) (f : ∀ σ H Q, t' σ H Q → t σ H Q) : PT X e t' := ⟨fun pins s σ H Q I w => h.run pins s σ H Q I (f _ _ _ w)⟩
theorem pwImp {t t' : TT} (h : PW X e t) (f : ∀ σ H Q, t' σ H Q → t σ H Q) : PW X e t' := ⟨fun wh pins s σ H Q I w => h.run wh pins s σ H Q I (f _ _ _ w)⟩
theorem paImp {es : List Expr} {t t' : TA} (h : PA X es t) (f : ∀ σ H Q, t' σ H Q → t σ H Q) : PA X es t' := ⟨fun pos pins s σ H Q I w => h.run pos pins s σ H Q I (f _ _ _ w)⟩
theorem piImp {tg : Expr} {t t' : TI} (h : PI X tg e t) (f : ∀ σ H Q, t' σ H Q → t σ H Q) : PI X tg e t' := ⟨fun pins s σ H Q I w => h.run pins s σ H Q I (f _ _ _ w)⟩
theorem pssImp {st : List Stmt} {t t' : TS} (h : PSs X st t) (f : ∀ D σ H, t' D σ H → t D σ H) : PSs X st t' := ⟨fun pins s σ H D I w => h.run pins s σ H D I (f _ _ _ w)⟩
theorem psImp {st : Stmt} {t t' : TS} (h : PS X st t) (f : ∀ D σ H, t' D σ H → t D σ H) : PS X st t' := ⟨fun pins s σ H D I w => h.run pins s σ H D I (f _ _ _ w)⟩
theorem peD {T : Ev → XP → KE → Prop} (h : PE X e (rdE X.K b T)) : PE X e (rdD X.K b T) := peImp h fun σ H Q ⟨ε, F, Xp, Qp, R, w, ex, k⟩ => by
  refine ⟨ε, F, Xp, kD Qp, R, w, ex, fun v ε' H' F' x s f R' a q => ?_⟩
  cases v with
  | d y => exact k y ε' H' F' x s f R' a q
  | own xs =>
    obtain ⟨F2, f2, R2, d2⟩ := R'.freeze a rfl
    exact k _ ε' H' F2 x s (f.trans f2) R2 d2 q
  | many _ => exact q.elim
  | exc _ => exact q.elim
  | lent _ => exact q.elim
  | two _ _ => exact q.elim
  | twoO _ _ => exact q.elim
  | dI _ => exact q.elim
  | dT _ => exact q.elim
theorem ptOf {T : Ev → XP → KE → Prop} (h : PE X e (rdE X.K b T)) (he : ∀ whole, isTrue e X.env whole = (do let v ← whole; standAt e.pos; holding [v] (truthy v))) : PT X e (rdT X.K b T) :=
  ptImp (pt_val h he) fun σ H Q ⟨ε, F, Xp, Qp, R, w, ex, k⟩ => by
    refine ⟨ε, F, Xp, kB Qp, R, w, ex, fun v ε' H' F' x s f R' a q => ?_⟩
    cases v with
    | d y =>
      cases y with
      | bool c => exact ⟨c, dpBl a, k c ε' H' F' s f R' q⟩
      | _ => exact q.elim
    | _ => exact q.elim
theorem starOf {e : Expr} {es : List Expr} {env : Env} (h : plainE e = true) : starEach (e :: es) env = (false, eval e env) :: starEach es env := by
  cases e <;> first | rfl | exact absurd h Bool.false_ne_true
theorem plainIx {e : Expr} (h : plainE e = true) : PlainIx e := by
  cases e <;> first | exact fun _ _ => rfl | exact absurd h Bool.false_ne_true
theorem noSw {e : Expr} {t : Option Expr} {l : Nat} {env : Env} (h : noComp e = true) : swapsWith e t l env = pure false := by
  cases e <;> first | rfl | exact absurd h Bool.false_ne_true
theorem noFold {e : Expr} {env : Env} {x : Value} (h : plainE e = true) : foldedSetIterable e env x = pure x := by
  cases e <;> first | rfl | exact absurd h Bool.false_ne_true
end
end Rc

/-! Operators by values. -/
namespace Rc
open PySem PySem.Spec PyProof.Rows L2
section
variable {X : Cx}
theorem line24 : sizeLine = 16777216 := sizeLine_eq
/-- list + list, of lists that may stand still -/
def rCatR (K : PySem.W.Frag) : R2 := fun x y H Q => ∃ l b xs zs, x = .ref l ∧ y = .ref b ∧ SqL K H l xs ∧ SqL K H b zs ∧ xs.length + zs.length ≤ sizeLine ∧
  ∀ p, H p = none → Q (.ref p) (upd H p (.lst (xs ++ zs)))
theorem op_catR : OpR X (binaryOp .Add) (rCatR X.K) := by
  intro pins s σ H x y v u Q I rx ry ⟨l, b, xs, zs, ex, ey, hl, hb, hz, q⟩
  subst ex ey
  cases rx; cases ry
  obtain ⟨is1, r1, ⟨⟨c1, d1, t1, z1⟩, n1, g1, hc1, hd1, ht1⟩, _⟩ := I.list hl
  obtain ⟨is2, r2, ⟨⟨c2, d2, t2, z2⟩, n2, g2, hc2, hd2, ht2⟩, _⟩ := I.list hb
  simp only at hc1 hd1 ht1 hc2 hd2 ht2
  subst hc1 hd1 ht1 hc2 hd2 ht2
  have l1 := r1.length
  have l2 := r2.length
  have sz : is1.toArray.size + is2.toArray.size ≤ sizeLine := by
    simp only [List.size_toArray]; omega
  refine concat_meets ⟨_, g1, rfl⟩ ⟨_, g2, rfl⟩ noFill_list_add seq_list_add PySem.F.slot_list_add PySem.F.entry_list_add
    (PySem.F.args_list_add_2 _ _) (list_addW l b is1.toArray is2.toArray n1 n2 none none z1 z2 sz) ⟨g1, g2, ?_⟩
  rw [List.append_toArray]
  have len : (xs ++ zs).length ≤ sizeLine := by simpa using hz
  exact ⟨.ref _, _, I.lnew (t' := s.toks) (r1.append r2) len, rfl, q _ I.fresh⟩
/-- list * int -/
def rRepR (K : PySem.W.Frag) : R2 := fun x y H Q => ∃ l k xs, x = .ref l ∧ y = .int k ∧ SqL K H l xs ∧ -(2 ^ 63) ≤ k ∧ k < 2 ^ 63 ∧ xs.length * k.toNat ≤ sizeLine ∧
  ∀ p, H p = none → Q (.ref p) (upd H p (.lst (List.replicate k.toNat xs).flatten))
theorem op_repR : OpR X (binaryOp .Mult) (rRepR X.K) := by
  intro pins s σ H x y v u Q I rx ry ⟨l, k, xs, ex, ey, hl, k1, k2, hz, q⟩
  subst ex ey
  cases rx
  obtain ⟨t, rfl⟩ := ry
  obtain ⟨is1, r1, ⟨⟨c1, d1, t1, z1⟩, n1, g1, hc1, hd1, ht1⟩, _⟩ := I.list hl
  simp only at hc1 hd1 ht1
  subst hc1 hd1 ht1
  have l1 := r1.length
  have len : is1.toArray.size * k.toNat ≤ sizeLine := by
    rw [List.size_toArray, ← l1]; exact hz
  have fold : List.foldl (fun a c => a ++ c) #[] (List.replicate (if is1.toArray.isEmpty = true then 0 else k.toNat) is1.toArray)
      = (List.replicate k.toNat is1).flatten.toArray := by
    have f : ∀ m : Nat, List.foldl (fun a c => a ++ c) #[] (List.replicate m is1.toArray) = (List.replicate m is1).flatten.toArray := fun m => by
      simpa using foldl_rep is1 m []
    rw [f]
    cases is1 with
    | nil => simp
    | cons a r => simp
  have t0 : s.TypeIs (.ref l) "list" := ⟨_, g1, rfl⟩
  refine wpAny_binaryOp_repeat_ref (T := "list") (U := "int") (by decide) t0 (fun s' => typeIs_int s' k t)
    noFill_list_mul F.fills_int_mul F.slot_int_rmul repeat_list F.slot_int_index.lookup ?_
  refine call_meets F.slot_int_rmul (typeIs_int s k t) F.entry_int_rmul (F.args_int_rmul_2 _ _)
    (lm_int_rmul_list_any k t l is1.toArray n1 none z1) ⟨g1, rfl, t0, ?_⟩
  have b1 : is1.toArray.size * k.toNat ≤ 16777216 := by rw [← line24]; exact len
  refine call_meets F.slot_list_mul t0 F.entry_list_mul (F.args_list_mul_2 _ _)
    (lm_list_mul_any l is1.toArray n1 none z1 k t ?_ ?_ ?_) ⟨g1, ?_⟩
  · simp [Builtin.List.listFitsIndex]; omega
  · omega
  · simp [Builtin.List.listTooLong, line24]; simpa using b1
  rw [fold]
  have len2 : (List.replicate k.toNat xs).flatten.length ≤ sizeLine := by
    rw [PyProof.Rows.lm_len_rep_flat, Nat.mul_comm]; exact hz
  exact ⟨.ref _, _, I.lnew (t' := s.toks) (r1.rep k.toNat) len2, rfl, q _ I.fresh⟩
theorem tupMulSame (l : Addr) (items : Array Value) (n : Nat) (dd : Option Addr) (sl : Array (Option Value)) (x : Int) (u : Tok) (c0 : (decide (x < -(2 ^ 63)) || decide (x ≥ 2 ^ 63)) = false) (c1 : (items.isEmpty || x == 1) = true) :
    Meets (Builtin.«tuple.__mul__» ⟨[.ref l, .int x u], []⟩) (fun _ R s => s.heap.get? l = some { cls := .type "tuple", dict := dd, data := .seq items n, slots := sl } ∧ R (.ok (.ret (Value.ref l))) s) :=
  .of_wp fun prog w A R s h => by
    obtain ⟨hp, g, d, tk, os⟩ := s
    obtain ⟨hl, h⟩ := h
    have f1 := AutoSeq1.idx_int
    wp_walk using wpAny_loadPart' hl
    repeat (first
      | (refine wpAny_ite_false (decide_eq_false (by rw [c0]; exact Bool.false_ne_true)) ?_; wp_walk using wpAny_loadPart' hl)
      | (refine wpAny_ite_true (decide_eq_true c1) ?_; wp_walk using wpAny_loadPart' hl))
    exact ⟨_, rfl, h⟩
theorem tupMulNone (l : Addr) (items : Array Value) (n : Nat) (dd : Option Addr) (sl : Array (Option Value)) (x : Int) (u : Tok) (c0 : (decide (x < -(2 ^ 63)) || decide (x ≥ 2 ^ 63)) = false) (c1 : (items.isEmpty || x == 1) = false) (c2 : (decide (x ≤ 0) || items.isEmpty) = true) :
    Meets (Builtin.«tuple.__mul__» ⟨[.ref l, .int x u], []⟩) (fun _ R s => s.heap.get? l = some { cls := .type "tuple", dict := dd, data := .seq items n, slots := sl } ∧
      R (.ok (.ret (Value.ref s.heap.objs.size))) { s with heap := s.heap.push { cls := Value.type "tuple", data := Data.seq #[] }, toks := s.toks }) :=
  .of_wp fun prog w A R s h => by
    obtain ⟨hp, g, d, tk, os⟩ := s
    obtain ⟨hl, h⟩ := h
    have f1 := AutoSeq1.idx_int
    wp_walk using wpAny_loadPart' hl
    repeat (first
      | (refine wpAny_ite_false (decide_eq_false (by rw [c0]; exact Bool.false_ne_true)) ?_; wp_walk using wpAny_loadPart' hl)
      | (refine wpAny_ite_false (decide_eq_false (by rw [c1]; exact Bool.false_ne_true)) ?_; wp_walk using wpAny_loadPart' hl)
      | (refine wpAny_ite_true (decide_eq_true c2) ?_; wp_walk using wpAny_loadPart' hl))
    exact ⟨_, rfl, h⟩
def rMulT (K : PySem.W.Frag) : R2 := fun x y H Q => ∃ l k xs, x = .ref l ∧ y = .int k ∧ SqT K H l xs ∧ -(2 ^ 63) ≤ k ∧ k ≤ 1000 ∧ xs.length ≤ 1000 ∧ ((xs = [] ∨ k = 1) → Q (.ref l) H) ∧
  (¬ (xs = [] ∨ k = 1) → ∀ p, H p = none → Q (.ref p) (upd H p (.tup (List.replicate k.toNat xs).flatten)))
theorem op_mulT : OpR X (binaryOp .Mult) (rMulT X.K) := by
  intro pins s σ H x y v u Q I rx ry h
  obtain ⟨l, k, xs, rfl, rfl, hT, k1, k2, hz, q1, q2⟩ := h
  by_cases hs : xs = [] ∨ k = 1
  · cases rx
    obtain ⟨t, rfl⟩ := ry
    obtain ⟨its, r, ⟨⟨cls, dd, data, sl⟩, ho, hc, n, hd⟩, hsz⟩ := I.tuple hT
    simp only at hc hd
    subst hc hd
    have hle : its.length = xs.length := r.length.symm
    have c0 : (decide (k < -(2 ^ 63)) || decide (k ≥ 2 ^ 63)) = false := by
      rw [decide_eq_false (by omega), decide_eq_false (by omega)] <;> rfl
    have c1 : (its.toArray.isEmpty || k == 1) = true := by
      rcases hs with e | e
      · subst e
        have : its = [] := List.eq_nil_of_length_eq_zero hle
        subst this
        rfl
      · subst e
        simp
    refine wpAny_binaryOp_repeat_ref (T := "tuple") (U := "int") (by decide) ⟨_, ho, rfl⟩ (fun s' => typeIs_int s' k t) noFill_tuple_mul F.fills_int_mul F.slot_int_rmul repeat_tuple F.slot_int_index.lookup
      (call_meets F.slot_int_rmul (typeIs_int s k t) F.entry_int_rmul (F.args_int_rmul_2 _ _) (int_rmul_tuple k t l its.toArray n dd sl)
        ⟨ho, rfl, ⟨_, ho, rfl⟩, call_meets F.slot_tuple_mul ⟨_, ho, rfl⟩ F.entry_tuple_mul (F.args_tuple_mul_2 _ _) (tupMulSame l its.toArray n dd sl k t c0 c1) ⟨ho, ?_⟩⟩)
    exact ⟨.ref l, H, I, rfl, q1 hs⟩
  · have hne : xs ≠ [] := fun e => hs (.inl e)
    have hk1 : k ≠ 1 := fun e => hs (.inr e)
    by_cases hk : 2 ≤ k
    · exact op_repT pins s σ H _ _ v u Q I rx ry ⟨l, k, xs, rfl, rfl, hT, hne, hk, k2, hz, q2 hs⟩
    · cases rx
      obtain ⟨t, rfl⟩ := ry
      obtain ⟨its, r, ⟨⟨cls, dd, data, sl⟩, ho, hc, n, hd⟩, hsz⟩ := I.tuple hT
      simp only at hc hd
      subst hc hd
      have hle : its.length = xs.length := r.length.symm
      have hi : its.toArray.isEmpty = false := by
        cases its with
        | nil => exact absurd (List.eq_nil_of_length_eq_zero hle.symm) hne
        | cons a b => rfl
      have c0 : (decide (k < -(2 ^ 63)) || decide (k ≥ 2 ^ 63)) = false := by
        rw [decide_eq_false (by omega), decide_eq_false (by omega)] <;> rfl
      have c1 : (its.toArray.isEmpty || k == 1) = false := by
        rw [hi, Bool.false_or]
        exact beq_eq_false_iff_ne.mpr hk1
      have c2 : (decide (k ≤ 0) || its.toArray.isEmpty) = true := by
        rw [decide_eq_true (by omega)]
        rfl
      have e0 : (List.replicate k.toNat xs).flatten = [] := by
        rw [show k.toNat = 0 by omega]
        rfl
      rw [e0] at q2
      refine wpAny_binaryOp_repeat_ref (T := "tuple") (U := "int") (by decide) ⟨_, ho, rfl⟩ (fun s' => typeIs_int s' k t) noFill_tuple_mul F.fills_int_mul F.slot_int_rmul repeat_tuple F.slot_int_index.lookup
        (call_meets F.slot_int_rmul (typeIs_int s k t) F.entry_int_rmul (F.args_int_rmul_2 _ _) (int_rmul_tuple k t l its.toArray n dd sl)
          ⟨ho, rfl, ⟨_, ho, rfl⟩, call_meets F.slot_tuple_mul ⟨_, ho, rfl⟩ F.entry_tuple_mul (F.args_tuple_mul_2 _ _) (tupMulNone l its.toArray n dd sl k t c0 c1 c2) ⟨ho, ?_⟩⟩)
      refine ⟨.ref s.heap.objs.size, _, I.laid (t' := s.toks) (o := .tup []) (fun b ob q => Heap.get?_push_of_some _ q) (Nat.le_refl _) ?_, rfl, q2 hs _ (I.hok.fresh (Nat.le_refl _))⟩
      exact ⟨Nat.zero_le _, _, .nil, IsTup.new _ _⟩
theorem mulOk_ok {i j : Int} (h : mulOk i j) : IntMulOk i j := by
  rcases h with h | h | h
  · exact .of_left (intBits_le_64 h.1 h.2)
  · exact .of_right (intBits_le_64 h.1 h.2)
  · have bd : ∀ x : Int, Builtin.Int.intBits x ≤ x.natAbs.log2 + 1 := fun x => by
      unfold Builtin.Int.intBits
      split <;> omega
    have h1 := bd i
    have h2 := bd j
    unfold IntMulOk
    intro z
    rw [Bool.and_eq_true] at z
    have z2 := of_decide_eq_true (show decide _ = true from z.2)
    rw [bitsLine_eq] at z2
    omega
/-- what comes of two values -/
def rBin (K : PySem.W.Frag) (o : Operator) : R2 := fun x y H Q => ∃ F d e Qv, Sub F H ∧ Dp K F x d ∧ Dp K F y e ∧ opW o d e Qv ∧
  ∀ v z H' F', Same H H' → Sub F F' → Sub F' H' → New F F' H → VR K H F' H' z v → Qv v → Q z H'
theorem opBin (hq : Pyl X) (o : Operator) : OpR X (binaryOp o) (rBin X.K o) := by
  intro pins s σ H x y v u Q I rx ry ⟨F, d, e, Qv, sb, hx, hy, w, k⟩
  have kInt : ∀ n : Int, Qv (.d (.int n)) → Q (.int n) H := fun n q => k (.d (.int n)) _ H F (.refl H) (.refl F) sb .refl (Dp.int n) q
  cases o with
  | Add =>
    cases d with
    | int i =>
      cases e with
      | int j =>
        cases dpInt hx; cases dpInt hy
        exact op_add pins s σ H _ _ v u Q I rx ry ⟨i, j, rfl, rfl, kInt _ w⟩
      | _ => exact w.elim
    | str i =>
      cases e with
      | str j =>
        cases dpStr hx; cases dpStr hy
        exact op_add_str pins s σ H _ _ v u Q I rx ry ⟨i, j, rfl, rfl, by rw [line24]; exact w.1, k (.d (.str (i ++ j))) _ H F (.refl H) (.refl F) sb .refl (Dp.str _) w.2⟩
      | _ => exact w.elim
    | list a =>
      cases e with
      | list c =>
        obtain ⟨l, xs, rfl, r1, a1⟩ := dpLst hx
        obtain ⟨m, ys, rfl, r2, a2⟩ := dpLst hy
        refine op_catR pins s σ H _ _ v u Q I rx ry ⟨l, m, xs, ys, rfl, rfl, sqlSub sb r1, sqlSub sb r2, by rw [line24, daLen a1, daLen a2]; exact w.1, fun p hp => ?_⟩
        exact k (.own (a ++ c)) _ _ F (same_upd hp) (.refl F) (sb.upd (sb.none hp)) .refl ⟨p, _, rfl, upd_same, daApp a1 a2, sb.none hp, hp⟩ w.2
      | _ => exact w.elim
    | tuple a =>
      cases e with
      | tuple c =>
        obtain ⟨l, xs, rfl, r1, a1⟩ := dpTup hx
        obtain ⟨m, ys, rfl, r2, a2⟩ := dpTup hy
        refine op_catA pins s σ H _ _ v u Q I rx ry ⟨l, m, xs, ys, rfl, rfl, (sqtSub sb r1), (sqtSub sb r2), by rw [line24, daLen a1, daLen a2]; exact w.1, fun h0 => ?_, fun _ h0 => ?_, fun _ _ p hp => ?_⟩
        · subst h0
          cases a1
          exact k (.d (.tuple c)) _ H F (.refl H) (.refl F) sb .refl hy w.2
        · subst h0
          cases a2
          have w2 := w.2
          rw [List.append_nil] at w2
          exact k (.d (.tuple a)) _ H F (.refl H) (.refl F) sb .refl hx w2
        · exact k (.d (.tuple (a ++ c))) _ _ (upd F p _) (same_upd hp) (sub_updF (sb.none hp)) sb.upd2 (.add hp) (Dp.tup (.inl (.inl upd_same)) (daSub (sub_updF (sb.none hp)) (daApp a1 a2))) w.2
      | _ => exact w.elim
    | _ => exact w.elim
  | Sub =>
    cases d with
    | int i =>
      cases e with
      | int j =>
        cases dpInt hx; cases dpInt hy
        exact op_sub pins s σ H _ _ v u Q I rx ry ⟨i, j, rfl, rfl, kInt _ w⟩
      | _ => exact w.elim
    | _ => exact w.elim
  | Mult =>
    cases d with
    | int i =>
      cases e with
      | int j =>
        cases dpInt hx; cases dpInt hy
        obtain ⟨t, rfl⟩ := rx
        obtain ⟨t', rfl⟩ := ry
        exact mul_int ⟨.int _, H, I.tok _, ⟨_, rfl⟩, kInt _ w.2⟩ (mulOk_ok w.1)
      | _ => exact w.elim
    | list a =>
      cases e with
      | int j =>
        obtain ⟨l, xs, rfl, r1, a1⟩ := dpLst hx
        cases dpInt hy
        refine op_repR pins s σ H _ _ v u Q I rx ry ⟨l, j, xs, rfl, rfl, sqlSub sb r1, w.1, w.2.1, by rw [line24, daLen a1]; exact w.2.2.1, fun p hp => ?_⟩
        exact k (.own _) _ _ F (same_upd hp) (.refl F) (sb.upd (sb.none hp)) .refl ⟨p, _, rfl, upd_same, daRep a1 _, sb.none hp, hp⟩ w.2.2.2
      | _ => exact w.elim
    | tuple a =>
      cases e with
      | int j =>
        obtain ⟨l, xs, rfl, r1, a1⟩ := dpTup hx
        cases dpInt hy
        refine op_mulT pins s σ H _ _ v u Q I rx ry ⟨l, j, xs, rfl, rfl, (sqtSub sb r1), w.1, w.2.1, by rw [daLen a1]; exact w.2.2.1, fun h0 => ?_, fun h0 p hp => ?_⟩
        · have e0 : (List.replicate j.toNat a).flatten = a := by
            rcases h0 with h0 | h0
            · subst h0
              cases a1
              simp
            · subst h0
              simp
          have w2 := w.2.2.2
          rw [e0] at w2
          exact k (.d (.tuple a)) _ H F (.refl H) (.refl F) sb .refl hx w2
        · exact k (.d (.tuple (List.replicate j.toNat a).flatten)) _ _ (upd F p _) (same_upd hp) (sub_updF (sb.none hp)) sb.upd2 (.add hp) (Dp.tup (.inl (.inl upd_same)) (daSub (sub_updF (sb.none hp)) (daRep a1 _))) w.2.2.2
      | _ => exact w.elim
    | _ => exact w.elim
  | FloorDiv =>
    cases d with
    | int i =>
      cases e with
      | int j =>
        cases dpInt hx; cases dpInt hy
        obtain ⟨t, rfl⟩ := rx
        obtain ⟨t', rfl⟩ := ry
        exact floordiv_int w.1 ⟨.int _, H, I.tok _, ⟨_, rfl⟩, kInt _ w.2⟩ (.inr (hq _ _ _ _ I))
      | _ => exact w.elim
    | _ => exact w.elim
  | Mod =>
    cases d with
    | int i =>
      cases e with
      | int j =>
        cases dpInt hx; cases dpInt hy
        exact op_modN pins s σ H _ _ v u Q I rx ry ⟨i, j, rfl, rfl, w.1, kInt _ w.2⟩
      | _ => exact w.elim
    | _ => exact w.elim
  | Pow =>
    cases d with
    | int i =>
      cases e with
      | int j =>
        cases dpInt hx; cases dpInt hy
        have q := w.2.2.1
        exact op_pow pins s σ H _ _ v u Q I rx ry ⟨i, j, rfl, rfl, ⟨w.1, w.2.1, by unfold small64 at q; omega⟩, kInt _ w.2.2.2⟩
      | _ => exact w.elim
    | _ => exact w.elim
  | LShift =>
    cases d with
    | int i =>
      cases e with
      | int j =>
        cases dpInt hx; cases dpInt hy
        have q := w.2.2.1
        exact op_shl pins s σ H _ _ v u Q I rx ry ⟨i, j, rfl, rfl, ⟨w.1, w.2.1, by unfold small64 at q; omega⟩, kInt _ w.2.2.2⟩
      | _ => exact w.elim
    | _ => exact w.elim
  | RShift =>
    cases d with
    | int i =>
      cases e with
      | int j =>
        cases dpInt hx; cases dpInt hy
        exact op_shr pins s σ H _ _ v u Q I rx ry ⟨i, j, rfl, rfl, w.1, kInt _ w.2⟩
      | _ => exact w.elim
    | _ => exact w.elim
  | BitAnd =>
    cases d with
    | int i =>
      cases e with
      | int j =>
        cases dpInt hx; cases dpInt hy
        exact op_and pins s σ H _ _ v u Q I rx ry ⟨i, j, rfl, rfl, kInt _ w⟩
      | _ => exact w.elim
    | _ => exact w.elim
  | _ => exact w.elim
/-- two values set beside each other -/
def rCmp (K : PySem.W.Frag) (o : CmpOp) : R2 := fun x y H Q => ∃ d e Qv, Dp K H x d ∧ Dp K H y e ∧ cmpW o d e Qv ∧ ∀ c, Qv c → Q (.bl c) H
theorem lex_ge : ∀ (k i : Nat) (ns ms : List Int), k = min ns.length ms.length - i → i ≤ min ns.length ms.length →
    Ob.lexAt (fun j => decide (ns.getD j 0 = ms.getD j 0)) (fun j => decide (ms.getD j 0 ≤ ns.getD j 0)) (decide (ns.length ≥ ms.length)) i k = geI (ns.drop i) (ms.drop i)
  | 0, i, ns, ms, hk, hi => by
    rw [Ob.lexAt_zero]
    rcases Nat.lt_or_ge ns.length ms.length with h | h
    · have e : ns.drop i = [] := List.drop_eq_nil_of_le (by omega)
      rw [e, decide_eq_false (by omega), List.drop_eq_getElem_cons (show i < ms.length by omega)]
      rfl
    · have e : ms.drop i = [] := List.drop_eq_nil_of_le (by omega)
      rw [e, decide_eq_true h]
      cases ns.drop i <;> rfl
  | k + 1, i, ns, ms, hk, hi => by
    have h1 : i < ns.length := by omega
    have h2 : i < ms.length := by omega
    rw [Ob.lexAt_succ, List.drop_eq_getElem_cons h1, List.drop_eq_getElem_cons h2, lex_ge k (i + 1) ns ms (by omega) (by omega)]
    have e1 : ns.getD i 0 = ns[i] := by simp [h1]
    have e2 : ms.getD i 0 = ms[i] := by simp [h2]
    rw [e1, e2]
    show _ = if ns[i] = ms[i] then _ else _
    by_cases e : ns[i] = ms[i]
    · rw [decide_eq_true e, if_pos rfl, if_pos e]
    · rw [decide_eq_false e, if_neg Bool.false_ne_true, if_neg e]
theorem op_geT {X : Cx} (hu : X.A.units < cLine) : OpR X (compareOp .GtE) (fun x y H Q => ∃ (a b : Addr) (ns ms : List Int), x = .ref a ∧ y = .ref b ∧ SqT X.K H a (ns.map V.int) ∧ SqT X.K H b (ms.map V.int) ∧ Q (.bl (geI ns ms)) H) := by
  intro pins s σ H x y v u Q I rx ry h
  obtain ⟨a, b, ns, ms, rfl, rfl, ha, hb, q⟩ := h
  cases rx
  cases ry
  obtain ⟨its, r1, p1, _⟩ := I.tuple ha
  obtain ⟨its2, r2, p2, _⟩ := I.tuple hb
  have i1 : IntsAre its ns := Vals.ints r1
  have i2 : IntsAre its2 ms := Vals.ints r2
  have e1 : its.toArray.size = ns.length := by rw [List.size_toArray]; exact i1.length
  have e2 : its2.toArray.size = ms.length := by rw [List.size_toArray]; exact i2.length
  have at1 : ∀ j (h1 : j < its.toArray.size), ∃ t, its.toArray[j] = .int (ns.getD j 0) t := fun j h1 => PyProof.Rows.IntsAre.int_at i1 _ _ (by simp at h1; simp [h1])
  have at2 : ∀ j (h1 : j < its2.toArray.size), ∃ t, its2.toArray[j] = .int (ms.getD j 0) t := fun j h1 => PyProof.Rows.IntsAre.int_at i2 _ _ (by simp at h1; simp [h1])
  have R := Ob.RcOp.tuples_ge (A := X.A) (s := s) (e := fun j => decide (ns.getD j 0 = ms.getD j 0)) (r := fun j => decide (ms.getD j 0 ≤ ns.getD j 0)) p1 p2 hu (fun j h1 h2 => by
    obtain ⟨t, et⟩ := at1 j h1
    obtain ⟨t', et'⟩ := at2 j h2
    rw [et, et']
    have z : (ns.getD j 0 == ms.getD j 0) = decide (ns.getD j 0 = ms.getD j 0) := by
      by_cases q : ns.getD j 0 = ms.getD j 0
      · rw [decide_eq_true q]; exact beq_iff_eq.mpr q
      · rw [decide_eq_false q]; exact beq_eq_false_iff_ne.mpr q
    rw [← z]
    exact SeqAt.EqAt.int_int _ _ _ _) (fun j h1 h2 _ => by
    obtain ⟨t, et⟩ := at1 j h1
    obtain ⟨t', et'⟩ := at2 j h2
    rw [et, et']
    exact Ob.RcOp.ge_int _ _ _ _)
  rw [e1, e2, lex_ge _ 0 ns ms (by omega) (by omega), List.drop_zero, List.drop_zero] at R
  have z : wpAny (model X.prog X.w) X.A (compareOp .GtE (.ref a) (.ref b)) (EP X pins σ Q) X.xe s := R X.prog X.w X.xe (EP X pins σ Q) ⟨.bl _, H, I, rfl, q⟩
  exact z
theorem opCmp (hu : X.A.units + 64 < cLine) (o : CmpOp) : OpR X (compareOp o) (rCmp X.K o) := by
  intro pins s σ H x y v u Q I rx ry ⟨d, e, Qv, hx, hy, w, k⟩
  cases o with
  | Eq =>
    have gen : SeqAt.shaped d = true ∧ SeqAt.shaped e = true ∧ Qv (PyData.eqv d e) → wpAny (model X.prog X.w) X.A (compareOp .Eq v u) (EP X pins σ Q) X.xe s := fun w =>
      op_eqD hu pins s σ H x y v u Q I rx ry ⟨d, e, dpOut hx, dpOut hy, w.1, w.2.1, k _ w.2.2⟩
    cases d with
    | int i =>
      cases e with
      | int j =>
        cases dpInt hx; cases dpInt hy
        exact op_eq pins s σ H _ _ v u Q I rx ry ⟨rfl, by rw [show decide (V.int i = V.int j) = decide (i = j) by simp]; exact k _ w⟩
      | _ => exact gen w
    | _ => exact gen w
  | NotEq =>
    have gen : SeqAt.shaped d = true ∧ SeqAt.shaped e = true ∧ Qv (!PyData.eqv d e) → wpAny (model X.prog X.w) X.A (compareOp .NotEq v u) (EP X pins σ Q) X.xe s := fun w =>
      op_neD hu pins s σ H x y v u Q I rx ry ⟨d, e, dpOut hx, dpOut hy, w.1, w.2.1, k _ w.2.2⟩
    cases d with
    | int i =>
      cases e with
      | int j =>
        cases dpInt hx; cases dpInt hy
        exact op_ne pins s σ H _ _ v u Q I rx ry ⟨rfl, by rw [show decide (V.int i = V.int j) = decide (i = j) by simp]; exact k _ w⟩
      | _ => exact gen w
    | _ => exact gen w
  | Lt =>
    cases d with
    | int i =>
      cases e with
      | int j =>
        cases dpInt hx; cases dpInt hy
        exact op_lt pins s σ H _ _ v u Q I rx ry ⟨i, j, rfl, rfl, k _ w⟩
      | _ => exact w.elim
    | _ => exact w.elim
  | LtE =>
    cases d with
    | int i =>
      cases e with
      | int j =>
        cases dpInt hx; cases dpInt hy
        exact op_le pins s σ H _ _ v u Q I rx ry ⟨i, j, rfl, rfl, k _ w⟩
      | _ => exact w.elim
    | _ => exact w.elim
  | Gt =>
    cases d with
    | int i =>
      cases e with
      | int j =>
        cases dpInt hx; cases dpInt hy
        exact op_gt pins s σ H _ _ v u Q I rx ry ⟨i, j, rfl, rfl, k _ w⟩
      | _ => exact w.elim
    | _ => exact w.elim
  | GtE =>
    cases d with
    | int i =>
      cases e with
      | int j =>
        cases dpInt hx; cases dpInt hy
        exact op_ge pins s σ H _ _ v u Q I rx ry ⟨i, j, rfl, rfl, k _ w⟩
      | _ => exact w.elim
    | tuple xs =>
      cases e with
      | tuple ys =>
        obtain ⟨ns, ms, e1, e2, w⟩ := w
        obtain ⟨a, vs, rfl, q1, da⟩ := dpTup hx
        obtain ⟨c, ws, rfl, q2, db⟩ := dpTup hy
        rw [asInts_of da e1] at q1
        rw [asInts_of db e2] at q2
        exact op_geT (by omega) pins s σ H _ _ v u Q I rx ry ⟨a, c, ns, ms, rfl, rfl, q1, q2, k _ w⟩
      | _ => exact w.elim
    | _ => exact w.elim
  | Is =>
    cases e with
    | none =>
      cases dpNon hy
      exact op_isN pins s σ H x _ v u Q I rx ry ⟨rfl, by rw [dpIsNon hx]; cases d <;> exact k _ w⟩
    | bool c =>
      cases d with
      | bool a =>
        cases dpBl hx; cases dpBl hy
        exact op_isBl pins s σ H _ _ v u Q I rx ry ⟨a, c, rfl, rfl, k _ w⟩
      | _ => exact w.elim
    | _ => cases d <;> exact w.elim
  | IsNot =>
    cases e with
    | none =>
      cases dpNon hy
      exact op_notN pins s σ H x _ v u Q I rx ry ⟨rfl, by rw [dpIsNon hx]; cases d <;> exact k _ w⟩
    | bool c =>
      cases d with
      | bool a =>
        cases dpBl hx; cases dpBl hy
        exact op_notBl pins s σ H _ _ v u Q I rx ry ⟨a, c, rfl, rfl, k _ w⟩
      | _ => exact w.elim
    | _ => cases d <;> exact w.elim
  | _ => exact w.elim
end
end Rc

/-! What the terms mean holds of the text: expressions. -/
namespace Rc
open PySem PySem.Spec PyProof.Rows L2
/-- plain in a test -/
def Pln (X : Cx) (e : Expr) : Prop := ∀ whole, isTrue e X.env whole = (do let v ← whole; standAt e.pos; holding [v] (truthy v))
section
variable (fns : List FnI) (cls : List Str) (N : List Str) (C : Nat → Addr) (Φ : Fs) (k : Nat)
structure Sn (i : IE) : Prop where
  e : ∀ (b : Bd) (X : Cx) (sc : Scope), b.C = C → Cok fns cls N C Φ k X sc b.W → ∀ e, chk fns N i sc [e] = true → PE X e (rdE X.K b (wE Φ i))
  t : ∀ (b : Bd) (X : Cx) (sc : Scope), b.C = C → Cok fns cls N C Φ k X sc b.W → ∀ e, chk fns N i sc [e] = true → PT X e (rdT X.K b (wE Φ i))
  w : ∀ (b : Bd) (X : Cx) (sc : Scope), b.C = C → Cok fns cls N C Φ k X sc b.W → ∀ op es pos, chk fns N i sc [.BoolOp op es pos] = true → PW X (.BoolOp op es pos) (rdT X.K b (wE Φ i))
  a : ∀ (b : Bd) (X : Cx) (sc : Scope), b.C = C → Cok fns cls N C Φ k X sc b.W → isL i = true → ∀ es, chk fns N i sc (dm :: dm :: es) = true → PA X es (rdA X.K b (wE Φ i))
  ap : ∀ (b : Bd) (X : Cx) (sc : Scope), b.C = C → Cok fns cls N C Φ k X sc b.W → isLP i = true → ∀ es, chk fns N i sc (dm :: dm :: es) = true → PA X es (rdAP X.K b (wE Φ i))
  i : ∀ (b : Bd) (X : Cx) (sc : Scope), b.C = C → Cok fns cls N C Φ k X sc b.W → isIt i = true → ∀ e tg, chk fns N i sc [e, tg] = true → PI X tg e (rdI X.K b (wE Φ i))
end
section
variable {fns : List FnI} {cls : List Str} {N : List Str} {C : Nat → Addr} {Φ : Fs} {k : Nat} {X : Cx} {b : Bd} {sc : Scope}
theorem nmB_of {j : Nat} {x : Str} (h : nmB N j x = true) : N[j]? = some x ∧ (x == ("__debug__" : Str)) = false ∧ (x == ("__classdict__" : Str)) = false := by
  unfold nmB at h
  simp only [Bool.and_eq_true, decide_eq_true_eq, Bool.not_eq_true'] at h
  exact ⟨h.1.1, h.1.2, h.2⟩
theorem visB_of {x : Str} (h : visB sc x = true) : Vis sc x := by
  unfold visB at h
  split at h
  · exact .inl (by assumption)
  · exact .inr (.inl (by assumption))
  · exact .inr (.inr (by assumption))
  · cases h
theorem locB_of {x : Str} (h : locB sc x = true) : Loc sc x := by
  unfold locB at h
  split at h
  · exact .inl (by assumption)
  · exact .inr (by assumption)
  · cases h
theorem lclB_of {x : Str} (h : lclB sc x = true) : sc.names.lookup x = some .local := by
  unfold lclB at h
  split at h
  · assumption
  · cases h
theorem glB_of {x : Str} (ok : Cok fns cls N C Φ k X sc b.W) (h : glB sc x = true) : Gl X x := by
  unfold glB at h
  split at h
  · rename_i q
    show X.env.scope.names.lookup x = _
    rw [ok.esc]; exact q
  · cases h
theorem peVar (ok : Cok fns cls N C Φ k X sc b.W) {j : Nat} {x : Str} {p : Pos} (h : (nmB N j x && visB sc x) = true) : PE X (.Name x p) (tVar j) := by
  rw [Bool.and_eq_true] at h
  obtain ⟨h1, h2, h3⟩ := nmB_of h.1
  exact pe_var (by rw [ok.eN]; exact h1) (by rw [ok.esc]; exact visB_of h.2) h2 h3
/-- a look at an operand -/
theorem pkE (ok : Cok fns cls N C Φ k X sc b.W) (hC : b.C = C) {i : IE} (s : Sn fns cls N C Φ k i) {e : Expr} (h : chk fns N i sc [e] = true) :
    PE X e (rdP X.K b (fun ε Xp q => pkW i ε (fun T => wE Φ i ε Xp T) q)) := by
  have gen : isVar i = none → PE X e (rdP X.K b (fun ε Xp q => pkW i ε (fun T => wE Φ i ε Xp T) q)) := fun hn => by
    refine peImp (peD (s.e b X sc hC ok e h)) fun σ H Q ⟨ε, F, Xp, Qp, R, w, ex, kk⟩ => ⟨ε, F, Xp, Qp, R, ?_, ex, fun d ε' H' F' x s f R' a q => kk d ε' H' F' x s f R' (.inl a) q⟩
    unfold pkW at w
    rw [hn] at w
    exact w
  cases i with
  | var j =>
    cases e with
    | Name x p =>
      refine peImp (peVar ok h) fun σ H Q ⟨ε, F, Xp, Qp, R, w, ex, kk⟩ => ?_
      have w' : peek ε j Qp := w
      unfold peek at w'
      split at w'
      · rename_i y hy
        obtain ⟨v, e1, d1⟩ := R.dat j y hy
        exact ⟨v, e1, kk y ε H F v (.refl H) (.refl F) R (.inl d1) w'⟩
      · rename_i ys hy
        obtain ⟨p, vs, e1, h1, h2, h3, h4⟩ := R.own j ys hy
        exact ⟨.ref p, e1, kk _ ε H F _ (.refl H) (.refl F) R (.inr ⟨p, vs, ys, rfl, rfl, h1, h2, h4.2⟩) w'⟩
      · exact w'.elim
    | _ => exact absurd h Bool.false_ne_true
  | _ => exact gen rfl
theorem vrVat {K : PySem.W.Frag} {H0 : Zn} {F0 F H F' H' : Hp} {σ : St} {ε : Ev} {x : V} {v : Val} (R : Rep K H0 F0 F H σ ε) (h : VR K H F' H' x v) : VAt K H0 F' H' σ ε x v := by
  cases v with
  | d y => exact h
  | own ys =>
    obtain ⟨p, vs, e, h1, h2, h3, h4⟩ := h
    exact ⟨p, vs, e, h1, h2, h3, R.no h4, R.offNew h4⟩
  | many _ => exact h.elim
  | exc _ => exact h.elim
  | lent _ => exact h.elim
  | two _ _ => exact h.elim
  | twoO _ _ => exact h.elim
  | dI _ => exact h.elim
  | dT _ => exact h.elim

/-! ### one by one -/
theorem eVar (ok : Cok fns cls N C Φ k X sc b.W) {j : Nat} {x : Str} {p : Pos} (h : (nmB N j x && visB sc x) = true) : PE X (.Name x p) (rdE X.K b (wE Φ (.var j))) :=
  peImp (peVar ok h) fun σ H Q ⟨ε, F, Xp, Qp, R, w, ex, kk⟩ => by
    unfold wE at w
    split at w
    · rename_i y hy
      obtain ⟨v, e1, d1⟩ := R.dat j y hy
      exact ⟨v, e1, kk (.d y) ε H F v (.refl H) (.refl F) R d1 w⟩
    · rename_i ys hy
      obtain ⟨v, F', e1, f1, R1, d1⟩ := R.still hy
      exact ⟨v, e1, kk (.d (.list ys)) _ H F' v (.refl H) f1 R1 d1 w⟩
    · exact w.elim
theorem eMov (ok : Cok fns cls N C Φ k X sc b.W) {j : Nat} {x : Str} {p : Pos} (h : (nmB N j x && visB sc x) = true) : PE X (.Name x p) (rdE X.K b (wE Φ (.mov j))) :=
  peImp (peVar ok h) fun σ H Q ⟨ε, F, Xp, Qp, R, w, ex, kk⟩ => by
    unfold wE at w
    split at w
    · rename_i y hy
      obtain ⟨v, e1, d1⟩ := R.dat j y hy
      exact ⟨v, e1, kk (.d y) ε H F v (.refl H) (.refl F) R d1 w⟩
    · rename_i ys hy
      obtain ⟨v, e1, R1, d1⟩ := R.move hy
      exact ⟨v, e1, kk (.own ys) _ H F v (.refl H) (.refl F) R1 d1 w⟩
    · exact w.elim
theorem eCst {c : D} {q : Const} {n : Nat} {p : Pos} (h : litB c q = true) : PE X (.Constant q n p) (rdE X.K b (wE Φ (.cst c))) := by
  have fin : ∀ (v : V), (∀ F, Dp X.K F v c) → ∀ σ H Q, rdE X.K b (wE Φ (.cst c)) σ H Q → tC v σ H Q := fun v hv σ H Q ⟨ε, F, Xp, Qp, R, w, ex, kk⟩ =>
    kk (.d c) ε H F v (.refl H) (.refl F) R (hv F) w
  cases c with
  | none =>
    cases q with
    | none => exact peImp pe_non (fin _ fun _ => .non)
    | _ => exact absurd h Bool.false_ne_true
  | bool x =>
    cases q with
    | bool y => cases (beq_iff_eq.mp h); exact peImp pe_bl (fin _ fun _ => .bl _)
    | _ => exact absurd h Bool.false_ne_true
  | int x =>
    cases q with
    | int y => cases (beq_iff_eq.mp h); exact peImp pe_int (fin _ fun _ => .int _)
    | _ => exact absurd h Bool.false_ne_true
  | str x =>
    cases q with
    | str y => cases (of_decide_eq_true h); exact peImp pe_str (fin _ fun _ => .str _)
    | _ => exact absurd h Bool.false_ne_true
  | _ => exact absurd h Bool.false_ne_true
theorem eTup {a : IE} {es : List Expr} {n : Nat} {p : Pos} (h : PA X es (rdA X.K b (wE Φ a))) : PE X (.Tuple es n p) (rdE X.K b (wE Φ (.tup a))) :=
  peImp (pe_tup h) fun σ H Q ⟨ε, F, Xp, Qp, R, w, ex, kk⟩ =>
    ⟨ε, F, Xp, _, R, w, ex, fun ds ε' H' F' xs s f R' d q => ⟨by rw [line24, daLen d]; exact q.1, fun p hp =>
      kk (.d (.tuple ds)) ε' _ (upd F' p (.tup xs)) _ (s.trans (.of (same_upd hp))) (f.trans (sub_updF (R'.fh.none hp))) (R'.tup _ hp) (Dp.tup (.inl (.inl upd_same)) (daSub (sub_updF (R'.fh.none hp)) d)) q.2⟩⟩
theorem eLst {a : IE} {es : List Expr} {p : Pos} (h : PA X es (rdA X.K b (wE Φ a))) : PE X (.List es p) (rdE X.K b (wE Φ (.lst a))) :=
  peImp (pe_lst h) fun σ H Q ⟨ε, F, Xp, Qp, R, w, ex, kk⟩ =>
    ⟨ε, F, Xp, _, R, w, ex, fun ds ε' H' F' xs s f R' d q => ⟨by rw [line24, daLen d]; exact q.1, fun p hp =>
      kk (.own ds) ε' _ F' _ (s.trans (.of (same_upd hp))) f (R'.lst _ hp) (.newL R' hp d) q.2⟩⟩
theorem eBin (ok : Cok fns cls N C Φ k X sc b.W) {o : Operator} {i j : IE} {l r : Expr} {p : Pos} (h1 : PE X l (rdE X.K b (wE Φ i))) (h2 : PE X r (rdE X.K b (wE Φ j))) : PE X (.BinOp l o r p) (rdE X.K b (wE Φ (.bin o i j))) :=
  peImp (pe_op (opBin ok.pyl o) (peD h1) (peD h2)) fun σ H Q ⟨ε, F, Xp, Qp, R, w, ex, kk⟩ =>
    ⟨ε, F, Xp, _, R, w, ex, fun d ε1 H1 F1 x s1 f1 R1 d1 q1 => ⟨ε1, F1, Xp, _, R1, q1, ex.mono s1, fun e ε2 H2 F2 y s2 f2 R2 d2 q2 =>
      ⟨F2, d, e, _, R2.fh, dpSub f2 d1, d2, q2, fun v z H3 F3 s3 f3 g3 n3 vr q3 => kk v ε2 H3 F3 z ((s1.trans s2).trans (.of s3)) ((f1.trans f2).trans f3) (R2.grow s3 f3 g3 n3) (vrVat R2 vr) q3⟩⟩⟩
theorem eCmp (ok : Cok fns cls N C Φ k X sc b.W) {o : CmpOp} (ho : o ≠ .In) (ho2 : o ≠ .NotIn) {i j : IE} {l r : Expr} {p : Pos} (h1 : PE X l (rdP X.K b (fun ε Xp q => pkW i ε (fun T => wE Φ i ε Xp T) q))) (h2 : PE X r (rdP X.K b (fun ε Xp q => pkW j ε (fun T => wE Φ j ε Xp T) q))) :
    PE X (.Compare l [o] [r] p) (rdE X.K b (wE Φ (.cmp o i j))) ∧ PT X (.Compare l [o] [r] p) (rdT X.K b (wE Φ (.cmp o i j))) := by
  refine ⟨peImp (pe_cmpR (opCmp ok.room.units o) h1 h2 (nomark _ ho ho2)) fun σ H Q ⟨ε, F, Xp, Qp, R, w, ex, kk⟩ => ?_,
    ptImp (pt_cmpR (opCmp ok.room.units o) h1 h2 (nomark _ ho ho2)) fun σ H Q ⟨ε, F, Xp, Qp, R, w, ex, kk⟩ => ?_⟩
  · exact ⟨ε, F, Xp, _, R, w, ex, fun d ε1 H1 F1 x s1 f1 R1 d1 q1 => ⟨ε1, F1, Xp, _, R1, q1, ex.mono s1, fun e ε2 H2 F2 y s2 f2 R2 d2 q2 =>
      ⟨d, e, _, (PAt.mono f2 s2 d1).dp R2.fh, d2.dp R2.fh, q2, fun c q => kk (.d (.bool c)) ε2 H2 F2 _ (s1.trans s2) (f1.trans f2) R2 (Dp.bl c) q⟩⟩⟩
  · exact ⟨ε, F, Xp, _, R, w, ex, fun d ε1 H1 F1 x s1 f1 R1 d1 q1 => ⟨ε1, F1, Xp, _, R1, q1, ex.mono s1, fun e ε2 H2 F2 y s2 f2 R2 d2 q2 =>
      ⟨d, e, _, (PAt.mono f2 s2 d1).dp R2.fh, d2.dp R2.fh, q2, fun c q => ⟨c, rfl, kk c ε2 H2 F2 (s1.trans s2) (f1.trans f2) R2 q⟩⟩⟩⟩
theorem eNeg {i : IE} {e : Expr} {p : Pos} (h : PE X e (rdE X.K b (wE Φ i))) : PE X (.UnaryOp .USub e p) (rdE X.K b (wE Φ (.neg i))) :=
  peImp (pe_un un_neg (peD h)) fun σ H Q ⟨ε, F, Xp, Qp, R, w, ex, kk⟩ =>
    ⟨ε, F, Xp, _, R, w, ex, fun d ε1 H1 F1 x s1 f1 R1 d1 q1 => by
      cases d with
      | int n => exact ⟨n, dpInt d1, kk (.d (.int (-n))) ε1 H1 F1 _ s1 f1 R1 (Dp.int _) q1⟩
      | _ => exact q1.elim⟩
theorem eNot {i : IE} {e : Expr} {p : Pos} (h : PE X e (rdE X.K b (wE Φ i))) (ht : PT X e (rdT X.K b (wE Φ i))) :
    PE X (.UnaryOp .Not e p) (rdE X.K b (wE Φ (.bnot i))) ∧ PT X (.UnaryOp .Not e p) (rdT X.K b (wE Φ (.bnot i))) := by
  refine ⟨peImp (pe_not (peD h)) fun σ H Q ⟨ε, F, Xp, Qp, R, w, ex, kk⟩ => ?_, ptImp (pt_not ht) fun σ H Q ⟨ε, F, Xp, Qp, R, w, ex, kk⟩ => ?_⟩
  · refine ⟨ε, F, Xp, (fun d ε1 => match d with
      | .bool c => Qp (.d (.bool (!c))) ε1
      | _ => False), R, ?_, ex, fun d ε1 H1 F1 x s1 f1 R1 d1 q1 => ?_⟩
    · have e1 : (kB fun b ε1 => Qp (.d (.bool (!b))) ε1) = (kD fun d ε1 => match d with
        | .bool c => Qp (.d (.bool (!c))) ε1
        | _ => False) := by
        funext v ε1
        cases v with
        | d y => cases y <;> rfl
        | _ => rfl
      rw [← e1]; exact w
    · cases d with
      | bool c => exact ⟨c, dpBl d1, kk (.d (.bool (!c))) ε1 H1 F1 _ s1 f1 R1 (Dp.bl _) q1⟩
      | _ => exact q1.elim
  · exact ⟨ε, F, Xp, _, R, w, ex, fun d ε1 H1 F1 s1 f1 R1 q1 => kk (!d) ε1 H1 F1 s1 f1 R1 q1⟩
/-- a truth as a value -/
theorem kB_kD (f : Bool → Ev → Prop) : kB f = kD fun d ε1 => match d with
    | .bool c => f c ε1
    | _ => False := by
  funext v ε1
  cases v with
  | d y => cases y <;> rfl
  | _ => rfl
theorem peB {T : Ev → XP → KE → Prop} {e : Expr} (h : PE X e (rdE X.K b T)) : PE X e (fun σ H Q => rdT X.K b T σ H fun c H1 => Q (.bl c) H1) :=
  peImp (peD h) fun σ H Q ⟨ε, F, Xp, Qp, R, w, ex, kk⟩ => by
    rw [kB_kD] at w
    refine ⟨ε, F, Xp, _, R, w, ex, fun d ε1 H1 F1 x s1 f1 R1 d1 q1 => ?_⟩
    cases d with
    | bool c => rw [dpBl d1]; exact kk c ε1 H1 F1 s1 f1 R1 q1
    | _ => exact q1.elim
theorem eAnd {i j : IE} {x y : Expr} {rest : List Expr} {p : Pos} (h1 : PE X x (rdE X.K b (wE Φ i))) (t1 : PT X x (rdT X.K b (wE Φ i)))
    (h2 : PE X (.BoolOp .And (y :: rest) p) (rdE X.K b (wE Φ j))) (w2 : PW X (.BoolOp .And (y :: rest) p) (rdT X.K b (wE Φ j))) :
    PE X (.BoolOp .And (x :: y :: rest) p) (rdE X.K b (wE Φ (.band i j))) ∧ PW X (.BoolOp .And (x :: y :: rest) p) (rdT X.K b (wE Φ (.band i j))) := by
  refine ⟨peImp (pe_and (peB h1) h2) fun σ H Q ⟨ε, F, Xp, Qp, R, w, ex, kk⟩ => ?_, pwImp (pw_and t1 w2) fun σ H Q ⟨ε, F, Xp, Qp, R, w, ex, kk⟩ => ?_⟩
  · refine ⟨ε, F, Xp, _, R, w, ex, fun d ε1 H1 F1 s1 f1 R1 q1 => ⟨d, rfl, ?_⟩⟩
    cases d with
    | true => exact ⟨ε1, F1, Xp, Qp, R1, q1, ex.mono s1, fun v ε2 H2 F2 z s2 f2 R2 a q => kk v ε2 H2 F2 z (s1.trans s2) (f1.trans f2) R2 a q⟩
    | false => exact kk (.d (.bool false)) ε1 H1 F1 _ s1 f1 R1 (Dp.bl _) q1
  · refine ⟨ε, F, Xp, _, R, w, ex, fun d ε1 H1 F1 s1 f1 R1 q1 => ?_⟩
    cases d with
    | true => exact ⟨ε1, F1, Xp, Qp, R1, q1, ex.mono s1, fun v ε2 H2 F2 s2 f2 R2 q => kk v ε2 H2 F2 (s1.trans s2) (f1.trans f2) R2 q⟩
    | false => exact kk false ε1 H1 F1 s1 f1 R1 q1
theorem eOr {i j : IE} {x y : Expr} {rest : List Expr} {p : Pos} (h1 : PE X x (rdE X.K b (wE Φ i))) (t1 : PT X x (rdT X.K b (wE Φ i)))
    (h2 : PE X (.BoolOp .Or (y :: rest) p) (rdE X.K b (wE Φ j))) (w2 : PW X (.BoolOp .Or (y :: rest) p) (rdT X.K b (wE Φ j))) :
    PE X (.BoolOp .Or (x :: y :: rest) p) (rdE X.K b (wE Φ (.bor i j))) ∧ PW X (.BoolOp .Or (x :: y :: rest) p) (rdT X.K b (wE Φ (.bor i j))) := by
  refine ⟨peImp (pe_or (peB h1) h2) fun σ H Q ⟨ε, F, Xp, Qp, R, w, ex, kk⟩ => ?_, pwImp (pw_or t1 w2) fun σ H Q ⟨ε, F, Xp, Qp, R, w, ex, kk⟩ => ?_⟩
  · refine ⟨ε, F, Xp, _, R, w, ex, fun d ε1 H1 F1 s1 f1 R1 q1 => ⟨d, rfl, ?_⟩⟩
    cases d with
    | false => exact ⟨ε1, F1, Xp, Qp, R1, q1, ex.mono s1, fun v ε2 H2 F2 z s2 f2 R2 a q => kk v ε2 H2 F2 z (s1.trans s2) (f1.trans f2) R2 a q⟩
    | true => exact kk (.d (.bool true)) ε1 H1 F1 _ s1 f1 R1 (Dp.bl _) q1
  · refine ⟨ε, F, Xp, _, R, w, ex, fun d ε1 H1 F1 s1 f1 R1 q1 => ?_⟩
    cases d with
    | false => exact ⟨ε1, F1, Xp, Qp, R1, q1, ex.mono s1, fun v ε2 H2 F2 s2 f2 R2 q => kk v ε2 H2 F2 (s1.trans s2) (f1.trans f2) R2 q⟩
    | true => exact kk true ε1 H1 F1 s1 f1 R1 q1
theorem eOne {i : IE} {op : BoolOp} {x : Expr} {p : Pos} (h1 : PE X x (rdE X.K b (wE Φ i))) (t1 : PT X x (rdT X.K b (wE Φ i))) :
    PE X (.BoolOp op [x] p) (rdE X.K b (wE Φ (.bone i))) ∧ PW X (.BoolOp op [x] p) (rdT X.K b (wE Φ (.bone i))) := by
  refine ⟨peImp (pe_one (peD h1)) fun σ H Q ⟨ε, F, Xp, Qp, R, w, ex, kk⟩ => ⟨ε, F, Xp, _, R, w, ex, fun d ε1 H1 F1 z s1 f1 R1 d1 q1 => kk (.d d) ε1 H1 F1 z s1 f1 R1 d1 q1⟩, ?_⟩
  have tt : ∀ σ H Q, rdT X.K b (wE Φ (.bone i)) σ H Q → rdT X.K b (wE Φ i) σ H Q := fun σ H Q ⟨ε, F, Xp, Qp, R, w, ex, kk⟩ => by
    refine ⟨ε, F, Xp, Qp, R, ?_, ex, kk⟩
    have e1 : (kD fun x ε1 => kB Qp (.d x) ε1) = kB Qp := by
      funext v ε1
      cases v <;> rfl
    have w' : wE Φ i ε Xp (kD fun x ε1 => kB Qp (.d x) ε1) := w
    rw [e1] at w'
    exact w'
  cases op with
  | And => exact pwImp (pw_and1 t1) tt
  | Or => exact pwImp (pw_or1 t1) tt
theorem eIte {c i j : IE} {t x y : Expr} {p : Pos} (h0 : PT X t (rdT X.K b (wE Φ c))) (h1 : PE X x (rdE X.K b (wE Φ i))) (h2 : PE X y (rdE X.K b (wE Φ j))) :
    PE X (.IfExp t x y p) (rdE X.K b (wE Φ (.ite c i j))) :=
  peImp (pe_ifExp h0 h1 h2) fun σ H Q ⟨ε, F, Xp, Qp, R, w, ex, kk⟩ => by
    refine ⟨ε, F, Xp, _, R, w, ex, fun d ε1 H1 F1 s1 f1 R1 q1 => ?_⟩
    cases d with
    | false => exact ⟨ε1, F1, Xp, Qp, R1, q1, ex.mono s1, fun v ε2 H2 F2 z s2 f2 R2 a q => kk v ε2 H2 F2 z (s1.trans s2) (f1.trans f2) R2 a q⟩
    | true => exact ⟨ε1, F1, Xp, Qp, R1, q1, ex.mono s1, fun v ε2 H2 F2 z s2 f2 R2 a q => kk v ε2 H2 F2 z (s1.trans s2) (f1.trans f2) R2 a q⟩
theorem atI_da {K : PySem.W.Frag} {F : Hp} {vs : List V} {ds : List D} {i : Int} {d : D} (h : DpAll K F vs ds) (e : atI ds i = some d) : ∃ v, atI vs i = some v ∧ Dp K F v d := by
  unfold atI at e ⊢
  rw [daLen h]
  cases q : ixN ds.length i with
  | none => rw [q] at e; cases e
  | some j =>
    rw [q] at e
    exact daGet' h e
theorem eIx {i j : IE} {x y : Expr} {p : Pos} (hy : plainE y = true) (h1 : PE X x (rdP X.K b (fun ε Xp q => pkW i ε (fun T => wE Φ i ε Xp T) q))) (h2 : PE X y (rdE X.K b (wE Φ j))) :
    PE X (.Subscript x y p) (rdE X.K b (wE Φ (.ix i j))) :=
  peImp (pe_ix (ix_list.or ix_tup) h1 (peD h2) (plainIx hy)) fun σ H Q ⟨ε, F, Xp, Qp, R, w, ex, kk⟩ => by
    refine ⟨ε, F, Xp, _, R, w, ex, fun d ε1 H1 F1 x s1 f1 R1 d1 q1 => ⟨ε1, F1, Xp, _, R1, q1, ex.mono s1, fun e ε2 H2 F2 y s2 f2 R2 d2 q2 => ?_⟩⟩
    have d3 := PAt.mono f2 s2 d1
    have fin : ∀ {z : V} {v : D}, Dp X.K F2 z v → Qp (.d v) ε2 → Q z H2 := fun {z v} a q => kk (.d v) ε2 H2 F2 z (s1.trans s2) (f1.trans f2) R2 a q
    cases d with
    | list xs =>
      cases e with
      | int n =>
        obtain ⟨v, e1, q3⟩ := q2
        rcases d3 with d3 | ⟨r, vs, ys, rfl, e2, h3, h4⟩
        · obtain ⟨a, vs, rfl, r1, a1⟩ := dpLst d3
          obtain ⟨z, g1, g2⟩ := atI_da a1 e1
          exact .inl ⟨a, vs, n, z, rfl, dpInt d2, sqlSub R2.fh r1, g1, fin g2 q3⟩
        · cases e2
          obtain ⟨z, g1, g2⟩ := atI_da h4.1 e1
          exact .inl ⟨r, vs, n, z, rfl, dpInt d2, .inl (.inl h3), g1, fin g2 q3⟩
      | _ => exact q2.elim
    | tuple xs =>
      cases e with
      | int n =>
        obtain ⟨v, e1, q3⟩ := q2
        rcases d3 with d3 | ⟨r, vs, ys, rfl, e2, h3, h4⟩
        · obtain ⟨a, vs, rfl, r1, a1⟩ := dpTup d3
          obtain ⟨z, g1, g2⟩ := atI_da a1 e1
          exact .inr ⟨a, vs, n, z, rfl, dpInt d2, (sqtSub R2.fh r1), g1, fin g2 q3⟩
        · cases e2
      | _ => exact q2.elim
    | _ => exact q2.elim
def rdO (K : PySem.W.Frag) (b : Bd) (T : Ev → XP → (Option Int → Ev → Prop) → Prop) : TO := fun σ H Q => ∃ ε F Xp Qp, Rep K b.H0 b.F0 F H σ ε ∧ T ε Xp Qp ∧ Ex K b Xp σ H ∧
  ∀ d ε' H' F', SubZ b.H0 H H' → Sub F F' → Rep K b.H0 b.F0 F' H' σ ε' → Qp d ε' → Q d H'
theorem poOf {i : IE} {l : Option Expr} (h0 : l = none → isNil i = true) (h1 : ∀ e, l = some e → isNil i = false ∧ PE X e (rdE X.K b (wE Φ i))) :
    PO X l (rdO X.K b (fun ε Xp q => ptW i ε (fun T => wE Φ i ε Xp T) q)) := by
  cases l with
  | none =>
    have e0 := h0 rfl
    refine ⟨fun pins s σ H Q I hw => po_none.run pins s σ H Q I ?_⟩
    obtain ⟨ε, F, Xp, Qp, R, w, ex, kk⟩ := hw
    unfold ptW at w
    rw [if_pos e0] at w
    exact kk none ε H F (.refl H) (.refl F) R w
  | some e =>
    obtain ⟨e0, he⟩ := h1 e rfl
    refine ⟨fun pins s σ H Q I hw => (po_some (peD he)).run pins s σ H Q I ?_⟩
    obtain ⟨ε, F, Xp, Qp, R, w, ex, kk⟩ := hw
    unfold ptW at w
    rw [if_neg (by rw [e0]; exact Bool.false_ne_true)] at w
    refine ⟨ε, F, Xp, _, R, w, ex, fun d ε1 H1 F1 x s1 f1 R1 d1 q1 => ?_⟩
    cases d with
    | int n => exact ⟨n, dpInt d1, kk (some n) ε1 H1 F1 s1 f1 R1 q1⟩
    | _ => exact q1.elim
theorem cut_all {α : Type} {xs : List α} {lo hi : Option Int} (h : HT.sIx xs.length 0 lo = 0 ∧ HT.sIx xs.length xs.length hi = xs.length) : cut xs lo hi = xs := by
  unfold cut
  rw [h.1, h.2]
  simp
theorem eSl {i j l : IE} {x : Expr} {lo hi : Option Expr} {p p2 : Pos} (h1 : PE X x (rdP X.K b (fun ε Xp q => pkW i ε (fun T => wE Φ i ε Xp T) q)))
    (h2 : PO X lo (rdO X.K b (fun ε Xp q => ptW j ε (fun T => wE Φ j ε Xp T) q))) (h3 : PO X hi (rdO X.K b (fun ε Xp q => ptW l ε (fun T => wE Φ l ε Xp T) q))) :
    PE X (.Subscript x (.Slice lo hi none p2) p) (rdE X.K b (wE Φ (.sl i j l))) :=
  peImp (pe_slice (sl_list.or sl_tupA) h1 h2 h3) fun σ H Q ⟨ε, F, Xp, Qp, R, w, ex, kk⟩ => by
    refine ⟨ε, F, Xp, _, R, w, ex, fun d ε1 H1 F1 x s1 f1 R1 d1 q1 => ⟨ε1, F1, Xp, _, R1, q1, ex.mono s1, fun e ε2 H2 F2 s2 f2 R2 q2 => ⟨ε2, F2, Xp, _, R2, q2, (ex.mono s1).mono s2, fun g ε3 H3 F3 s3 f3 R3 q3 => ?_⟩⟩⟩
    have sA := (s1.trans s2).trans s3
    have fA := (f1.trans f2).trans f3
    have d3 := PAt.mono f3 s3 (PAt.mono f2 s2 d1)
    cases d with
    | list xs =>
      have go : ∀ {a : Addr} {vs : List V}, SqL X.K H3 a vs → DpAll X.K F3 vs xs → rSlL X.K (.ref a) e g H3 Q := fun {a vs} r1 a1 =>
        ⟨a, vs, rfl, r1, fun p hp => kk (.own (cut xs e g)) ε3 _ F3 _ (sA.trans (.of (same_upd hp))) fA (R3.lst _ hp) (.newL R3 hp (by rw [cutV_eq]; exact daCut a1 e g)) q3⟩
      rcases d3 with d3 | ⟨r, vs, ys, rfl, e2, h3, h4⟩
      · obtain ⟨a, vs, rfl, r1, a1⟩ := dpLst d3
        exact .inl (go (sqlSub R3.fh r1) a1)
      · cases e2
        exact .inl (go (.inl (.inl h3)) h4.1)
    | tuple xs =>
      rcases d3 with d3 | ⟨r, vs, ys, rfl, e2, h3, h4⟩
      · obtain ⟨a, vs, rfl, r1, a1⟩ := dpTup d3
        refine .inr ⟨a, vs, rfl, (sqtSub R3.fh r1), fun hw => ?_, fun hw p hp => ?_⟩
        · rw [daLen a1] at hw
          have q4 : Qp (.d (.tuple (cut xs e g))) ε3 := q3
          rw [cut_all hw] at q4
          exact kk (.d (.tuple xs)) ε3 H3 F3 _ sA fA R3 d3 q4
        · exact kk (.d (.tuple (cut xs e g))) ε3 _ (upd F3 p _) _ (sA.trans (.of (same_upd hp))) (fA.trans (sub_updF (R3.fh.none hp))) (R3.tup _ hp) (Dp.tup (.inl (.inl upd_same)) (daSub (sub_updF (R3.fh.none hp)) (by rw [cutV_eq]; exact daCut a1 e g))) q3
      · cases e2
    | _ => exact q3.elim
end
end Rc

/-! What the terms mean holds of the text: calls. -/
namespace Rc
open PySem PySem.Spec PyProof.Rows L2
section
variable {prog : Program} {w : World} {A : Around} {E : Value → Shared → Prop} {s : Shared}
theorem revPlaces (n : Nat) : Builtin.Slice.slicePlaces ((n : Int) - 1) (-1) (-1) = n := by
  unfold Builtin.Slice.slicePlaces
  have h1 : ¬ ((-1 : Int) > 0) := by omega
  simp only [h1, if_false, Int.neg_neg, Int.ediv_one]
  split <;> omega
theorem revAdjust (n : Nat) : Builtin.Slice.sliceAdjust none none (-1) (n : Int) = ((n : Int) - 1, -1) := by
  unfold Builtin.Slice.sliceAdjust
  simp
theorem sliceRev {sl : Addr} {vl vu vs : Value} {n : Nat} {Q : Int × Int × Nat → Shared → Prop} (hs : s.heap.IsSliceOf sl vl vu vs) (pl : IsPart vl none) (pu : IsPart vu none) (ps : IsPart vs (some (-1)))
    (h : Q ((n : Int) - 1, -1, n) s) : wpAny (model prog w) A (Builtin.Slice.sliceApplied (.ref sl) (pure (n : Int))) Q E s := by
  obtain ⟨os, hos, hcs, hds⟩ := id hs
  unfold Builtin.Slice.sliceApplied Builtin.Slice.sliceFields
  refine wpAny_bind (wpAny_bind (wpAny_field hos hds (x := vl) rfl (wpAny_bind (wpAny_field hos hds (x := vu) rfl (wpAny_bind (wpAny_field hos hds (x := vs) rfl (wpAny_pure ?_)))))))
  refine wpAny_bind (HT.slicePart_ ps ?_)
  show wpAny _ _ (if ((-1 : Int) == 0) = true then _ else _) _ _ s
  rw [if_neg (show ¬ (((-1 : Int) == 0) = true) by decide)]
  refine wpAny_bind (HT.slicePart_ pl (wpAny_bind (HT.slicePart_ pu (wpAny_bind (wpAny_pure ?_)))))
  show wpAny _ _ (match Builtin.Slice.sliceAdjust none none (-1) (n : Int) with | (a, b) => pure (a, (-1 : Int), Builtin.Slice.slicePlaces a b (-1))) _ _ s
  rw [revAdjust]
  show wpAny _ _ (pure ((n : Int) - 1, (-1 : Int), Builtin.Slice.slicePlaces ((n : Int) - 1) (-1) (-1))) _ _ s
  rw [revPlaces]
  exact wpAny_pure h
theorem revRange (n : Nat) : (List.range n).reverse = (List.range n).map (n - 1 - ·) := by
  apply List.ext_getElem
  · simp
  · intro i h1 h2
    simp
theorem fmCongr {α β : Type} {f g : α → Option β} : ∀ l : List α, (∀ m ∈ l, f m = g m) → l.filterMap f = l.filterMap g
  | [], _ => rfl
  | x :: r, h => by
    rw [List.filterMap_cons, List.filterMap_cons, h x (List.mem_cons_self ..), fmCongr r fun m hm => h m (List.mem_cons_of_mem _ hm)]
theorem revPick (xs : Array Value) : ((List.range xs.size).filterMap fun (m : Nat) => xs[((xs.size : Int) - 1 + (m : Int) * (-1)).toNat]?).toArray = xs.toList.reverse.toArray := by
  congr 1
  have e1 : (List.range xs.size).filterMap (fun (m : Nat) => xs[((xs.size : Int) - 1 + (m : Int) * (-1)).toNat]?) = (List.range xs.size).filterMap ((xs[·]?) ∘ (xs.size - 1 - ·)) := by
    refine fmCongr _ fun m hm => ?_
    have := List.mem_range.mp hm
    show xs[_]? = xs[xs.size - 1 - m]?
    rw [show ((xs.size : Int) - 1 + (m : Int) * (-1)).toNat = xs.size - 1 - m by omega]
  rw [e1, ← List.filterMap_map, ← revRange, List.filterMap_reverse]
  rw [PySem.W.krv_all]
theorem getItem_tupRev {t sl : Addr} {items : Array Value} {vl vu vs : Value} {Q : Value → Shared → Prop} (ht : IsTup s.heap t items) (hs : s.heap.IsSliceOf sl vl vu vs) (pl : IsPart vl none) (pu : IsPart vu none) (ps : IsPart vs (some (-1)))
    (h : Q (.ref s.heap.objs.size) { s with heap := s.heap.push { cls := .type "tuple", data := .seq items.toList.reverse.toArray } }) (hsz : items.size ≤ sizeLine) : wpAny (model prog w) A (getItem (.ref t) (.ref sl)) Q E s := by
  have hk : sizeOk (.seq items.toList.reverse.toArray) := by
    show items.toList.reverse.toArray.size ≤ sizeLine
    rw [List.size_toArray, List.length_reverse, Array.length_toList]
    exact hsz
  obtain ⟨os, hos, hcs, hds⟩ := id hs
  have hT : s.TypeIs (.ref sl) "slice" := ⟨os, hos, hcs⟩
  unfold getItem
  try with_reducible refine wpAny_holding ?_
  first | refine wpAny_bind (wpAny_pure ?_) | skip
  refine wpAny_bind (wpAny_sequenceKey ht.typeIs (by decide) ?_)
  refine wpAny_bind (wpAny_callSpecial?_slot (name := Str.ofString "__getitem__") ht.typeIs PyProof.Rows.slot_tuple_getitem (wpAny_call_entry PyProof.Rows.slot_tuple_getitem ht.typeIs entry_tuple_getitem ?_ (args_tuple_getitem _ _)))
  show wpAny _ _ (Builtin.Tuple.tupleItemsOf (.ref t) >>= _) _ _ s
  refine wpAny_bind (tupleItemsOf_ ht ?_)
  refine wpAny_bind (wpAny_typeOf hT ?_)
  rw [if_pos (by decide)]
  refine wpAny_bind (sliceRev hs pl pu ps ?_)
  have no : ¬ ((((items.size : Int) - 1) == 0 && (-1 : Int) == 1 && items.size == items.size) = true) := by
    intro q
    rw [Bool.and_eq_true, Bool.and_eq_true] at q
    exact absurd q.1.2 (by decide)
  show wpAny _ _ (if (((items.size : Int) - 1) == 0 && (-1 : Int) == 1 && items.size == items.size) = true then _ else _) _ _ s
  rw [if_neg no, revPick]
  first
    | exact wpAny_bind (m := Builtin.Tuple.tupleExact _) (wpAny_newObj_type (wpAny_pure ⟨_, rfl, wpAny_pure h⟩) hk)
    | exact wpAny_bind (m := Builtin.Tuple.tupleExact _) (wpAny_newObj_type (wpAny_bind (wpAny_pure (wpAny_pure ⟨_, rfl, wpAny_pure h⟩))) hk)
    | exact wpAny_bind (wpAny_bind (m := Builtin.Tuple.tupleExact _) (wpAny_newObj_type (wpAny_pure (wpAny_pure ⟨_, rfl, wpAny_pure h⟩)) hk))
    | exact wpAny_bind (wpAny_bind (m := Builtin.Tuple.tupleExact _) (wpAny_newObj_type (wpAny_pure ⟨_, rfl, wpAny_pure h⟩) hk))
end
section
variable {X : Cx}
/-- x[::-1], x a list or a tuple: a new one -/
def tRevA (K : PySem.W.Frag) (te : TE) : TE := fun σ H Q => te σ H fun x H1 => ∃ a xs, x = .ref a ∧ ((SqL K H1 a xs ∧ ∀ p, H1 p = none → Q (.ref p) (upd H1 p (.lst xs.reverse))) ∨ (SqT K H1 a xs ∧ ∀ p, H1 p = none → Q (.ref p) (upd H1 p (.tup xs.reverse))))
theorem pe_revA {e : Expr} {te : TE} {k : Nat} {p1 p2 p3 pos : Pos} (he : PE X e te) : PE X (.Subscript e (.Slice none none (some (.UnaryOp .USub (.Constant (.int 1) k p1) p2)) p3) pos) (tRevA X.K te) := by
  refine ⟨fun pins s σ H Q I h => ?_⟩
  refine Subscript_ (thn (he.run pins s σ H _ I h) fun v s1 ⟨x, H1, I1, r1, q1⟩ => ?_)
  obtain ⟨a, xs, ex, q⟩ := q1
  subst ex
  cases r1
  have minus : PO X (some (.UnaryOp .USub (.Constant (.int 1) k p1) p2)) (tPart (tUn (rU fun i => .int (-i)) (tC (.int 1)))) := po_some (pe_un un_neg pe_int)
  refine wpAny_Slice (thn (po_none.run pins s1 σ H1 (fun o H2 => o = none ∧ H2 = H1) I1 ⟨rfl, rfl⟩) fun vl s2 ⟨l, H2, I2, pl, el, e2⟩ => ?_)
  subst el
  subst e2
  refine thn (po_none.run pins s2 σ H2 (fun o H3 => o = none ∧ H3 = H2) I2 ⟨rfl, rfl⟩) fun vu s3 ⟨u, H3, I3, pu, eu, e3⟩ => ?_
  subst eu
  subst e3
  refine thn (minus.run pins s3 σ H3 (fun o H4 => o = some (-1) ∧ H4 = H3) I3 ⟨1, rfl, -1, rfl, rfl, rfl⟩) fun vs s4 ⟨o, H4, I4, ps, eo, e4⟩ => ?_
  subst eo
  subst e4
  have I5 : Inv X pins σ H4 { s4 with heap := s4.heap.push { cls := .type "slice", data := .fields #[vl, vu, vs] } } := I4.kept (t' := s4.toks) fun b ob q => Heap.get?_push_of_some _ q
  rcases q with ⟨hx, q⟩ | ⟨hx, q⟩
  · obtain ⟨its, r, ht, hz⟩ := I5.list hx
    have hl := r.length
    show wpAny (model X.prog X.w) X.A (subscriptTail e (.Slice none none (some (.UnaryOp .USub (.Constant (.int 1) k p1) p2)) p3) (.ref a) (.ref s4.heap.objs.size)) (EP X pins σ Q) X.xe _
    refine tail_any (ops := [.ref a, .ref s4.heap.objs.size]) ht.isList.typeIs (PySem.slot_list_getitem.lookup) ?_ (by with_unfolding_all rfl)
    refine wpAny_getItem_list_slice ht.isList (Heap.IsSliceOf.new _ vl vu vs) pl pu ps (by decide) ?_ (by rw [List.size_toArray]; omega)
    rw [PySem.W.krv_pick]
    refine ⟨.ref _, _, I5.laid (t' := s4.toks) (o := .lst xs.reverse) (fun b ob q => Heap.get?_push_of_some _ q) (Nat.le_refl _) ?_, rfl, q _ (I5.hok.fresh (Nat.le_refl _))⟩
    exact ⟨by rw [List.length_reverse]; exact hz, _, 0, r.reverse, Heap.get?_push_size _ rfl⟩
  · obtain ⟨its, r, ht, hz⟩ := I5.tuple hx
    have hl := r.length
    show wpAny (model X.prog X.w) X.A (subscriptTail e (.Slice none none (some (.UnaryOp .USub (.Constant (.int 1) k p1) p2)) p3) (.ref a) (.ref s4.heap.objs.size)) (EP X pins σ Q) X.xe _
    refine tail_any (ops := [.ref a, .ref s4.heap.objs.size]) ht.typeIs PyProof.Rows.slot_tuple_getitem.lookup ?_ (by with_unfolding_all rfl)
    refine getItem_tupRev ht (Heap.IsSliceOf.new _ vl vu vs) pl pu ps ?_ (by rw [List.size_toArray]; omega)
    refine ⟨.ref _, _, I5.laid (t' := s4.toks) (o := .tup xs.reverse) (fun b ob q => Heap.get?_push_of_some _ q) (Nat.le_refl _) ?_, rfl, q _ (I5.hok.fresh (Nat.le_refl _))⟩
    exact ⟨by rw [List.length_reverse]; exact hz, _, r.reverse, IsTup.new _ _⟩
end
section
variable {fns : List FnI} {cls : List Str} {N : List Str} {C : Nat → Addr} {Φ : Fs} {k : Nat} {X : Cx} {b : Bd} {sc : Scope}
theorem eRev {i : IE} {x : Expr} {n : Nat} {p p1 p2 p3 : Pos} (h1 : PE X x (rdP X.K b (fun ε Xp q => pkW i ε (fun T => wE Φ i ε Xp T) q))) :
    PE X (.Subscript x (.Slice none none (some (.UnaryOp .USub (.Constant (.int 1) n p1) p2)) p3) p) (rdE X.K b (wE Φ (.rev i))) :=
  peImp (pe_revA h1) fun σ H Q ⟨ε, F, Xp, Qp, R, w, ex, kk⟩ => by
    refine ⟨ε, F, Xp, _, R, w, ex, fun d ε1 H1 F1 x s1 f1 R1 d1 q1 => ?_⟩
    cases d with
    | list xs =>
      have go : ∀ {a : Addr} {vs : List V}, SqL X.K H1 a vs → DpAll X.K F1 vs xs → ∃ a' vs', V.ref a = .ref a' ∧ ((SqL X.K H1 a' vs' ∧ ∀ p, H1 p = none → Q (.ref p) (upd H1 p (.lst vs'.reverse))) ∨ (SqT X.K H1 a' vs' ∧ ∀ p, H1 p = none → Q (.ref p) (upd H1 p (.tup vs'.reverse)))) := fun {a vs} r1 a1 =>
        ⟨a, vs, rfl, .inl ⟨r1, fun p hp => kk (.own xs.reverse) ε1 _ F1 _ (s1.trans (.of (same_upd hp))) f1 (R1.lst _ hp) (.newL R1 hp (daRev a1)) q1⟩⟩
      rcases d1 with d3 | ⟨r, vs, ys, rfl, e2, h3, h4⟩
      · obtain ⟨a, vs, rfl, r1, a1⟩ := dpLst d3
        exact go (sqlSub R1.fh r1) a1
      · cases e2
        exact go (.inl (.inl h3)) h4.1
    | tuple xs =>
      rcases d1 with d3 | ⟨r, vs, ys, rfl, e2, h3, h4⟩
      · obtain ⟨a, vs, rfl, r1, a1⟩ := dpTup d3
        exact ⟨a, vs, rfl, .inr ⟨(sqtSub R1.fh r1), fun p hp => kk (.d (.tuple xs.reverse)) ε1 _ (upd F1 p _) _ (s1.trans (.of (same_upd hp))) (f1.trans (sub_updF (R1.fh.none hp))) (R1.tup _ hp) (Dp.tup (.inl (.inl upd_same)) (daSub (sub_updF (R1.fh.none hp)) (daRev a1))) q1⟩⟩
      · cases e2
    | _ => exact q1.elim
theorem fnB_of {f : Nat} {x : Str} (h : fnB fns f x = true) : ∃ fi, fns[f]? = some fi ∧ fi.con = none ∧ fi.name = x ∧ isLfn fi.body = false := by
  unfold fnB at h
  split at h
  · rename_i fi q
    rw [Bool.and_eq_true, Bool.and_eq_true, Bool.not_eq_true'] at h
    exact ⟨fi, q, by cases e : fi.con with
      | none => rfl
      | some _ => rw [e] at h; exact absurd h.1.2 Bool.false_ne_true, of_decide_eq_true h.1.1, h.2⟩
  · cases h
theorem fnL_of {f : Nat} {x : Str} (h : fnL fns f x = true) : ∃ fi, fns[f]? = some fi ∧ fi.con = none ∧ fi.name = x ∧ isLfn fi.body = true := by
  unfold fnL at h
  split at h
  · rename_i fi q
    rw [Bool.and_eq_true, Bool.and_eq_true] at h
    exact ⟨fi, q, by cases e : fi.con with
      | none => rfl
      | some _ => rw [e] at h; exact absurd h.1.2 Bool.false_ne_true, of_decide_eq_true h.1.1, h.2⟩
  · cases h
theorem specOf_no {K : PySem.W.Frag} {C : Nat → Addr} {fi : FnI} {φ : List D → (Nat → Prop) → (Val → Prop) → Prop} (h : isLfn fi.body = false) : specOf K C fi φ = spec K C fi.np φ := by
  unfold specOf
  rw [if_neg (by rw [h]; exact Bool.false_ne_true)]
theorem specOf_yes {K : PySem.W.Frag} {C : Nat → Addr} {fi : FnI} {φ : List D → (Nat → Prop) → (Val → Prop) → Prop} (h : isLfn fi.body = true) : specOf K C fi φ = specL K C fi.np φ := by
  unfold specOf
  rw [if_pos h]
/-- a call without arguments, what is raised wished for at the slots -/
theorem callS0 {CX : CXT} {n : Nat} {f : Addr} {fd : FuncData} {ps : List Str} {sp : Sp} {E : St → XK} {x : Str} {p pos : Pos} (F : FnOk X.prog X.w X.K X.mg X.base CX n f fd ps sp) (hr : Room n X.A) (hg : Gl X x) (hm : X.mg x = some (.ref f)) (hk : PySem.W.keepIn X.K (.ref f) = true)
    (hb : Binds X.K fd ps []) (hx : ∀ σ, PassesAt CX X σ (E σ)) (hdb : (x == ("__debug__" : Str)) = false) : PE X (.Call (.Name x p) [] [] pos) (tCallS sp E tNil) := by
  refine ⟨fun pins s σ H Q I h => ?_⟩
  refine wpAny_Call_Name_kw (ld_glob I hg hm ?_ hdb)
  exact PySem.W.callWith_K0 I.kIn hk (run_fnS (us := []) F hr hb (hx σ) I .nil h)
theorem noStars {env : Env} {pos : Pos} : ∀ {es : List Expr}, es.all plainE = true → (backTo pos (starEach es env)).any (·.1) = false
  | [], _ => rfl
  | e :: es, h => by
    rw [List.all_cons, Bool.and_eq_true] at h
    rw [starOf h.1]
    show (false || (backTo pos (starEach es env)).any (·.1)) = false
    rw [noStars h.2]
    rfl
theorem chkPlain {a : IE} (hl : isL a = true) : ∀ {es : List Expr}, chk fns N a sc (dm :: dm :: es) = true → es.all plainE = true := by
  induction a with
  | nil =>
    intro es h
    cases es with
    | nil => rfl
    | cons _ _ => exact absurd h Bool.false_ne_true
  | cons a r _ ih =>
    intro es h
    cases es with
    | nil => exact absurd h Bool.false_ne_true
    | cons e es =>
      have h' : (plainE e && chk fns N a sc [e] && isL r && chk fns N r sc (dm :: dm :: es)) = true := h
      simp only [Bool.and_eq_true] at h'
      rw [List.all_cons, h'.1.1.1, ih h'.1.2 h'.2]
      rfl
  | _ => exact absurd hl Bool.false_ne_true
theorem chkPlainP {a : IE} (hl : isLP a = true) : ∀ {es : List Expr}, chk fns N a sc (dm :: dm :: es) = true → es.all plainE = true := by
  induction a with
  | nil =>
    intro es h
    cases es with
    | nil => rfl
    | cons _ _ => exact absurd h Bool.false_ne_true
  | consP a r _ ih =>
    intro es h
    cases es with
    | nil => exact absurd h Bool.false_ne_true
    | cons e es =>
      have h' : (plainE e && chk fns N a sc [e] && isLP r && chk fns N r sc (dm :: dm :: es)) = true := h
      simp only [Bool.and_eq_true] at h'
      rw [List.all_cons, h'.1.1.1, ih h'.1.2 h'.2]
      rfl
  | _ => exact absurd hl Bool.false_ne_true
theorem specGo (ok : Cok fns cls N C Φ k X sc b.W) (hC : b.C = C) {f : Nat} {fi : FnI} (e : fns[f]? = some fi) {ε : Ev} {F H : Hp} {σ : St} {Xp : XP} {Qp : KE} {Q : VK} {vs : List V} {ds : List D}
    (R : Rep X.K b.H0 b.F0 F H σ ε) (ex : Ex X.K b Xp σ H) (kk : ∀ v ε' H' F' x, SubZ b.H0 H H' → Sub F F' → Rep X.K b.H0 b.F0 F' H' σ ε' → VAt X.K b.H0 F' H' σ ε' x v → Qp v ε' → Q x H')
    (d : DpAll X.K F vs ds) (w : Φ f ds (fun c => Xp c ε) fun v => Qp v ε) : spec X.K C fi.np (Φ f) vs H Q (WE b.W σ) := by
  refine ⟨F, ds, _, _, R.fh, d, ok.ar f fi ds _ _ e w, w, fun c H' s q => ?_, fun v H' F' x s f g n vr q => kk v ε H' F' x (.of s) f (R.grow s f g n) (vrVat R vr) q⟩
  rw [← hC]
  exact ex c ε H' F (.of s) (R.grow s (.refl F) (R.fh.trans s) .refl) q
/-- lists that were looked at move again: what is told has none of them in it -/
theorem unlook {K : PySem.W.Frag} {Z : Zn} {F F1 F2 H H' : Hp} (l : Lsts Z F F1 H) (sb : Sub F1 F2) (n : New F1 F2 H) : ∃ F3, Sub F F3 ∧ Sub F3 F2 ∧ New F F3 H ∧ (∀ a o, H a = none → F2 a = some o → F3 a = some o) ∧
    (∀ v x, noL x = true → Dp K F2 v x → Dp K F3 v x) ∧ (∀ vs xs, noLs xs = true → DpAll K F2 vs xs → DpAll K F3 vs xs) := by
  refine ⟨fun a => match H a with
    | some _ => F a
    | none => F2 a, fun a o h => ?_, fun a o h => ?_, fun a o h => ?_, fun a o q h => ?_, ?_⟩
  · show (match H a with
      | some _ => F a
      | none => F2 a) = some o
    rw [l.2.1 a o (l.1 a o h)]
    exact h
  · have h : (match H a with
      | some _ => F a
      | none => F2 a) = some o := h
    split at h
    · exact sb a o (l.1 a o h)
    · exact h
  · have h : (match H a with
      | some _ => F a
      | none => F2 a) = some o := h
    split at h
    · exact .inl h
    · rename_i q; exact .inr q
  · show (match H a with
      | some _ => F a
      | none => F2 a) = some o
    rw [q]
    exact h
  · have rd : ∀ {a : Addr} {u : HO}, (∀ ws, u ≠ .lst ws) → (∀ o' ws, u ≠ .frz o' (.lst ws)) → F2 a = some u → (match H a with
      | some _ => F a
      | none => F2 a) = some u := fun {a u} hu _ h => by
      cases q : H a with
      | none => exact h
      | some o =>
        rcases n a u h with g | g
        · rcases l.2.2 a u g with g | ⟨⟨ws, g⟩, _⟩
          · exact g
          · exact absurd g (hu ws)
        · rw [q] at g; cases g
    have sq : ∀ {a : Addr} {xs : List V}, SqT K F2 a xs → SqT K (fun a => match H a with
      | some _ => F a
      | none => F2 a) a xs := fun {a xs} h => by
      rcases h with h | h
      · rcases h with h | ⟨o, h⟩
        · exact .inl (.inl (rd (fun ws e => by cases e) (fun o' ws e => by cases e) h))
        · exact .inl (.inr ⟨o, rd (fun ws e => by cases e) (fun o' ws e => by cases e) h⟩)
      · exact .inr h
    have go : ∀ m : Nat, (∀ v x, sizeOf x < m → noL x = true → Dp K F2 v x → Dp K (fun a => match H a with
      | some _ => F a
      | none => F2 a) v x) ∧ ∀ vs xs, sizeOf xs < m → noLs xs = true → DpAll K F2 vs xs → DpAll K (fun a => match H a with
      | some _ => F a
      | none => F2 a) vs xs := by
      intro m
      induction m with
      | zero => exact ⟨fun _ _ h => absurd h (Nat.not_lt_zero _), fun _ _ h => absurd h (Nat.not_lt_zero _)⟩
      | succ m ih =>
        refine ⟨fun v x hm nl h => ?_, fun vs xs hm nl h => ?_⟩
        · cases h with
          | non => exact .non
          | bl c => exact .bl c
          | int c => exact .int c
          | str c => exact .str c
          | lst q r => unfold noL at nl; cases nl
          | tup q r =>
            unfold noL at nl
            exact .tup (sq q) (ih.2 _ _ (by simp at hm; omega) nl r)
        · cases h with
          | nil => exact .nil
          | cons a c =>
            unfold noLs at nl
            rw [Bool.and_eq_true] at nl
            exact .cons (ih.1 _ _ (by simp at hm; omega) nl.1 a) (ih.2 _ _ (by simp at hm; omega) nl.2 c)
    exact ⟨fun v x nl h => (go (sizeOf x + 1)).1 v x (Nat.lt_succ_self _) nl h, fun vs xs nl h => (go (sizeOf xs + 1)).2 vs xs (Nat.lt_succ_self _) nl h⟩
theorem flat_noL {y : D} (h : flat (.d y) = true) : noL y = true := by
  cases y with
  | none => rfl
  | bool _ => rfl
  | int _ => rfl
  | str _ => rfl
  | tuple xs => unfold noL; exact h
  | _ => exact absurd h Bool.false_ne_true
theorem specGoP (ok : Cok fns cls N C Φ k X sc b.W) (hC : b.C = C) {f : Nat} {fi : FnI} (e : fns[f]? = some fi) {ε : Ev} {F G1 H : Hp} {σ : St} {Xp : XP} {Qp : KE} {Q : VK} {vs : List V} {ds : List D}
    (R : Rep X.K b.H0 b.F0 F H σ ε) (ex : Ex X.K b Xp σ H) (kk : ∀ v ε' H' F' x, SubZ b.H0 H H' → Sub F F' → Rep X.K b.H0 b.F0 F' H' σ ε' → VAt X.K b.H0 F' H' σ ε' x v → Qp v ε' → Q x H')
    (l : Lsts b.H0 F G1 H) (d : DpAll X.K G1 vs ds) (w : Φ f ds (fun c => Xp c ε) fun v => flat v = true ∧ Qp v ε) : spec X.K C fi.np (Φ f) vs H Q (WE b.W σ) := by
  refine ⟨G1, ds, _, _, l.2.1, d, ok.ar f fi ds _ _ e w, w, fun c H' s q => ?_, fun v H' F' x s f g n vr q => ?_⟩
  · rw [← hC]
    exact ex c ε H' F (.of s) (R.grow s (.refl F) (R.fh.trans s) .refl) q
  · obtain ⟨F3, a1, a2, a3, a4, a5, a6⟩ := unlook (K := X.K) (H' := H') l f n
    have R' := R.grow s a1 (a2.trans g) a3
    refine kk v ε H' F3 x (.of s) a1 R' ?_ q.2
    have q1 := q.1
    cases v with
    | d y => exact a5 _ _ (flat_noL q1) vr
    | _ => exact absurd q1 Bool.false_ne_true
theorem eCall (ok : Cok fns cls N C Φ k X sc b.W) (hC : b.C = C) {f : Nat} {a : IE} (s : Sn fns cls N C Φ k a) {x : Str} {es : List Expr} {p pos : Pos}
    (h : (fnB fns f x && glB sc x && !(x == ("__debug__" : Str)) && isL a && chk fns N a sc (dm :: dm :: es)) = true) : PE X (.Call (.Name x p) es [] pos) (rdE X.K b (wE Φ (.call f a))) := by
  simp only [Bool.and_eq_true, Bool.not_eq_true'] at h
  obtain ⟨⟨⟨⟨hf, hg⟩, hdb⟩, hl⟩, hc⟩ := h
  have hp := chkPlain hl hc
  obtain ⟨fi, e, ec, rfl, lf⟩ := fnB_of hf
  obtain ⟨g, fd, hm, hk, hb, ho⟩ := ok.callee f fi e ec
  rw [specOf_no lf] at ho
  cases es with
  | nil =>
    cases a with
    | nil =>
      exact peImp (callS0 ho ok.room (glB_of ok hg) hm hk hb (fun σ => passAt ok.tk σ) hdb) fun σ H Q ⟨ε, F, Xp, Qp, R, w, ex, kk⟩ => specGo ok hC e R ex kk .nil w
    | cons _ _ => exact absurd hc Bool.false_ne_true
    | _ => exact absurd hl Bool.false_ne_true
  | cons e0 es =>
    rw [List.all_cons, Bool.and_eq_true] at hp
    exact peImp (pe_callS ho ok.room (glB_of ok hg) hm hk hb (fun σ => passAt ok.tk σ) (s.a b X sc hC ok hl _ hc) hdb (starOf hp.1) (noStars hp.2)) fun σ H Q ⟨ε, F, Xp, Qp, R, w, ex, kk⟩ =>
      ⟨ε, F, Xp, _, R, w, ex, fun ds ε1 H1 F1 xs s1 f1 R1 d1 q1 => specGo ok hC e R1 (ex.mono s1) (fun v ε' H' F' x s2 f2 R2 a q => kk v ε' H' F' x (s1.trans s2) (f1.trans f2) R2 a q) d1 q1⟩
theorem eCallP (ok : Cok fns cls N C Φ k X sc b.W) (hC : b.C = C) {f : Nat} {a : IE} (s : Sn fns cls N C Φ k a) {x : Str} {es : List Expr} {p pos : Pos}
    (h : (fnB fns f x && glB sc x && !(x == ("__debug__" : Str)) && isLP a && chk fns N a sc (dm :: dm :: es)) = true) : PE X (.Call (.Name x p) es [] pos) (rdE X.K b (wE Φ (.callP f a))) := by
  simp only [Bool.and_eq_true, Bool.not_eq_true'] at h
  obtain ⟨⟨⟨⟨hf, hg⟩, hdb⟩, hl⟩, hc⟩ := h
  have hp := chkPlainP hl hc
  obtain ⟨fi, e, ec, rfl, lf⟩ := fnB_of hf
  obtain ⟨g, fd, hm, hk, hb, ho⟩ := ok.callee f fi e ec
  rw [specOf_no lf] at ho
  cases es with
  | nil =>
    cases a with
    | nil =>
      exact peImp (callS0 ho ok.room (glB_of ok hg) hm hk hb (fun σ => passAt ok.tk σ) hdb) fun σ H Q ⟨ε, F, Xp, Qp, R, w, ex, kk⟩ => specGoP ok hC e R ex kk ⟨.refl F, R.fh, fun _ _ h => .inl h⟩ .nil w
    | consP _ _ => exact absurd hc Bool.false_ne_true
    | _ => exact absurd hl Bool.false_ne_true
  | cons e0 es =>
    rw [List.all_cons, Bool.and_eq_true] at hp
    exact peImp (pe_callS ho ok.room (glB_of ok hg) hm hk hb (fun σ => passAt ok.tk σ) (s.ap b X sc hC ok hl _ hc) hdb (starOf hp.1) (noStars hp.2)) fun σ H Q ⟨ε, F, Xp, Qp, R, w, ex, kk⟩ =>
      ⟨ε, F, Xp, _, R, w, ex, fun ds ε1 H1 F1 G1 xs s1 f1 R1 l1 d1 q1 => specGoP ok hC e R1 (ex.mono s1) (fun v ε' H' F' x s2 f2 R2 a q => kk v ε' H' F' x (s1.trans s2) (f1.trans f2) R2 a q) l1 d1 q1⟩

/-! ### what stands ready in the language -/
def rBi (K : PySem.W.Frag) (c : Bi) : List V → Hp → VK → Prop := fun xs H Q => ∃ F ds Qv, Sub F H ∧ DpAll K F xs ds ∧ biW c ds Qv ∧
  ∀ v z H' F', Same H H' → Sub F F' → Sub F' H' → New F F' H → VR K H F' H' z v → Qv v → Q z H'
def biVal : Bi → Value
  | .abs => .builtin "abs"
  | .int => .type "int"
  | .list => .type "list"
  | .tuple => .type "tuple"
  | .max => .builtin "max"
  | .min => .builtin "min"
  | .all => .builtin "all"
  | .any => .builtin "any"
  | .sum => .builtin "sum"
  | .str => .type "str"
theorem da1 {K : PySem.W.Frag} {F : Hp} {xs : List V} {d : D} (h : DpAll K F xs [d]) : ∃ v, xs = [v] ∧ Dp K F v d := by
  cases h with
  | cons a c => cases c; exact ⟨_, rfl, a⟩
theorem da2 {K : PySem.W.Frag} {F : Hp} {xs : List V} {d e : D} (h : DpAll K F xs [d, e]) : ∃ v u, xs = [v, u] ∧ Dp K F v d ∧ Dp K F u e := by
  cases h with
  | cons a c =>
    obtain ⟨u, rfl, q⟩ := da1 c
    exact ⟨_, u, rfl, a, q⟩
theorem cr_sumT (hc : X.calm = true) : CallR X (.builtin "sum") (fun vs H Q => ∃ (a : Addr) (ns : List Int), vs = [V.ref a] ∧ SqT X.K H a (ns.map V.int) ∧ Q (.int ns.sum) H) := by
  intro pins s σ H vs us Q I r h
  obtain ⟨a, ns, rfl, hs, q⟩ := h
  obtain ⟨its, rv, hl, _⟩ := I.tuple hs
  rw [Vals.ref1 r]
  have hi := rv.ints
  obtain ⟨xs, e⟩ := hi.allInts.items
  have hn : numsOf (intItems xs).toList = ns := by rw [← e]; exact hi.numsOf
  rw [nums_intItems] at hn
  rw [e] at hl
  refine PySem.W.ktm_sumG (I.ok.hd hc) hl fun h' tk t' hk => ?_
  rw [preSum_eq, List.take_of_length_le (by simp), hn]
  exact ⟨.int _, H, I.kept hk, ⟨_, rfl⟩, q⟩
theorem callBi (hc : X.calm = true) (c : Bi) : CallR X (biVal c) (rBi X.K c) := by
  intro pins s σ H xs us Q I r ⟨F, ds, Qv, sb, da, w, kk⟩
  have kA : ∀ (d : D) (z : V), Dp X.K F z d → Qv (.d d) → Q z H := fun d z a q => kk (.d d) z H F (.refl H) (.refl F) sb .refl a q
  have kL : ∀ (ys : List D) (vs : List V) (p : Addr), DpAll X.K F vs ys → H p = none → Qv (.own ys) → Q (.ref p) (upd H p (.lst vs)) := fun ys vs p a hp q =>
    kk (.own ys) _ _ F (same_upd hp) (.refl F) (sb.upd (sb.none hp)) .refl ⟨p, vs, rfl, upd_same, a, sb.none hp, hp⟩ q
  have kT : ∀ (ys : List D) (vs : List V) (p : Addr), DpAll X.K F vs ys → H p = none → Qv (.d (.tuple ys)) → Q (.ref p) (upd H p (.tup vs)) := fun ys vs p a hp q =>
    kk (.d (.tuple ys)) _ _ (upd F p _) (same_upd hp) (sub_updF (sb.none hp)) sb.upd2 (.add hp) (Dp.tup (.inl (.inl upd_same)) (daSub (sub_updF (sb.none hp)) a)) q
  have one : ∀ {P : Prop}, (∀ d, ds = [d] → P) → (∀ d e, ds = [d, e] → P) → P := fun {P} h1 h2 => by
    cases ds with
    | nil => cases c <;> exact w.elim
    | cons d r =>
      cases r with
      | nil => exact h1 d rfl
      | cons e r =>
        cases r with
        | nil => exact h2 d e rfl
        | cons _ _ => cases c <;> cases d <;> first | exact w.elim | (cases e <;> exact w.elim)
  refine one (fun d hd => ?_) (fun d e hd => ?_)
  · subst hd
    obtain ⟨v, rfl, a⟩ := da1 da
    cases c with
    | abs =>
      cases d with
      | int i => cases dpInt a; exact call_abs pins s σ H _ us Q I r ⟨i, rfl, kA _ _ (.int _) w⟩
      | _ => exact w.elim
    | int =>
      cases d with
      | int i => cases dpInt a; exact call_int1 pins s σ H _ us Q I r (.inl ⟨i, rfl, kA _ _ (.int _) w⟩)
      | bool i => cases dpBl a; exact call_int1 pins s σ H _ us Q I r (.inr ⟨i, rfl, kA _ _ (.int _) w⟩)
      | _ => exact w.elim
    | str =>
      cases d with
      | int i => cases dpInt a; exact call_str_int pins s σ H _ us Q I r ⟨i, rfl, w.1, kA _ _ (.str _) w.2⟩
      | _ => exact w.elim
    | list =>
      cases d with
      | list ys =>
        obtain ⟨l, vs, rfl, q, dv⟩ := dpLst a
        exact call_list_of pins s σ H _ us Q I r ⟨l, vs, rfl, .inl (sqlSub sb q), fun p hp => kL ys vs p dv hp w⟩
      | tuple ys =>
        obtain ⟨l, vs, rfl, q, dv⟩ := dpTup a
        exact call_list_of pins s σ H _ us Q I r ⟨l, vs, rfl, .inr ((sqtSub sb q)), fun p hp => kL ys vs p dv hp w⟩
      | _ => exact w.elim
    | tuple =>
      cases d with
      | list ys =>
        obtain ⟨l, vs, rfl, q, dv⟩ := dpLst a
        exact call_tuple_of pins s σ H _ us Q I r ⟨l, vs, rfl, .inl ⟨sqlSub sb q, fun p hp => kT ys vs p dv hp w⟩⟩
      | tuple ys =>
        obtain ⟨l, vs, rfl, q, dv⟩ := dpTup a
        exact call_tuple_of pins s σ H _ us Q I r ⟨l, vs, rfl, .inr ⟨(sqtSub sb q), kA _ _ a w⟩⟩
      | _ => exact w.elim
    | sum =>
      cases d with
      | list ys =>
        obtain ⟨l, vs, rfl, q, dv⟩ := dpLst a
        obtain ⟨ns, e1, q1⟩ := w
        cases asInts_of dv e1
        exact cr_sum hc pins s σ H _ us Q I r ⟨l, ns, rfl, sqlSub sb q, kA _ _ (.int _) q1⟩
      | tuple ys =>
        obtain ⟨l, vs, rfl, q, dv⟩ := dpTup a
        obtain ⟨ns, e1, q1⟩ := w
        cases asInts_of dv e1
        exact cr_sumT hc pins s σ H _ us Q I r ⟨l, ns, rfl, sqtSub sb q, kA _ _ (.int _) q1⟩
      | _ => exact w.elim
    | all =>
      cases d with
      | list ys =>
        obtain ⟨l, vs, rfl, q, dv⟩ := dpLst a
        obtain ⟨ns, e1, q1⟩ := w
        cases asBools_of dv e1
        exact cr_all hc pins s σ H _ us Q I r ⟨l, ns, rfl, sqlSub sb q, kA _ _ (.bl _) q1⟩
      | _ => exact w.elim
    | any =>
      cases d with
      | list ys =>
        obtain ⟨l, vs, rfl, q, dv⟩ := dpLst a
        obtain ⟨ns, e1, q1⟩ := w
        cases asBools_of dv e1
        exact cr_any hc pins s σ H _ us Q I r ⟨l, ns, rfl, sqlSub sb q, kA _ _ (.bl _) q1⟩
      | _ => exact w.elim
    | max =>
      cases d with
      | list ys =>
        obtain ⟨l, vs, rfl, q, dv⟩ := dpLst a
        obtain ⟨ns, m, e1, hm, ha, q1⟩ := w
        cases asInts_of dv e1
        refine cr_max hc pins s σ H _ us Q I r ⟨l, ns, rfl, sqlSub sb q, List.length_pos_of_mem hm, fun m' h1 h2 => ?_⟩
        have e2 : m' = m := by
          have := ha m' h1
          have := h2 m hm
          omega
        subst e2
        exact kA _ _ (.int _) q1
      | _ => exact w.elim
    | min =>
      cases d with
      | list ys =>
        obtain ⟨l, vs, rfl, q, dv⟩ := dpLst a
        obtain ⟨ns, m, e1, hm, ha, q1⟩ := w
        cases asInts_of dv e1
        refine cr_min hc pins s σ H _ us Q I r ⟨l, ns, rfl, sqlSub sb q, List.length_pos_of_mem hm, fun m' h1 h2 => ?_⟩
        have e2 : m' = m := by
          have := ha m' h1
          have := h2 m hm
          omega
        subst e2
        exact kA _ _ (.int _) q1
      | _ => exact w.elim
  · subst hd
    obtain ⟨v, u, rfl, a, a'⟩ := da2 da
    cases c with
    | max =>
      cases d with
      | int i =>
        cases e with
        | int j => cases dpInt a; cases dpInt a'; exact call_max2 hc pins s σ H _ us Q I r ⟨i, j, rfl, kA _ _ (.int _) w⟩
        | _ => exact w.elim
      | _ => exact w.elim
    | min =>
      cases d with
      | int i =>
        cases e with
        | int j => cases dpInt a; cases dpInt a'; exact call_min2 hc pins s σ H _ us Q I r ⟨i, j, rfl, kA _ _ (.int _) w⟩
        | _ => exact w.elim
      | _ => exact w.elim
    | _ => cases d <;> exact w.elim
theorem eBi (ok : Cok fns cls N C Φ k X sc b.W) (hC : b.C = C) {c : Bi} {a : IE} (s : Sn fns cls N C Φ k a) {x : Str} {e : Expr} {es : List Expr} {p pos : Pos}
    (h : (decide (biName c = x) && glB sc x && isL a && chk fns N a sc (dm :: dm :: e :: es)) = true) : PE X (.Call (.Name x p) (e :: es) [] pos) (rdE X.K b (wE Φ (.bi c a))) := by
  simp only [Bool.and_eq_true, decide_eq_true_eq] at h
  obtain ⟨⟨⟨rfl, hg⟩, hl⟩, hc⟩ := h
  have hp := chkPlain hl hc
  rw [List.all_cons, Bool.and_eq_true] at hp
  have ha := s.a b X sc hC ok hl _ hc
  have gl := glB_of ok hg
  have go : PE X (.Call (.Name (biName c) p) (e :: es) [] pos) (tCB (rBi X.K c) (rdA X.K b (wE Φ a))) := by
    have h0 := callBi (X := X) ok.calm c
    have st := starOf (es := es) (env := X.env) hp.1
    have ns := noStars (env := X.env) (pos := pos) hp.2
    cases c with
    | abs => exact pe_callB h0 gl (ok.blt _ (by decide)) (by decide +kernel) ha (by decide) (by decide) st ns
    | int => exact pe_callTy h0 gl (ok.blt _ (by decide)) (by decide +kernel) ha (by decide) (by decide) st ns
    | list => exact pe_callTy h0 gl (ok.blt _ (by decide)) (by decide +kernel) ha (by decide) (by decide) st ns
    | tuple => exact pe_callTy h0 gl (ok.blt _ (by decide)) (by decide +kernel) ha (by decide) (by decide) st ns
    | max => exact pe_callB h0 gl (ok.blt _ (by decide)) (by decide +kernel) ha (by decide) (by decide) st ns
    | min => exact pe_callB h0 gl (ok.blt _ (by decide)) (by decide +kernel) ha (by decide) (by decide) st ns
    | all => exact pe_callB h0 gl (ok.blt _ (by decide)) (by decide +kernel) ha (by decide) (by decide) st ns
    | any => exact pe_callB h0 gl (ok.blt _ (by decide)) (by decide +kernel) ha (by decide) (by decide) st ns
    | sum => exact pe_callB h0 gl (ok.blt _ (by decide)) (by decide +kernel) ha (by decide) (by decide) st ns
    | str => exact pe_callTy h0 gl (ok.blt _ (by decide)) (by decide +kernel) ha (by decide) (by decide) st ns
  exact peImp go fun σ H Q ⟨ε, F, Xp, Qp, R, w, ex, kk⟩ => ⟨ε, F, Xp, _, R, w, ex, fun ds ε1 H1 F1 xs s1 f1 R1 d1 q1 =>
    ⟨F1, ds, _, R1.fh, d1, q1, fun v z H' F' s f g n vr q => kk v ε1 H' F' z (s1.trans (.of s)) (f1.trans f) (R1.grow s f g n) (vrVat R1 vr) q⟩⟩
theorem patLen {K : PySem.W.Frag} {H0 : Zn} {F H : Hp} {v : V} {d : D} (sb : Sub F H) (h : PAt K H0 F H v d) {Q : Int → Prop} (w : lenW d Q) : ∃ p ys, v = .ref p ∧ (SqL K H p ys ∨ SqT K H p ys) ∧ Q ys.length := by
  cases d with
  | list xs =>
    rcases h with h | ⟨r, vs, ys, rfl, e2, h3, h4⟩
    · obtain ⟨a, vs, rfl, r1, a1⟩ := dpLst h
      exact ⟨a, vs, rfl, .inl (sqlSub sb r1), by rw [daLen a1]; exact w⟩
    · cases e2
      exact ⟨r, vs, rfl, .inl (.inl (.inl h3)), by rw [daLen h4.1]; exact w⟩
  | tuple xs =>
    rcases h with h | ⟨r, vs, ys, rfl, e2, h3, h4⟩
    · obtain ⟨a, vs, rfl, r1, a1⟩ := dpTup h
      exact ⟨a, vs, rfl, .inr ((sqtSub sb r1)), by rw [daLen a1]; exact w⟩
    · cases e2
  | _ => exact w.elim
theorem eLen (ok : Cok fns cls N C Φ k X sc b.W) {i : IE} {x : Str} {e : Expr} {p pos : Pos} (hx : x = "len") (hg : glB sc x = true) (he : plainE e = true) (h1 : PE X e (rdP X.K b (fun ε Xp q => pkW i ε (fun T => wE Φ i ε Xp T) q))) :
    PE X (.Call (.Name x p) [e] [] pos) (rdE X.K b (wE Φ (.len i))) := by
  subst hx
  refine peImp (pe_callB call_len_seq (glB_of ok hg) (ok.blt _ (by decide)) PySem.boot_len (pa_cons h1 pa_nil (starOf he)) (by decide) (by decide) (starOf he) rfl) fun σ H Q ⟨ε, F, Xp, Qp, R, w, ex, kk⟩ => ?_
  refine ⟨ε, F, Xp, _, R, w, ex, fun d ε1 H1 F1 x s1 f1 R1 d1 q1 => ?_⟩
  obtain ⟨p, ys, e1, q, q2⟩ := patLen R1.fh d1 q1
  subst e1
  exact ⟨p, ys, rfl, q, kk (.d (.int ys.length)) ε1 H1 F1 _ s1 f1 R1 (Dp.int _) q2⟩
theorem patItems {K : PySem.W.Frag} {H0 : Zn} {F H : Hp} {v : V} {d : D} {ds : List D} (sb : Sub F H) (h : PAt K H0 F H v d) (w : items d = some ds) : ∃ p ys, v = .ref p ∧ (SqL K H p ys ∨ SqT K H p ys) ∧ DpAll K F ys ds := by
  cases d with
  | list xs =>
    cases w
    rcases h with h | ⟨r, vs, ys, rfl, e2, h3, h4⟩
    · obtain ⟨a, vs, rfl, r1, a1⟩ := dpLst h
      exact ⟨a, vs, rfl, .inl (sqlSub sb r1), a1⟩
    · cases e2
      exact ⟨r, vs, rfl, .inl (.inl (.inl h3)), h4.1⟩
  | tuple xs =>
    cases w
    rcases h with h | ⟨r, vs, ys, rfl, e2, h3, h4⟩
    · obtain ⟨a, vs, rfl, r1, a1⟩ := dpTup h
      exact ⟨a, vs, rfl, .inr ((sqtSub sb r1)), a1⟩
    · cases e2
  | _ => cases w
theorem eLsc (ok : Cok fns cls N C Φ k X sc b.W) {i : IE} {x : Str} {e : Expr} {p pos : Pos} (hx : x = "list") (hg : glB sc x = true) (he : plainE e = true) (h1 : PE X e (rdP X.K b (fun ε Xp q => pkW i ε (fun T => wE Φ i ε Xp T) q))) :
    PE X (.Call (.Name x p) [e] [] pos) (rdE X.K b (wE Φ (.lsc i))) := by
  subst hx
  refine peImp (pe_callTy call_list_of (glB_of ok hg) (ok.blt _ (by decide)) (by decide +kernel) (pa_cons h1 pa_nil (starOf he)) (by decide) (by decide) (starOf he) rfl) fun σ H Q ⟨ε, F, Xp, Qp, R, w, ex, kk⟩ => ?_
  refine ⟨ε, F, Xp, _, R, w, ex, fun d ε1 H1 F1 x s1 f1 R1 d1 q1 => ?_⟩
  split at q1
  · rename_i ds hd
    obtain ⟨p, ys, e1, q, q2⟩ := patItems R1.fh d1 hd
    subst e1
    exact ⟨p, ys, rfl, q, fun r hr => kk (.own ds) ε1 _ F1 _ (s1.trans (.of (same_upd hr))) f1 (R1.lst _ hr) (VAt.newL R1 hr q2) q1⟩
  · exact q1.elim
def dTy : D → String
  | .none => "NoneType"
  | .bool _ => "bool"
  | .int _ => "int"
  | .str _ => "str"
  | .list _ => "list"
  | .tuple _ => "tuple"
  | .dict _ => "dict"
theorem patTy {K : PySem.W.Frag} {H0 : Zn} {F H : Hp} {v : V} {d : D} (sb : Sub F H) (h : PAt K H0 F H v d) : TyX K H v (.type (dTy d)) := by
  rcases h with h | ⟨r, vs, ys, rfl, rfl, h3, h4⟩
  · cases h with
    | non => exact .base .non
    | bl c => exact .base (.bl c)
    | int c => exact .base (.int c)
    | str c => exact .base (.str c)
    | lst q r =>
      rcases sqlSub sb q with (q | ⟨o, q⟩) | ⟨o, its, n, q, hc, _⟩
      · exact .base (.lst q)
      · exact .base (.frz q)
      · exact .kList q hc
    | tup q r =>
      rcases sqtSub sb q with (q | ⟨o, q⟩) | ⟨o, its, n, q, hc, _⟩
      · exact .base (.tup q)
      · exact .fTuple q
      · exact .kTuple q hc
  · exact .base (.lst h3)
def tyB (n : String) : Ty → Bool
  | .int => n == "int" || n == "bool"
  | .bool => n == "bool"
  | .tuple => n == "tuple"
  | .list => n == "list"
  | .str => n == "str"
theorem kitTyB : ∀ n ∈ ["NoneType", "bool", "int", "str", "list", "tuple"], ∀ t : Ty, kitB n (tyStr t) = some (tyB n t) := by
  intro n hn t
  simp only [List.mem_cons, List.not_mem_nil, or_false] at hn
  rcases hn with rfl | rfl | rfl | rfl | rfl | rfl <;> cases t <;> decide +kernel
theorem kitTy {K : PySem.W.Frag} (t : Ty) (d : D) (hd : ∀ kvs, d ≠ .dict kvs) : PySem.W.kitOne K (.type (dTy d)) (.type (tyStr t)) = some (isT t d) := by
  have e : isT t d = tyB (dTy d) t := by
    cases d with
    | dict kvs => exact absurd rfl (hd kvs)
    | _ => cases t <;> rfl
  rw [e]
  refine kit_ty (kitTyB _ ?_ t)
  cases d with
  | dict kvs => exact absurd rfl (hd kvs)
  | _ => simp [dTy]
theorem patNoDict {K : PySem.W.Frag} {H0 : Zn} {F H : Hp} {v : V} {d : D} (h : PAt K H0 F H v d) : ∀ kvs, d ≠ .dict kvs := by
  intro kvs e
  subst e
  rcases h with h | ⟨r, vs, ys, _, e2, _⟩
  · cases h
  · cases e2
theorem eIsi (ok : Cok fns cls N C Φ k X sc b.W) {t : Ty} {i : IE} {x y : Str} {e : Expr} {p p2 pos : Pos} (hx : x = "isinstance") (hg : glB sc x = true) (hy : tyName t = y) (hgy : glB sc y = true) (he : plainE e = true)
    (h1 : PE X e (rdP X.K b (fun ε Xp q => pkW i ε (fun T => wE Φ i ε Xp T) q))) : PE X (.Call (.Name x p) [e, .Name y p2] [] pos) (rdE X.K b (wE Φ (.isi t i))) := by
  subst hx hy
  have gy := glB_of ok hgy
  have hT : PE X (.Name (tyName t) p2) (tC (.ty (tyStr t))) := by
    cases t with
    | int => exact pe_bltn gy (ok.blt _ (by decide)) (u := .type "int") (by decide +kernel) rfl
    | bool => exact pe_bltn gy (ok.blt _ (by decide)) (u := .type "bool") (by decide +kernel) rfl
    | tuple => exact pe_bltn gy (ok.blt _ (by decide)) (u := .type "tuple") (by decide +kernel) rfl
    | list => exact pe_bltn gy (ok.blt _ (by decide)) (u := .type "list") (by decide +kernel) rfl
    | str => exact pe_bltn gy (ok.blt _ (by decide)) (u := .type "str") (by decide +kernel) rfl
  refine peImp (pe_callB call_isi (glB_of ok hg) (ok.blt _ (by decide)) (by decide +kernel) (pa_cons h1 (pa_cons hT pa_nil) (starOf he)) (by decide) (by decide) (starOf he) rfl) fun σ H Q ⟨ε, F, Xp, Qp, R, w, ex, kk⟩ => ?_
  refine ⟨ε, F, Xp, _, R, w, ex, fun d ε1 H1 F1 x s1 f1 R1 d1 q1 => ?_⟩
  exact ⟨x, .ty (tyStr t), .type (dTy d), .type (tyStr t), isT t d, rfl, .ty _, patTy R1.fh d1, kitTy t d (patNoDict d1), kk (.d (.bool (isT t d))) ε1 H1 F1 _ s1 f1 R1 (Dp.bl _) q1⟩
end
end Rc

/-! What is walked. -/
namespace PySem
/-- enumerate of anything whose walk begins -/
theorem rcEnumNew {v : Value} {o : Obj} {H : Heap → Prop} (B : Begins v o H) :
    Meets (Builtin.«enumerate.__new__» ⟨[.type "enumerate", v], []⟩) (fun _ R s => H s.heap ∧
      R (.ok (.ret (.ref (s.heap.push o).objs.size)))
        { s with heap := (s.heap.push o).push { cls := .type "enumerate", data := .fields #[.none, .bool false, .ref s.heap.objs.size, rawInt 0, .none, .none] } }) :=
  .of_wp fun prog w A R s h => by
    obtain ⟨hp, g, d, tk, os⟩ := s
    obtain ⟨h1, h⟩ := h
    have hsub := sub_enumerate
    have go : ∀ {A' : Around} {E : Value → Shared → Prop} {Q : Value → Shared → Prop}, Q (.ref hp.objs.size) ⟨hp.push o, g, d, tk, os⟩ → wpAny (model prog w) A' (pyIter v) Q E ⟨hp, g, d, tk, os⟩ :=
      fun q => B.iter prog w _ _ ⟨hp, g, d, tk, os⟩ _ h1 q
    wp_walk using go
    refine wpAny_stack_any fun st => wpAny_pure ?_
    split
    · rename_i c _ _ _ _ _
      cases (c == Value.type "enumerate") <;> (wp_walk using go; exact ⟨_, rfl, h⟩)
    · wp_walk using go
      exact ⟨_, rfl, h⟩
theorem rcEnumCall {prog : Program} {w : World} {A : Around} {E : Value → Shared → Prop} {s : Shared} {v : Value} {o : Obj} {H : Heap → Prop} {Q : Value → Shared → Prop} (B : Begins v o H) (h1 : H s.heap)
    (h : ∀ h', IsEnum h' (s.heap.objs.size + 1) s.heap.objs.size 0 .none → h'.get? s.heap.objs.size = some o → h'.objs.size = s.heap.objs.size + 2 →
      (∀ b u, s.heap.get? b = some u → h'.get? b = some u) → Q (.ref (s.heap.objs.size + 1)) { s with heap := h' }) :
    wpAny (model prog w) A (call (.type "enumerate") [v]) Q E s := by
  refine callType_new F.called_enumerate (by decide) (F.typeCall_enumerate_1 _) (F.newCall_enumerate_1 _) (fun obj => F.args_object_init_2 obj _)
    F.entry_enumerate_new (rcEnumNew B) ⟨h1, ?_⟩
  have sz : (s.heap.push o).objs.size = s.heap.objs.size + 1 := Heap.size_push ..
  show _ ∧ _
  rw [sz]
  generalize hob : ({ cls := .type "enumerate", data := .fields #[.none, .bool false, .ref s.heap.objs.size, rawInt 0, .none, .none] } : Obj) = ob
  have fr : ob.isFreed = false := by subst hob; rfl
  have here : ((s.heap.push o).push ob).get? (s.heap.objs.size + 1) = some ob := by
    have q := Heap.get?_push_size (s.heap.push o) (o := ob) fr
    rw [sz] at q
    exact q
  have en : IsEnum ((s.heap.push o).push ob) (s.heap.objs.size + 1) s.heap.objs.size 0 .none := by subst hob; exact here
  refine ⟨⟨_, en, rfl⟩, h _ en (Heap.get?_push_of_some _ (Heap.get?_push_size _ B.free)) (by rw [Heap.size_push, sz]) fun b u q => ?_⟩
  exact Heap.get?_push_of_some _ (Heap.get?_push_of_some _ q)
end PySem
namespace Rc
open PySem PySem.Spec PyProof.Rows L2
def IteT (K : PySem.W.Frag) (a : Addr) (n : Nat) : It :=
  ⟨fun i H => i < n ∧ ∃ xs x, SqT K H a xs ∧ xs[i]? = some x,
    fun i H v H' => ∃ T x, v = .ref T ∧ H T = none ∧ H' = upd H T (.tup [.int (i : Nat), x]) ∧ ∀ xs, SqT K H a xs → xs[i]? = some x,
    fun i H => ∃ xs, SqT K H a xs ∧ xs.length = n ∧ n ≤ i⟩
theorem turn_enumT {P : Program} {w : World} {K : PySem.W.Frag} {elts : List Expr} {kk : Nat} {tpos : Pos} (a e it : Addr) (n : Nat) :
    Turn P w K (.Tuple elts kk tpos) (IteT K a n) [e, it] e (fun i h => (∃ old, IsEnum h e it ((i : Nat) : Int) old) ∧ h.IsTupleIter it a i ∧ e ≠ it ∧ a ≠ e ∧ a ≠ it ∧ i ≤ n) where
  mem := by simp
  obj := by
    rintro i h ⟨⟨old, he⟩, ⟨o, ho, hc, hd⟩, _⟩ c hm
    rcases (by simpa using hm : c = e ∨ c = it) with rfl | rfl
    · exact ⟨_, he, fun v q => nomatch q⟩
    · exact ⟨o, ho, fun v q => by rw [hd] at q; cases q⟩
  keep := by
    rintro i h h' ⟨⟨old, he⟩, hi, r⟩ q
    exact ⟨⟨old, q e (by simp) _ he⟩, hi.at fun o z => q it (by simp) o z, r⟩
  item := by
    rintro X rfl rfl rfl hc i pins s σ H E I hf ⟨⟨old, he⟩, hit, hne, hae, hai, hin⟩ ⟨hin2, xs, x, hq, hx⟩
    obtain ⟨its, rv, pl, hz⟩ := I.tuple hq
    obtain ⟨u, hu, ru⟩ := rv.get hx
    have lt1 : e < s.heap.objs.size := Heap.lt_size he
    have lt2 : it < s.heap.objs.size := by
      obtain ⟨_, q, _⟩ := hit
      exact Heap.lt_size q
    have hlt : i < its.toArray.size := by
      rw [List.size_toArray]
      exact (List.getElem?_eq_some_iff.mp hu).1
    have Dr := Draws.tuple (prog := X.prog) (w := X.w) (A := X.A.in1) (I.ok.hd hc) it a hai its.toArray
    have hef : e ∉ [it, a] := by
      simp only [List.mem_cons, List.not_mem_nil, or_false, not_or]
      exact ⟨hne, Ne.symm hae⟩
    refine wpAny_pyNext_enum_itemC Dr he ⟨hit, pl⟩ hlt hne hef fun y h' tk hy ho hst hT hsz hk => ?_
    have ey : y = u := by
      have z : its.toArray[i]? = some u := by simpa using hu
      rw [z] at hy
      exact (Option.some.inj hy).symm
    subst ey
    refine ⟨_, rfl, wpAny_letOwnedTupleGo_enum (s := { s with heap := h', toks := tk + 1 }) ho fun h2 he2 sb => ?_⟩
    have hT2 : h2.get? s.heap.objs.size = some { cls := .type "tuple", data := .seq #[.int (i : Nat) tk, y] } := (sb.2 _ (Nat.ne_of_gt lt1)).trans hT
    have new : ObjOk X.prog X.w (upd H s.heap.objs.size (.tup [.int (i : Nat), x])) h2 s.heap.objs.size (.tup [.int (i : Nat), x]) :=
      ⟨by show 2 ≤ sizeLine; decide, [.int (i : Nat) tk, y], .cons ⟨_, rfl⟩ (.cons ru .nil), ⟨_, hT2, rfl, _, rfl⟩⟩
    have I1 : Inv X pins σ (upd H s.heap.objs.size (.tup [.int (i : Nat), x])) { s with heap := h2, toks := tk + 1 } :=
      I.turnedNew (ch := [e, it]) (fun c ob hb q => (sb.2 c fun z => hb (by simp [z])).trans (hk c ob (fun z => hb (by simp [z])) (fun z => hb (by simp [z])) q)) hf (Nat.le_refl _) new
    refine ⟨.ref s.heap.objs.size, _, I1, rfl, ⟨_, x, rfl, I.hok.fresh (Nat.le_refl _), rfl, fun ys hy => by rw [I.tuple_inj hy hq]; exact hx⟩, ⟨⟨y, ?_⟩, hst.1.at fun o q => (sb.2 it (Ne.symm hne)).trans q, hne, hae, hai, hin2⟩, fun c hb => ?_⟩
    · rw [show ((i + 1 : Nat) : Int) = (i : Int) + 1 by omega]
      exact he2
    · have hc' : c ≠ s.heap.objs.size := by
        rcases (by simpa using hb : c = e ∨ c = it) with rfl | rfl
        · exact Nat.ne_of_lt lt1
        · exact Nat.ne_of_lt lt2
      rw [upd_ne hc']
      exact (hf c hb).1
  done := by
    rintro X rfl rfl rfl hc i pins s σ H E I hf ⟨⟨old, he⟩, hit, hne, hae, hai, hin⟩ ⟨xs, hq, hx, hin2⟩
    obtain ⟨its, rv, pl, hz⟩ := I.tuple hq
    obtain ⟨f0, f1, f2, f3, f4, f5⟩ := hf it (by simp)
    have Dr := Draws.tuple (prog := X.prog) (w := X.w) (A := X.A.in1) (I.ok.hd hc) it a hai its.toArray
    have hl := rv.length
    have hi : i = its.toArray.size := by rw [List.size_toArray]; omega
    refine wpAny_pyNext_enum_endD Dr he ⟨hi ▸ hit, pl⟩ fun h' eb => ⟨rfl, ?_⟩
    exact I.turned (t' := s.toks) (fun c o hb q => eb c o hb q) f0 f1 f3 f4 f5
  self := fun A i s Q E st h => let ⟨⟨_, he⟩, _⟩ := st; wpAny_pyIter_enum he h

section
variable {X : Cx} {tg e : Expr} {te : TE} {pos p : Pos}
/-- a list or a tuple -/
def iSeq (K : PySem.W.Frag) (te : TE) : TI := fun σ H R => te σ H fun v H1 => ∃ a xs, v = .ref a ∧ ((SqL K H1 a xs ∧ R (Itl K a) H1) ∨ (SqT K H1 a xs ∧ R (Itt K a) H1))
theorem pi_seq (he : PE X e te) : PI X tg e (iSeq X.K te) := by
  refine ⟨fun pins s σ H R I h => thn (he.run pins s σ H _ I h) fun v s1 ⟨x, H1, I1, r1, q1⟩ => ?_⟩
  obtain ⟨a, xs, ex, q⟩ := q1
  subst ex
  cases r1
  rcases q with ⟨hq, q⟩ | ⟨hq, q⟩
  · obtain ⟨its, rv, pl, hz⟩ := I1.list hq
    exact wpAny_pyIter_list pl.isList (pi_one (tk := s1.toks) I1 _ (turn_list a _) ⟨_, Heap.get?_push_size _ rfl, rfl, rfl⟩ q)
  · obtain ⟨its, rv, pl, hz⟩ := I1.tuple hq
    exact wpAny_pyIter_tuple pl (pi_one (tk := s1.toks) I1 _ (turn_tuple a _) ⟨_, Heap.get?_push_size _ rfl, rfl, rfl⟩ q)
def iEnumA (K : PySem.W.Frag) (te : TE) : TI := fun σ H R => te σ H fun v H1 => ∃ a xs, v = .ref a ∧ ((SqL K H1 a xs ∧ R (Ite K a) H1) ∨ (SqT K H1 a xs ∧ R (IteT K a xs.length) H1))
theorem pi_enumA {elts : List Expr} {kk : Nat} {tpos : Pos} (hg : Gl X "enumerate") (hm : X.mg "enumerate" = none) (he : PE X e te) (hs : plainE e = true) :
    PI X (.Tuple elts kk tpos) (.Call (.Name "enumerate" p) [e] [] pos) (iEnumA X.K te) := by
  refine ⟨fun pins s σ H R I h => ?_⟩
  have st := starOf (es := []) (env := X.env) hs
  refine Call_ (ld_blt I hg hm boot_enumerate (PyProof.Rows.callWith_type1 (args_cons (thn (he.run pins s σ H _ I h) fun u s1 ⟨v, H1, I1, r1, q1⟩ => args_nil ?_) st) st rfl))
  obtain ⟨a, xs, ex, q⟩ := q1
  subst ex
  cases r1
  have fresh2 : ∀ b ∈ [s1.heap.objs.size + 1, s1.heap.objs.size], FpOk X pins H1 b := fun b hb => by
    have hle : s1.heap.objs.size ≤ b := by
      rcases (by simpa using hb : b = s1.heap.objs.size + 1 ∨ b = s1.heap.objs.size) with z | z <;> omega
    exact I1.fpOk hle (I1.hok.fresh hle)
  rcases q with ⟨hq, q⟩ | ⟨hq, q⟩
  · obtain ⟨its, rv, pl, hz⟩ := I1.list hq
    refine call_enumerate_list pl.isList fun h' hen hit hsz hk => wpAny_pyIter_enum hen ?_
    have I2 : Inv X pins σ H1 { s1 with heap := h' } := I1.kept (t' := s1.toks) hk
    exact ⟨_, _, _, _, H1, rfl, I2, turn_enum a (s1.heap.objs.size + 1) s1.heap.objs.size, ⟨⟨.none, hen⟩, hit, Nat.succ_ne_self _⟩, fresh2, q⟩
  · obtain ⟨its, rv, pl, hz⟩ := I1.tuple hq
    have lt : a < s1.heap.objs.size := by
      obtain ⟨o, ho, _⟩ := id pl
      exact Heap.lt_size ho
    refine rcEnumCall (begins_tuple a its.toArray) pl fun h' hen hit hsz hk => wpAny_pyIter_enum hen ?_
    have I2 : Inv X pins σ H1 { s1 with heap := h' } := I1.kept (t' := s1.toks) hk
    refine ⟨_, _, _, _, H1, rfl, I2, turn_enumT a (s1.heap.objs.size + 1) s1.heap.objs.size xs.length, ⟨⟨.none, hen⟩, ⟨_, hit, rfl, rfl⟩, Nat.succ_ne_self _, ?_, ?_, Nat.zero_le _⟩, fresh2, q⟩
    · exact Nat.ne_of_lt (Nat.lt_succ_of_lt lt)
    · exact Nat.ne_of_lt lt
end

/-! ### what an iterator gives -/
section
variable {K : PySem.W.Frag} {F1 : Hp}
theorem itList {a : Addr} {vs : List V} {ds : List D} (r : SqL K F1 a vs) (d : DpAll K F1 vs ds) : ItOk K (Itl K a) F1 ds where
  go := fun i H hi s => by
    have hv : i < vs.length := by rw [daLen d]; exact hi
    exact ⟨vs, vs[i], sqlSub s r, List.getElem?_eq_getElem hv⟩
  stop := fun H s => ⟨vs, sqlSub s r, by rw [daLen d]; exact Nat.le_refl _⟩
  yld := fun i H x H' F hi s1 s2 y => by
    obtain ⟨e, y⟩ := y
    subst e
    obtain ⟨z, g1, g2⟩ := daGet d (y vs (sqlSub (s1.trans s2) r))
    exact ⟨.refl _, F, z, .refl F, s2, .refl, g1, dpSub s1 g2⟩
theorem itTup {a : Addr} {vs : List V} {ds : List D} (r : SqT K F1 a vs) (d : DpAll K F1 vs ds) : ItOk K (Itt K a) F1 ds where
  go := fun i H hi s => by
    have hv : i < vs.length := by rw [daLen d]; exact hi
    exact ⟨vs, vs[i], (sqtSub s r), List.getElem?_eq_getElem hv⟩
  stop := fun H s => ⟨vs, (sqtSub s r), by rw [daLen d]; exact Nat.le_refl _⟩
  yld := fun i H x H' F hi s1 s2 y => by
    obtain ⟨e, y⟩ := y
    subst e
    obtain ⟨z, g1, g2⟩ := daGet d (y vs ((sqtSub (s1.trans s2) r)))
    exact ⟨.refl _, F, z, .refl F, s2, .refl, g1, dpSub s1 g2⟩
theorem enums_len : ∀ (ds : List D) (n : Nat), (enums n ds).length = ds.length
  | [], _ => rfl
  | _ :: r, n => by simp [enums, enums_len r (n + 1)]
theorem enums_get : ∀ (ds : List D) (n i : Nat), (enums n ds)[i]? = ds[i]?.map fun x => .tuple [.int (n + i : Nat), x]
  | [], _, _ => by simp [enums]
  | _ :: r, n, 0 => by simp [enums]
  | x :: r, n, i + 1 => by
    simp only [enums, List.getElem?_cons_succ, enums_get r (n + 1) i]
    congr 1
    funext y
    have : n + 1 + i = n + (i + 1) := by omega
    rw [this]
theorem newPair {F H : Hp} {T : Addr} {i : Int} {x : V} {z : D} (s2 : Sub F H) (hT : H T = none) (g : Dp K F x z) :
    Same H (upd H T (.tup [.int i, x])) ∧ ∃ F' d, Sub F F' ∧ Sub F' (upd H T (.tup [.int i, x])) ∧ New F F' H ∧ d = .tuple [.int i, z] ∧ Dp K F' (.ref T) d := by
  have sb : Sub F (upd F T (.tup [.int i, x])) := sub_updF (s2.none hT)
  exact ⟨same_upd hT, upd F T _, _, sb, s2.upd2, .add hT, rfl, Dp.tup (.inl (.inl upd_same)) (.cons (.int i) (.cons (dpSub sb g) .nil))⟩
theorem itEnum {a : Addr} {vs : List V} {ds : List D} (r : SqL K F1 a vs) (d : DpAll K F1 vs ds) : ItOk K (Ite K a) F1 (enums 0 ds) where
  go := fun i H hi s => by
    have hv : i < vs.length := by rw [daLen d, ← enums_len ds 0]; exact hi
    exact ⟨vs, vs[i], sqlSub s r, List.getElem?_eq_getElem hv⟩
  stop := fun H s => ⟨vs, sqlSub s r, by rw [daLen d, enums_len]; exact Nat.le_refl _⟩
  yld := fun i H x H' F hi s1 s2 y => by
    obtain ⟨T, u, rfl, hT, rfl, y⟩ := y
    obtain ⟨z, g1, g2⟩ := daGet d (y vs (sqlSub (s1.trans s2) r))
    obtain ⟨p1, F', e, p2, p3, p4, rfl, p5⟩ := newPair (i := (i : Nat)) s2 hT (dpSub s1 g2)
    exact ⟨p1, F', _, p2, p3, p4, by rw [enums_get, g1]; simp, p5⟩
theorem itEnumT {a : Addr} {vs : List V} {ds : List D} (r : SqT K F1 a vs) (d : DpAll K F1 vs ds) : ItOk K (IteT K a vs.length) F1 (enums 0 ds) where
  go := fun i H hi s => by
    have hv : i < vs.length := by rw [daLen d, ← enums_len ds 0]; exact hi
    exact ⟨hv, vs, vs[i], (sqtSub s r), List.getElem?_eq_getElem hv⟩
  stop := fun H s => ⟨vs, (sqtSub s r), rfl, by rw [daLen d, enums_len]; exact Nat.le_refl _⟩
  yld := fun i H x H' F hi s1 s2 y => by
    obtain ⟨T, u, rfl, hT, rfl, y⟩ := y
    obtain ⟨z, g1, g2⟩ := daGet d (y vs ((sqtSub (s1.trans s2) r)))
    obtain ⟨p1, F', e, p2, p3, p4, rfl, p5⟩ := newPair (i := (i : Nat)) s2 hT (dpSub s1 g2)
    exact ⟨p1, F', _, p2, p3, p4, by rw [enums_get, g1]; simp, p5⟩
theorem rev_get {ds : List D} {i : Nat} (hi : i < ds.length) : ds.reverse[i]? = ds[ds.length - 1 - i]? := by
  rw [List.getElem?_reverse hi]
theorem itRev {a : Addr} {vs : List V} {ds : List D} (r : SqL K F1 a vs) (d : DpAll K F1 vs ds) : ItOk K (Itv K a vs.length) F1 ds.reverse where
  go := fun i H hi s => by
    have hv : i < vs.length := by rw [daLen d]; simpa using hi
    exact ⟨hv, vs, vs[vs.length - 1 - i]'(by omega), sqlSub s r, List.getElem?_eq_getElem (by omega)⟩
  stop := fun H s => by
    have e : ds.reverse.length = vs.length := by rw [List.length_reverse, daLen d]
    rw [e]
    exact Nat.le_refl _
  yld := fun i H x H' F hi s1 s2 y => by
    obtain ⟨e, y⟩ := y
    subst e
    obtain ⟨z, g1, g2⟩ := daGet d (y vs (sqlSub (s1.trans s2) r))
    exact ⟨.refl _, F, z, .refl F, s2, .refl, by rw [rev_get (by simpa using hi), ← daLen d]; exact g1, dpSub s1 g2⟩
theorem itRevT {a : Addr} {vs : List V} {ds : List D} (r : SqT K F1 a vs) (d : DpAll K F1 vs ds) : ItOk K (RT.ItvT K a vs.length) F1 ds.reverse where
  go := fun i H hi s => by
    have hv : i < vs.length := by rw [daLen d]; simpa using hi
    exact ⟨hv, vs, vs[vs.length - 1 - i]'(by omega), (sqtSub s r), List.getElem?_eq_getElem (by omega)⟩
  stop := fun H s => by
    have e : ds.reverse.length = vs.length := by rw [List.length_reverse, daLen d]
    rw [e]
    exact Nat.le_refl _
  yld := fun i H x H' F hi s1 s2 y => by
    obtain ⟨e, y⟩ := y
    subst e
    obtain ⟨z, g1, g2⟩ := daGet d (y vs ((sqtSub (s1.trans s2) r)))
    exact ⟨.refl _, F, z, .refl F, s2, .refl, by rw [rev_get (by simpa using hi), ← daLen d]; exact g1, dpSub s1 g2⟩
theorem itRng {lo c : Int} {n : Nat} : ItOk K (Itc lo c n) F1 ((List.range n).map fun (i : Nat) => .int (lo + i * c)) where
  go := fun i H hi s => by
    have q : i < n := by simpa using hi
    exact q
  stop := fun H s => by
    show n ≤ _
    simp
  yld := fun i H x H' F hi s1 s2 y => by
    obtain ⟨e, e2⟩ := y
    subst e e2
    have hi' : i < n := by simpa using hi
    exact ⟨.refl _, F, _, .refl F, s2, .refl, by simp [hi'], .int _⟩
theorem itRng1 {lo : Int} {n : Nat} : ItOk K (Itr lo n) F1 ((List.range n).map fun (i : Nat) => .int (lo + i)) where
  go := fun i H hi s => by
    have q : i < n := by simpa using hi
    exact q
  stop := fun H s => by
    show n ≤ _
    simp
  yld := fun i H x H' F hi s1 s2 y => by
    obtain ⟨e, e2⟩ := y
    subst e e2
    have hi' : i < n := by simpa using hi
    exact ⟨.refl _, F, _, .refl F, s2, .refl, by simp [hi'], .int _⟩
end
end Rc

/-! Targets, comprehensions, all expressions. -/
namespace Rc
open PySem PySem.Spec PyProof.Rows L2
/-! ### targets -/
theorem wipe_get {σ : St} : ∀ {vs : List Nat} {i : Nat}, (wipe σ vs)[i]? = if i ∈ vs then (if i < σ.length then some none else none) else σ[i]?
  | [], i => by simp [wipe]
  | v :: vs, i => by
    unfold wipe
    by_cases h : i = v
    · subst h
      by_cases hl : i < σ.length
      · rw [List.getElem?_set_self (by rw [wipe_length]; exact hl), if_pos (by simp), if_pos hl]
      · rw [List.getElem?_eq_none (by rw [List.length_set, wipe_length]; omega), if_pos (by simp), if_neg hl]
    · rw [List.getElem?_set_ne (Ne.symm h), wipe_get (vs := vs)]
      simp [h]
theorem wipe_set {σ : St} {vs : List Nat} {j : Nat} {v : Option V} (h : j ∈ vs) : wipe (σ.set j v) vs = wipe σ vs := by
  apply List.ext_getElem?
  intro i
  rw [wipe_get, wipe_get, List.length_set]
  by_cases hi : i ∈ vs
  · rw [if_pos hi, if_pos hi]
  · rw [if_neg hi, if_neg hi, List.getElem?_set_ne (by rintro rfl; exact hi h)]
theorem wipe_wipe {σ : St} {vs : List Nat} : wipe (wipe σ vs) vs = wipe σ vs := by
  apply List.ext_getElem?
  intro i
  rw [wipe_get, wipe_get, wipe_length]
  by_cases hi : i ∈ vs
  · rw [if_pos hi, if_pos hi]
  · rw [if_neg hi, if_neg hi]
def gNames : List Nat → TGs
  | [] => gNil
  | j :: js => gCons (gName j) (gNames js)
def gTg (K : PySem.W.Frag) : Tg → TG
  | .one j => gName j
  | .tup js => gTup K js.length (gNames js)
  | .nst js j => gTup K 2 (gCons (gTup K js.length (gNames js)) (gCons (gName j) gNil))
section
variable {X : Cx} {p : Str → Bool}
theorem pgNames (nd : X.N.Nodup) (hp : ∀ x, p x = true → Loc X.env.scope x ∧ (X.fn x = true ∨ X.env.scope.names.lookup x = some .local)) : ∀ {js : List Nat} {es : List Expr}, tgsB p X.N js es = true → PGs X es (gNames js)
  | [], [], _ => pgs_nil
  | [], _ :: _, h => absurd h Bool.false_ne_true
  | j :: js, [], h => absurd h Bool.false_ne_true
  | j :: js, e :: es, h => by
    cases e with
    | Name x q =>
      have h' : (nmB X.N j x && p x && tgsB p X.N js es) = true := h
      simp only [Bool.and_eq_true] at h'
      obtain ⟨⟨h1, h2⟩, h3⟩ := h'
      obtain ⟨g1, _, _⟩ := nmB_of h1
      obtain ⟨g2, g3⟩ := hp x h2
      exact pgs_cons (pg_name nd g1 g2 g3) (pgNames nd hp h3) (by rfl)
    | _ => exact absurd h Bool.false_ne_true
theorem tgsB_len {N : List Str} {env : Env} : ∀ {js : List Nat} {es : List Expr}, tgsB p N js es = true → (assignEach es env).length = js.length ∧ (assignEach es env).findIdx? (·.1) = none
  | [], [], _ => ⟨rfl, rfl⟩
  | [], _ :: _, h => absurd h Bool.false_ne_true
  | j :: js, [], h => absurd h Bool.false_ne_true
  | j :: js, e :: es, h => by
    cases e with
    | Name x q =>
      have h' : (nmB N j x && p x && tgsB p N js es) = true := h
      simp only [Bool.and_eq_true] at h'
      obtain ⟨g1, g2⟩ := tgsB_len (env := env) h'.2
      have e1 : assignEach (.Name x q :: es) env = (false, assign (.Name x q) env) :: assignEach es env := rfl
      rw [e1]
      refine ⟨by rw [List.length_cons, List.length_cons, g1], ?_⟩
      rw [List.findIdx?_cons, g2]
      rfl
    | _ => exact absurd h Bool.false_ne_true
theorem nstB {N : List Str} {js : List Nat} {j : Nat} {e : Expr} (h : tgB p N (.nst js j) e = true) : ∃ es x n m q r u, e = .Tuple [.Tuple es n q, .Name x r] m u ∧ tgsB p N js es = true ∧ nmB N j x = true ∧ p x = true := by
  cases e with
  | Tuple es m u =>
    rcases es with _ | ⟨e1, _ | ⟨e2, _ | ⟨_, _⟩⟩⟩
    · exact absurd h Bool.false_ne_true
    · exact absurd h (by cases e1 <;> exact Bool.false_ne_true)
    · cases e1 with
      | Tuple es n q =>
        cases e2 with
        | Name x r =>
          have h' : (tgsB p N js es && nmB N j x && p x) = true := h
          simp only [Bool.and_eq_true] at h'
          exact ⟨es, x, n, m, q, r, u, rfl, h'.1.1, h'.1.2, h'.2⟩
        | _ => exact absurd h Bool.false_ne_true
      | _ => exact absurd h Bool.false_ne_true
    · exact absurd h (by cases e1 <;> cases e2 <;> exact Bool.false_ne_true)
  | _ => exact absurd h Bool.false_ne_true
theorem pgTg (nd : X.N.Nodup) (hc : X.calm = true) (hp : ∀ x, p x = true → Loc X.env.scope x ∧ (X.fn x = true ∨ X.env.scope.names.lookup x = some .local)) {t : Tg} {e : Expr} (h : tgB p X.N t e = true) : PG X e (gTg X.K t) := by
  cases t with
  | one j =>
    cases e with
    | Name x q =>
      have h' : (nmB X.N j x && p x) = true := h
      rw [Bool.and_eq_true] at h'
      obtain ⟨g1, _, _⟩ := nmB_of h'.1
      obtain ⟨g2, g3⟩ := hp x h'.2
      exact pg_name nd g1 g2 g3
    | _ => exact absurd h Bool.false_ne_true
  | tup js =>
    cases e with
    | Tuple es n q =>
      have h' : tgsB p X.N js es = true := h
      obtain ⟨g1, g2⟩ := tgsB_len (env := X.env) h'
      exact pg_tup hc (pgNames nd hp h') g1 g2
    | _ => exact absurd h Bool.false_ne_true
  | nst js j =>
    obtain ⟨es, x, n, m, q, r, u, rfl, h1, h2, h3⟩ := nstB h
    obtain ⟨g1, g2⟩ := tgsB_len (env := X.env) h1
    obtain ⟨g3, _, _⟩ := nmB_of h2
    obtain ⟨g4, g5⟩ := hp x h3
    exact pg_tup hc (pgs_cons (pg_tup hc (pgNames nd hp h1) g1 g2) (pgs_cons (pg_name nd g3 g4 g5) pgs_nil (by rfl)) (by rfl)) rfl rfl
end
theorem tgOwns_ix {p : Str → Bool} {N : List Str} : ∀ {js : List Nat} {es : List Expr}, tgsB p N js es = true → (tgOwns js es).map (·.2) = js
  | [], [], _ => rfl
  | [], _ :: _, h => absurd h Bool.false_ne_true
  | j :: js, [], h => absurd h Bool.false_ne_true
  | j :: js, e :: es, h => by
    cases e with
    | Name x q =>
      have h' : (nmB N j x && p x && tgsB p N js es) = true := h
      simp only [Bool.and_eq_true] at h'
      show j :: (tgOwns js es).map (·.2) = j :: js
      rw [tgOwns_ix h'.2]
    | _ => exact absurd h Bool.false_ne_true
theorem tgOwn_ix {p : Str → Bool} {N : List Str} {t : Tg} {e : Expr} (h : tgB p N t e = true) : (tgOwn t e).map (·.2) = tgs t := by
  cases t with
  | one j =>
    cases e with
    | Name x q => rfl
    | _ => exact absurd h Bool.false_ne_true
  | tup js =>
    cases e with
    | Tuple es n q => exact tgOwns_ix h
    | _ => exact absurd h Bool.false_ne_true
  | nst js j =>
    obtain ⟨es, x, n, m, q, r, u, rfl, h1, h2, h3⟩ := nstB h
    show (tgOwns js es ++ [(x, j)]).map (·.2) = js ++ [j]
    rw [List.map_append, tgOwns_ix h1]
    rfl
section
variable {K : PySem.W.Frag} {H0 : Zn} {F0 F H : Hp}
theorem setAllGo : ∀ {js : List Nat} {ds : List D} {vs : List V} {σ : St} {ε : Ev} {Q : St → Hp → Prop} (all : List Nat), (∀ j ∈ js, j ∈ all) → Rep K H0 F0 F H σ ε → DpAll K F vs ds → ds.length = js.length →
    (∀ σ', Rep K H0 F0 F H σ' (setAll js ds ε) → wipe σ' all = wipe σ all → Q σ' H) → gNames js vs σ H Q
  | [], ds, vs, σ, ε, Q, all, _, R, d, hl, k => by
    have : ds = [] := List.eq_nil_of_length_eq_zero hl
    subst this
    cases d
    exact ⟨rfl, k σ R rfl⟩
  | j :: js, [], vs, σ, ε, Q, all, _, R, d, hl, k => by cases hl
  | j :: js, x :: ds, vs, σ, ε, Q, all, hm, R, d, hl, k => by
    cases d with
    | cons a c =>
      refine ⟨_, _, rfl, setAllGo (ε := pv ε j (some (.d x))) all (fun i hi => hm i (by simp [hi])) (R.store (x := .d x) a j) c (by simpa using hl) fun σ' R' e => ?_⟩
      exact k σ' R' (e.trans (wipe_set (hm j (by simp))))
theorem tgGo {t : Tg} {x : D} {v : V} {σ : St} {ε : Ev} {k : Ev → Prop} {Q : St → Hp → Prop} (R : Rep K H0 F0 F H σ ε) (d : Dp K F v x) (w : tgW t x ε k)
    (kk : ∀ σ' ε', Rep K H0 F0 F H σ' ε' → wipe σ' (tgs t) = wipe σ (tgs t) → k ε' → Q σ' H) : gTg K t v σ H Q := by
  cases t with
  | one j => exact kk _ _ (R.store (x := .d x) d j) (wipe_set (by simp [tgs])) w
  | tup js =>
    cases x with
    | tuple xs =>
      obtain ⟨a, vs, rfl, r, da⟩ := dpTup d
      obtain ⟨hl, w⟩ := w
      exact ⟨a, vs, rfl, (sqtSub R.fh r), by rw [daLen da, hl], setAllGo js (fun _ h => h) R da hl fun σ' R' e => kk σ' _ R' e w⟩
    | _ => exact w.elim
  | nst js j =>
    cases x with
    | tuple zs =>
      rcases zs with _ | ⟨z, _ | ⟨y, _ | ⟨_, _⟩⟩⟩
      · exact w.elim
      · exact absurd w (by cases z <;> exact id)
      · cases z with
        | tuple xs =>
          obtain ⟨a, us, rfl, r, da⟩ := dpTup d
          cases da with
          | cons d1 dr =>
            cases dr with
            | cons d2 dn =>
              cases dn
              obtain ⟨a1, vs, rfl, r1, da1⟩ := dpTup d1
              obtain ⟨hl, w⟩ := w
              refine ⟨a, _, rfl, sqtSub R.fh r, rfl, _, _, rfl, a1, vs, rfl, sqtSub R.fh r1, by rw [daLen da1, hl], ?_⟩
              refine setAllGo (js ++ [j]) (fun i hi => List.mem_append_left _ hi) R da1 hl fun σ' R' e => ?_
              exact ⟨_, _, rfl, rfl, kk _ _ (R'.store (x := .d y) d2 j) ((wipe_set (List.mem_append_right _ (List.mem_singleton.mpr rfl))).trans e) w⟩
        | _ => exact w.elim
      · exact absurd w (by cases z <;> exact id)
    | _ => exact w.elim
theorem blind_d : ∀ {ε : Ev} {j : Nat} {y : Val}, gv (blind ε) j = some y → ∃ x, y = .d x ∧ gv ε j = some (.d x)
  | [], _, _, h => by cases h
  | c :: r, 0, y, h => by
    cases c with
    | none => cases h
    | some v =>
      cases v with
      | d x => exact ⟨x, (Option.some.inj h).symm, rfl⟩
      | _ => cases h
  | c :: r, j + 1, y, h => by
    cases c with
    | none => exact blind_d (ε := r) (j := j) h
    | some v =>
      cases v with
      | d x => exact blind_d (ε := r) (j := j) h
      | _ => exact blind_d (ε := r) (j := j) h
theorem blind_len : ∀ {ε : Ev}, (blind ε).length = ε.length
  | [] => rfl
  | c :: r => by
    cases c with
    | none => simp [blind, blind_len (ε := r)]
    | some v => cases v <;> simp [blind, blind_len (ε := r)]
theorem wipeE_gv {ε : Ev} : ∀ {js : List Nat} {j : Nat} {y : Val}, gv (wipeE ε js) j = some y → gv ε j = some y ∧ j ∉ js
  | [], _, _, h => ⟨h, by simp⟩
  | i :: js, j, y, h => by
    unfold wipeE at h
    rw [gv_pv] at h
    split at h
    · split at h <;> cases h
    · rename_i hne
      obtain ⟨g1, g2⟩ := wipeE_gv h
      exact ⟨g1, by simp [hne, g2]⟩
theorem wipeE_len {ε : Ev} : ∀ {js : List Nat}, (wipeE ε js).length = ε.length
  | [] => rfl
  | i :: js => by unfold wipeE; rw [pv_len, wipeE_len]
/-- where a comprehension's turn begins -/
theorem Rep.turn {σ : St} {ε : Ev} {js : List Nat} {F1 H' F2 : Hp} (R : Rep K H0 F0 F1 H σ ε) (s : Sub F1 F2) (g : Sub F2 H') : Rep K (Zn.of H') F2 F2 H' (wipe σ js) (wipeE (blind ε) js) where
  fh := g
  ff := .refl _
  h0 := .refl _
  fr := fun a o h => .inl h
  len := by rw [wipe_length, wipeE_len, blind_len]; exact R.len
  dat := fun j x h => by
    obtain ⟨g1, g2⟩ := wipeE_gv h
    obtain ⟨y, e, g3⟩ := blind_d g1
    cases e
    obtain ⟨v, e1, d1⟩ := R.dat j x g3
    exact ⟨v, by rw [wipe_get, if_neg g2]; exact e1, dpSub s d1⟩
  own := fun j xs h => by
    obtain ⟨g1, g2⟩ := wipeE_gv h
    obtain ⟨y, e, g3⟩ := blind_d g1
    cases e
  uni := fun i j xs ys p h => by
    obtain ⟨g1, g2⟩ := wipeE_gv h
    obtain ⟨y, e, g3⟩ := blind_d g1
    cases e
  lnt := fun j xs h => by
    obtain ⟨g1, g2⟩ := wipeE_gv h
    obtain ⟨y, e, g3⟩ := blind_d g1
    cases e
  one := fun i j xs ys p h => by
    obtain ⟨g1, g2⟩ := wipeE_gv h
    obtain ⟨y, e, g3⟩ := blind_d g1
    cases e
  ll := fun _ h => h.elim
  dcs := .nil fun j v h => by
    obtain ⟨g1, g2⟩ := wipeE_gv h
    obtain ⟨y, e, g3⟩ := blind_d g1
    cases e
    rfl
end
section
variable {fns : List FnI} {cls : List Str} {N : List Str} {C : Nat → Addr} {Φ : Fs} {k : Nat} {X : Cx} {b : Bd} {sc : Scope}
theorem Cok.blk (ok : Cok fns cls N C Φ k X sc b.W) (s : Shared) (H : Hp) (scope : Scope) (D : Addr) (cl : List (Str × Addr)) (fp : List Addr) :
    Cok fns cls N C Φ k (X.blk s H scope (compEnvC scope cl D X.env) fp) (relS scope sc) (fun _ _ _ _ => False) where
  room := ok.room
  seer := ok.seer
  tree := ok.tree
  top := ok.top
  nd := ok.nd
  eN := ok.eN
  esc := by rw [← ok.esc]; rfl
  calm := ok.calm
  tk := takes0
  blt := ok.blt
  exc := ok.exc
  xf := ok.xf
  ar := ok.ar
  gcon := ok.gcon
  callee := ok.callee
theorem cGo {cE : IE} {ε2 : Ev} {q : Bool → Ev → Prop} (w : if isNil cE = true then q true ε2 else wE Φ cE ε2 (fun _ _ => False) (kB q)) :
    (if isNil cE = true then kB q (.d (.bool true)) ε2 else wE Φ cE ε2 (fun _ _ => False) (kB q)) := w
/-- what a comprehension asks behind its walk's beginning -/
def lcAsk (g : TG) (tt : TT) (te : TE) (vs : List Nat) (σ : St) (Q : VK) (J : It) (H1 : Hp) : Prop := ∀ D, H1 D = none → ∃ W : Nat → Nat → Hp → Prop, (∃ m, W 0 m (upd H1 D (.lst []))) ∧ ∀ i m H, W i m H →
  (J.stop i H ∧ Q (.ref D) H) ∨ (J.go i H ∧ ∃ Nx : Hp → Prop, (∀ H', Nx H' → ∃ m', m' < m ∧ W (i + 1) m' H') ∧ ∀ x H', J.yld i H x H' → g x (wipe σ vs) H' fun σ2 H2 => wipe σ2 vs = wipe σ vs ∧ tt σ2 H2 fun b H3 =>
    if b = true then te σ2 H3 fun y H4 => ∃ acc, H4 D = some (.lst acc) ∧ acc.length < sizeLine ∧ Nx (upd H4 D (.lst (acc ++ [y]))) else Nx H3)
theorem lcBody {K : PySem.W.Frag} {t : Tg} {cE eE : IE} {σ : St} {H1 F1 : Hp} {Q : VK} {ε1 : Ev} {J : It} {ds : List D} {G : List D → Prop} (R1 : Rep K b.H0 b.F0 F1 H1 σ ε1) (J1 : ItOk K J F1 ds)
    (q1 : lcW t ε1 (fun ε2 k => if isNil cE = true then k true ε2 else wE Φ cE ε2 (fun _ _ => False) (kB k)) (fun ε2 k => wE Φ eE ε2 (fun _ _ => False) (kD k)) ds [] G)
    (kk : ∀ ys H' F' x, Same H1 H' → Sub F1 F' → Rep K b.H0 b.F0 F' H' σ ε1 → VAt K b.H0 F' H' σ ε1 x (.own ys) → G ys → Q x H') :
    lcAsk (gTg K t) (fun σ H q => ∃ H0 F0, rdT K ⟨b.C, fun _ _ _ _ => False, H0, F0⟩ (fun ε Xp r => if isNil cE = true then r (.d (.bool true)) ε else wE Φ cE ε Xp r) σ H q)
      (fun σ H q => ∃ H0 F0, rdD K ⟨b.C, fun _ _ _ _ => False, H0, F0⟩ (wE Φ eE) σ H q) (tgs t) σ Q J H1 := by
  intro D hD
  refine ⟨fun i m H' => m = ds.length - i ∧ i ≤ ds.length ∧ ∃ F' acc vs, Sub F1 F' ∧ Same H1 H' ∧ Sub F' H' ∧ New F1 F' H1 ∧ H' D = some (.lst vs) ∧ DpAll K F' vs acc ∧ F' D = none ∧
    lcW t ε1 (fun ε2 k => if isNil cE = true then k true ε2 else wE Φ cE ε2 (fun _ _ => False) (kB k)) (fun ε2 k => wE Φ eE ε2 (fun _ _ => False) (kD k)) (ds.drop i) acc G,
    ⟨ds.length, by simp, Nat.zero_le _, F1, [], [], .refl _, same_upd hD, R1.fh.upd (R1.fh.none hD), .refl, upd_same, .nil, R1.fh.none hD, q1⟩, ?_⟩
  rintro i m H' ⟨rfl, hi, F', acc, vs, a1, a2, a3, a4, a5, a6, a7, wl⟩
  by_cases hlt : i < ds.length
  · refine .inr ⟨J1.go i H' hlt (a1.trans a3), fun H'' => ∃ F'' acc vs, Sub F1 F'' ∧ Same H1 H'' ∧ Sub F'' H'' ∧ New F1 F'' H1 ∧ H'' D = some (.lst vs) ∧ DpAll K F'' vs acc ∧ F'' D = none ∧
      lcW t ε1 (fun ε2 k => if isNil cE = true then k true ε2 else wE Φ cE ε2 (fun _ _ => False) (kB k)) (fun ε2 k => wE Φ eE ε2 (fun _ _ => False) (kD k)) (ds.drop (i + 1)) acc G,
      fun H'' q => ⟨ds.length - (i + 1), by omega, rfl, hlt, q⟩, fun x H2 y => ?_⟩
    obtain ⟨b1, F2, d, b2, b3, b4, b5, b6⟩ := J1.yld i H' x H2 F' hlt a1 a3 y
    have ed : ds.drop i = d :: ds.drop (i + 1) := by
      rw [List.drop_eq_getElem_cons hlt]
      have : ds[i] = d := by
        rw [List.getElem?_eq_getElem hlt] at b5
        exact Option.some.inj b5
      rw [this]
    rw [ed] at wl
    have c0 : H2 D = some (.lst vs) := b1 _ _ a5
    have R2 : Rep K (Zn.of H2) F2 F2 H2 (wipe σ (tgs t)) (wipeE (blind ε1) (tgs t)) := R1.turn (a1.trans b2) b3
    have nF : ∀ {F4 : Hp}, New F2 F4 H2 → F4 D = none ∧ New F1 F4 H1 := fun {F4} n4 => by
      have n2 : F2 D = none := by
        cases z : F2 D with
        | none => rfl
        | some u =>
          rcases b4 D u z with q | q
          · rw [a7] at q; cases q
          · rw [a5] at q; cases q
      refine ⟨?_, fun a o h => ?_⟩
      · cases z : F4 D with
        | none => rfl
        | some u =>
          rcases n4 D u z with q | q
          · rw [n2] at q; cases q
          · rw [c0] at q; cases q
      · rcases n4 a o h with q | q
        · rcases b4 a o q with q | q
          · exact a4 a o q
          · exact .inr (Same.free a2 q)
        · exact .inr (Same.free (a2.trans b1) q)
    refine tgGo R2 b6 wl fun σ2 ε2 R3 ew w2 => ⟨by rw [ew, wipe_wipe], ?_⟩
    refine ⟨Zn.of H2, F2, ε2, F2, fun _ _ => False, _, R3, cGo w2, (fun _ _ _ _ _ _ z => z.elim), fun c ε3 H3 F3 s3' f3 R4 q3 => ?_⟩
    · cases c with
      | false =>
        rw [if_neg Bool.false_ne_true] at q3 ⊢
        have s3 : Same H2 H3 := SubZ.same (G0 := H2) s3'
        obtain ⟨n1, n2⟩ := nF (fun a o h => R4.fr a o h)
        exact ⟨F3, acc, vs, (a1.trans b2).trans f3, (a2.trans b1).trans s3, R4.fh, n2, s3 _ _ c0, daSub (b2.trans f3) a6, n1, q3⟩
      | true =>
        rw [if_pos rfl] at q3 ⊢
        have s3 : Same H2 H3 := SubZ.same (G0 := H2) s3'
        refine ⟨Zn.of H2, F2, ε3, F3, fun _ _ => False, _, R4, q3, (fun _ _ _ _ _ _ z => z.elim), fun z ε4 H4 F4 v s4' f4 R5 d5 q5 => ?_⟩
        have s4 : Same H3 H4 := SubZ.same (G0 := H2) s4'
        obtain ⟨n1, n2⟩ := nF (fun a o h => R5.fr a o h)
        have c4 : H4 D = some (.lst vs) := s4 _ _ (s3 _ _ c0)
        have da : DpAll K F4 vs acc := daSub ((b2.trans f3).trans f4) a6
        refine ⟨vs, c4, by rw [line24, daLen da]; exact q5.1, F4, acc ++ [z], vs ++ [v], ((a1.trans b2).trans f3).trans f4, fun a o h => ?_, R5.fh.upd n1, n2, upd_same, daApp da (.cons d5 .nil), n1, q5.2⟩
        rw [upd_ne (ne_of_none h hD)]
        exact s4 _ _ (s3 _ _ (b1 _ _ (a2 _ _ h)))
  · have e : i = ds.length := by omega
    subst e
    refine .inl ⟨J1.stop H' (a1.trans a3), ?_⟩
    rw [List.drop_length] at wl
    exact kk acc H' F' (.ref D) a2 a1 (R1.grow a2 a1 a3 a4) ⟨D, vs, rfl, a5, a6, a7, R1.no hD, R1.offNew hD⟩ wl
/-- a comprehension's reading -/
theorem lcGo {K : PySem.W.Frag} {t : Tg} {itE cE eE : IE} {σ : St} {H : Hp} {Q : VK} (h : rdE K b (wE Φ (.lc t itE cE eE)) σ H Q) :
    tLc (rdI K b (wE Φ itE)) (gTg K t)
      (fun σ H q => ∃ H0 F0, rdT K ⟨b.C, fun _ _ _ _ => False, H0, F0⟩ (fun ε Xp r => if isNil cE = true then r (.d (.bool true)) ε else wE Φ cE ε Xp r) σ H q)
      (fun σ H q => ∃ H0 F0, rdD K ⟨b.C, fun _ _ _ _ => False, H0, F0⟩ (wE Φ eE) σ H q) (tgs t) σ H Q := by
  obtain ⟨ε, F, Xp, Qp, R, w, ex, kk⟩ := h
  refine ⟨ε, F, Xp, _, R, w, ex, fun ds ε1 H1 F1 J s1 f1 R1 J1 q1 => ?_⟩
  exact lcBody R1 J1 q1 fun ys H' F' x t1 g1 R2 a2 q2 => kk (.own ys) ε1 H' F' x (s1.trans (.of t1)) (f1.trans g1) R2 a2 q2
end
end Rc

/-! More expressions: in, chains, count, displays of texts asked at once, reversed ranges. -/
namespace Rc
open PySem PySem.Spec PyProof.Rows L2
theorem flat_dp {K : PySem.W.Frag} {F : Hp} {v : V} {d : D} (h : Dp K F v d) (f : flatD d = true) : flatV v = true := by
  cases h <;> first | rfl | exact absurd f Bool.false_ne_true
theorem eqV_dp {K : PySem.W.Frag} {F : Hp} {y x : V} {d e : D} (hy : Dp K F y d) (hx : Dp K F x e) (fd : flatD d = true) (fe : flatD e = true) : eqV y x = PyData.eqv d e := by
  cases hy <;> first
    | exact absurd fd Bool.false_ne_true
    | (cases hx <;> first | exact absurd fe Bool.false_ne_true | rfl)
theorem inV_da {K : PySem.W.Frag} {F : Hp} {x : V} {e : D} (hx : Dp K F x e) (fe : flatD e = true) : ∀ {vs : List V} {ds : List D}, DpAll K F vs ds → ds.all flatD = true → vs.all flatV = true ∧ inV x vs = ds.any fun z => PyData.eqv z e
  | _, _, .nil, _ => ⟨rfl, rfl⟩
  | _, _, .cons (v := v) (d := d) a b, h => by
    rw [List.all_cons, Bool.and_eq_true] at h
    obtain ⟨h1, h2⟩ := inV_da hx fe b h.2
    unfold inV at h2 ⊢
    rw [List.all_cons, flat_dp a h.1, h1, List.any_cons, List.any_cons, eqV_dp a hx h.1 fe, h2]
    exact ⟨rfl, rfl⟩
def rInW (K : PySem.W.Frag) (neg : Bool) : R2 := fun x y H Q => ∃ d e Qv, Dp K H x d ∧ Dp K H y e ∧ inW d e Qv ∧ ∀ c, Qv c → Q (.bl (if neg = true then !c else c)) H
theorem opIn {X : Cx} (hu : X.A.units + 65 < cLine) (neg : Bool) : OpR X (compareOp (if neg = true then .NotIn else .In)) (rInW X.K neg) := by
  intro pins s σ H x y v u Q I rx ry ⟨d, e, Qv, hx, hy, w, k⟩
  cases e with
  | list ys =>
    have w' : SeqAt.shaped d = true ∧ SeqAt.shaped (.list ys) = true ∧ Qv (ys.any fun z => PyData.eqv z d) := by
      cases d <;> exact w
    cases neg with
    | true => exact op_notInD hu pins s σ H x y v u Q I rx ry ⟨d, ys, dpOut hx, dpOut hy, w'.1, w'.2.1, k _ w'.2.2⟩
    | false => exact op_inD hu pins s σ H x y v u Q I rx ry ⟨d, ys, dpOut hx, dpOut hy, w'.1, w'.2.1, k _ w'.2.2⟩
  | tuple ys =>
    by_cases tp : ∃ zs, d = .tuple zs
    · obtain ⟨zs, rfl⟩ := tp
      have w' : SeqAt.shaped (.tuple zs) = true ∧ SeqAt.shaped (.tuple ys) = true ∧ Qv (ys.any fun z => PyData.eqv z (.tuple zs)) := w
      obtain ⟨as, r1⟩ := Dp.reads I _ x v (dpOut hx) rx
      obtain ⟨bs, r2⟩ := Dp.reads I (.tuple ys) y u (dpOut hy) ry
      cases neg with
      | true => exact SeqAt.notIn_tuple_reads r2 r1 (SeqAt.canLay_of_shaped w'.2.1) (SeqAt.canLay_of_shaped w'.1) (room_in_shaped w'.1 hu) ⟨.bl _, H, I, rfl, k _ w'.2.2⟩
      | false => exact SeqAt.in_tuple_reads r2 r1 (SeqAt.canLay_of_shaped w'.2.1) (SeqAt.canLay_of_shaped w'.1) (room_in_shaped w'.1 hu) ⟨.bl _, H, I, rfl, k _ w'.2.2⟩
    have w' : flatD d = true ∧ ys.all flatD = true ∧ Qv (ys.any fun z => PyData.eqv z d) := by
      cases d <;> first | exact w | exact absurd ⟨_, rfl⟩ tp
    obtain ⟨a, vs, rfl, r, da⟩ := dpTup hy
    obtain ⟨h1, h2⟩ := inV_da hx w'.1 da w'.2.1
    cases neg with
    | true => exact op_notIn_seq pins s σ H x _ v u Q I rx ry ⟨a, vs, rfl, .inr r, flat_dp hx w'.1, h1, by rw [if_pos rfl, h2]; exact k _ w'.2.2⟩
    | false => exact op_in_seq pins s σ H x _ v u Q I rx ry ⟨a, vs, rfl, .inr r, flat_dp hx w'.1, h1, by rw [if_neg Bool.false_ne_true, h2]; exact k _ w'.2.2⟩
  | str j =>
    cases d with
    | str i =>
      cases dpStr hx; cases dpStr hy
      cases neg with
      | true => exact op_notin_str pins s σ H _ _ v u Q I rx ry ⟨i, j, rfl, rfl, k _ w⟩
      | false => exact op_in_str pins s σ H _ _ v u Q I rx ry ⟨i, j, rfl, rfl, k _ w⟩
    | _ => exact w.elim
  | _ => cases d <;> exact w.elim
section
variable {fns : List FnI} {cls : List Str} {N : List Str} {C : Nat → Addr} {Φ : Fs} {k : Nat} {X : Cx} {b : Bd} {sc : Scope}
theorem noBehind {op : CmpOp} {r : Expr} (h : noSet r = true) : behindInMarks op r = false := by
  cases r <;> first | rfl | exact absurd h Bool.false_ne_true
theorem eInn (ok : Cok fns cls N C Φ k X sc b.W) {neg : Bool} {i j : IE} {l r : Expr} {p : Pos} (hs : noSet r = true) (h1 : PE X l (rdP X.K b (fun ε Xp q => pkW i ε (fun T => wE Φ i ε Xp T) q))) (h2 : PE X r (rdP X.K b (fun ε Xp q => pkW j ε (fun T => wE Φ j ε Xp T) q))) :
    PE X (.Compare l [if neg = true then .NotIn else .In] [r] p) (rdE X.K b (wE Φ (.inn neg i j))) ∧ PT X (.Compare l [if neg = true then .NotIn else .In] [r] p) (rdT X.K b (wE Φ (.inn neg i j))) := by
  have hu : X.A.units + 65 < cLine := by have := ok.room.un; omega
  refine ⟨peImp (pe_cmpR (opIn hu neg) h1 h2 (noBehind hs)) fun σ H Q ⟨ε, F, Xp, Qp, R, w, ex, kk⟩ => ?_,
    ptImp (pt_cmpR (opIn hu neg) h1 h2 (noBehind hs)) fun σ H Q ⟨ε, F, Xp, Qp, R, w, ex, kk⟩ => ?_⟩
  · exact ⟨ε, F, Xp, _, R, w, ex, fun d ε1 H1 F1 x s1 f1 R1 d1 q1 => ⟨ε1, F1, Xp, _, R1, q1, ex.mono s1, fun e ε2 H2 F2 y s2 f2 R2 d2 q2 =>
      ⟨d, e, _, (PAt.mono f2 s2 d1).dp R2.fh, d2.dp R2.fh, q2, fun c q => kk (.d (.bool _)) ε2 H2 F2 _ (s1.trans s2) (f1.trans f2) R2 (Dp.bl _) q⟩⟩⟩
  · exact ⟨ε, F, Xp, _, R, w, ex, fun d ε1 H1 F1 x s1 f1 R1 d1 q1 => ⟨ε1, F1, Xp, _, R1, q1, ex.mono s1, fun e ε2 H2 F2 y s2 f2 R2 d2 q2 =>
      ⟨d, e, _, (PAt.mono f2 s2 d1).dp R2.fh, d2.dp R2.fh, q2, fun c q => ⟨_, rfl, kk _ ε2 H2 F2 (s1.trans s2) (f1.trans f2) R2 q⟩⟩⟩⟩
theorem lastMk {o o' : CmpOp} {m r : Expr} (h1 : o' ≠ .In) (h2 : o' ≠ .NotIn) : lastMarks [o, o'] [m, r] = false := nomark _ h1 h2
theorem eCmp2 (ok : Cok fns cls N C Φ k X sc b.W) {o o' : CmpOp} {i j l : IE} {x y z : Expr} {p : Pos} (n1 : o' ≠ .In) (n2 : o' ≠ .NotIn) (h1 : PE X x (rdE X.K b (wE Φ i))) (h2 : PE X y (rdE X.K b (wE Φ j))) (h3 : PE X z (rdE X.K b (wE Φ l))) :
    PE X (.Compare x [o, o'] [y, z] p) (rdE X.K b (wE Φ (.cmp2 o o' i j l))) ∧ PT X (.Compare x [o, o'] [y, z] p) (rdT X.K b (wE Φ (.cmp2 o o' i j l))) := by
  refine ⟨peImp (pe_chain (opCmp ok.room.units o) (opCmp ok.room.units o') (peD h1) (peD h2) (peD h3) (lastMk n1 n2)) fun σ H Q ⟨ε, F, Xp, Qp, R, w, ex, kk⟩ => ?_,
    ptImp (pt_chain (opCmp ok.room.units o) (opCmp ok.room.units o') (peD h1) (peD h2) (peD h3) (lastMk n1 n2)) fun σ H Q ⟨ε, F, Xp, Qp, R, w, ex, kk⟩ => ?_⟩
  · refine ⟨ε, F, Xp, _, R, w, ex, fun d ε1 H1 F1 x s1 f1 R1 d1 q1 => ⟨ε1, F1, Xp, _, R1, q1, ex.mono s1, fun e ε2 H2 F2 y s2 f2 R2 d2 q2 => ⟨d, e, _, dpSub R2.fh (dpSub f2 d1), dpSub R2.fh d2, q2, fun c q3 => ⟨c, rfl, ?_⟩⟩⟩⟩
    cases c with
    | false => exact kk (.d (.bool false)) ε2 H2 F2 _ (s1.trans s2) (f1.trans f2) R2 (Dp.bl _) q3
    | true => exact ⟨ε2, F2, Xp, _, R2, q3, (ex.mono s1).mono s2, fun f ε3 H3 F3 u s3 f3 R3 d3 q4 => ⟨e, f, _, dpSub R3.fh (dpSub f3 d2), dpSub R3.fh d3, q4, fun c q =>
        kk (.d (.bool c)) ε3 H3 F3 _ ((s1.trans s2).trans s3) ((f1.trans f2).trans f3) R3 (Dp.bl _) q⟩⟩
  · refine ⟨ε, F, Xp, _, R, w, ex, fun d ε1 H1 F1 x s1 f1 R1 d1 q1 => ⟨ε1, F1, Xp, _, R1, q1, ex.mono s1, fun e ε2 H2 F2 y s2 f2 R2 d2 q2 => ⟨d, e, _, dpSub R2.fh (dpSub f2 d1), dpSub R2.fh d2, q2, fun c q3 => ⟨c, rfl, ?_⟩⟩⟩⟩
    cases c with
    | false => exact ⟨_, rfl, kk false ε2 H2 F2 (s1.trans s2) (f1.trans f2) R2 q3⟩
    | true => exact ⟨ε2, F2, Xp, _, R2, q3, (ex.mono s1).mono s2, fun f ε3 H3 F3 u s3 f3 R3 d3 q4 => ⟨e, f, _, dpSub R3.fh (dpSub f3 d2), dpSub R3.fh d3, q4, fun c q =>
        ⟨_, rfl, kk c ε3 H3 F3 ((s1.trans s2).trans s3) ((f1.trans f2).trans f3) R3 q⟩⟩⟩
theorem attrBase {o : Expr} (h : noAttr o = true) {name : Str} {env : Env} : attributeBase o name env (eval o env) = eval o env := by
  cases o <;> first | rfl | exact absurd h Bool.false_ne_true
theorem eCnt {i j : IE} {o e : Expr} {p q : Pos} (h0 : noAttr o = true) (hl : (q.endLine == p.line) = true) (he : plainE e = true) (h1 : PE X o (rdP X.K b (fun ε Xp q => pkW i ε (fun T => wE Φ i ε Xp T) q))) (h2 : PE X e (rdE X.K b (wE Φ j))) :
    PE X (.Call (.Attribute o "count" q) [e] [] p) (rdE X.K b (wE Φ (.cnt i j))) := by
  refine peImp (pe_bm (apos := q) (cpos := p) PySem.F.plainAttrs_list PySem.F.slot_list_count PySem.F.type_list_count mt_lcount h1 (pa_cons (peD h2) pa_nil (starOf he)) (attrBase h0) (by rw [starOf he]; rfl) hl (starOf he) rfl) fun σ H Q ⟨ε, F, Xp, Qp, R, w, ex, kk⟩ => ?_
  refine ⟨ε, F, Xp, _, R, w, ex, fun d ε1 H1 F1 x s1 f1 R1 d1 q1 => ?_⟩
  obtain ⟨tl, q1⟩ := q1
  have ty : tyV X.K "list" x H1 := by
    rcases d1 with d1 | ⟨r, vs, ys, rfl, rfl, h3, h4⟩
    · cases d with
      | list xs =>
        obtain ⟨a, vs, rfl, r1, a1⟩ := dpLst d1
        exact .inl ⟨rfl, vs, sqlSub R1.fh r1⟩
      | _ => cases tl
    · exact .inl ⟨rfl, vs, .inl (.inl h3)⟩
  refine ⟨ty, ε1, F1, Xp, _, R1, q1, ex.mono s1, fun e ε2 H2 F2 y s2 f2 R2 d2 q2 => ?_⟩
  have d3 := PAt.mono f2 s2 d1
  cases d with
  | list xs =>
    cases e with
    | int n =>
      obtain ⟨ns, hn, q3⟩ := q2
      cases dpInt d2
      have fin : Q (.int (ns.count n : Nat)) H2 := kk (.d (.int _)) ε2 H2 F2 _ (s1.trans s2) (f1.trans f2) R2 (Dp.int _) q3
      rcases d3 with d3 | ⟨r, vs, ys, rfl, e2, h3, h4⟩
      · obtain ⟨a, vs, rfl, r1, a1⟩ := dpLst d3
        have := asInts_of a1 hn
        subst this
        exact ⟨a, ns, n, rfl, rfl, sqlSub R2.fh r1, fin⟩
      · cases e2
        have := asInts_of h4.1 hn
        subst this
        exact ⟨r, ns, n, rfl, rfl, .inl (.inl h3), fin⟩
    | _ => exact q2.elim
  | _ => exact q2.elim
def cV : D → V
  | .bool b => .bl b
  | .int i => .int i
  | .str x => .str x
  | _ => .non
theorem eIdx (ok : Cok fns cls N C Φ k X sc b.W) {i j : IE} {o e : Expr} {p q : Pos} (h0 : noAttr o = true) (hl : (q.endLine == p.line) = true) (he : plainE e = true) (h1 : PE X o (rdP X.K b (fun ε Xp q => pkW i ε (fun T => wE Φ i ε Xp T) q))) (h2 : PE X e (rdE X.K b (wE Φ j))) :
    PE X (.Call (.Attribute o "index" q) [e] [] p) (rdE X.K b (wE Φ (.idx i j))) := by
  refine peImp (pe_bm (apos := q) (cpos := p) PySem.F.plainAttrs_list PySem.F.slot_list_index PySem.F.type_list_index (mt_indexD (by have := ok.room.un; omega)) h1 (pa_cons (peD h2) pa_nil (starOf he)) (attrBase h0) (by rw [starOf he]; rfl) hl (starOf he) rfl) fun σ H Q ⟨ε, F, Xp, Qp, R, w, ex, kk⟩ => ?_
  refine ⟨ε, F, Xp, _, R, w, ex, fun d ε1 H1 F1 x s1 f1 R1 d1 q1 => ?_⟩
  obtain ⟨tl, q1⟩ := q1
  have ty : tyV X.K "list" x H1 := by
    rcases d1 with d1 | ⟨r, vs, ys, rfl, rfl, h3, h4⟩
    · cases d with
      | list xs =>
        obtain ⟨a, vs, rfl, r1, a1⟩ := dpLst d1
        exact .inl ⟨rfl, vs, sqlSub R1.fh r1⟩
      | _ => cases tl
    · exact .inl ⟨rfl, vs, .inl (.inl h3)⟩
  refine ⟨ty, ε1, F1, Xp, _, R1, q1, ex.mono s1, fun e ε2 H2 F2 y s2 f2 R2 d2 q2 => ?_⟩
  have d3 := PAt.mono f2 s2 d1
  cases d with
  | list xs =>
    obtain ⟨sh1, sh2, j, z, hj, hz, hno, q3⟩ := q2
    have dl : Dp X.K H2 x (.list xs) := PAt.dp R2.fh d3
    obtain ⟨a, vs, rfl, _, _⟩ := dpLst dl
    exact ⟨a, y, e, xs, j, z, rfl, rfl, dpOut dl, dpOut (dpSub R2.fh d2), sh1, sh2, hj, hz, hno, kk (.d (.int _)) ε2 H2 F2 _ (s1.trans s2) (f1.trans f2) R2 (Dp.int _) q3⟩
  | _ => cases tl
theorem cV_dp {K : PySem.W.Frag} {F : Hp} {d : D} {e : Expr} (h : litE d e = true) : Dp K F (cV d) d := by
  cases d with
  | none => exact .non
  | bool _ => exact .bl _
  | int _ => exact .int _
  | str _ => exact .str _
  | _ =>
    exfalso
    unfold litE at h
    split at h
    · rename_i c _ _
      cases c <;> exact absurd h Bool.false_ne_true
    · exact absurd h Bool.false_ne_true
    · exact absurd h Bool.false_ne_true
theorem pe_lit {d : D} {e : Expr} (h : litE d e = true) : PE X e (tC (cV d)) := by
  cases e with
  | Constant q n p =>
    cases d with
    | none => cases q <;> first | exact pe_non | exact absurd h Bool.false_ne_true
    | bool x =>
      cases q with
      | bool y => cases (beq_iff_eq.mp (show (x == y) = true from h)); exact pe_bl
      | _ => exact absurd h Bool.false_ne_true
    | int x =>
      cases q with
      | int y => cases (beq_iff_eq.mp (show (x == y) = true from h)); exact pe_int
      | _ => exact absurd h Bool.false_ne_true
    | str x =>
      cases q with
      | str y => cases (of_decide_eq_true (show decide (x = y) = true from h)); exact pe_str
      | _ => exact absurd h Bool.false_ne_true
    | _ => exact absurd h Bool.false_ne_true
  | UnaryOp o a p =>
    cases d with
    | int x =>
      cases o with
      | USub =>
        cases a with
        | Constant q n p2 =>
          cases q with
          | int y =>
            cases (of_decide_eq_true (show decide (x = -y) = true from h))
            exact peImp (pe_un un_neg pe_int) fun σ H Q q => ⟨y, rfl, q⟩
          | _ => exact absurd h Bool.false_ne_true
        | _ => exact absurd h Bool.false_ne_true
      | _ => exact absurd h Bool.false_ne_true
    | _ =>
      exfalso
      unfold litE at h
      split at h
      · rename_i he
        cases he
      · exact absurd h Bool.false_ne_true
      · exact absurd h Bool.false_ne_true
  | _ => exact absurd h Bool.false_ne_true
mutual
theorem eLitX {b : Bd} : ∀ (d : D) (e : Expr), litX d e = true → PE X e (rdE X.K b (fun ε _ Q => Q (.d d) ε))
  | .tuple ds, e, h => by
    cases e with
    | Tuple es n p =>
      unfold litX at h
      rw [Bool.and_eq_true, decide_eq_true_eq] at h
      refine peImp (pe_tup (eLitXs (b := b) ds es h.1)) fun σ H Q ⟨ε, F, Xp, Qp, R, w, ex, kk⟩ => ?_
      refine ⟨ε, F, Xp, fun ds' ε' => ds' = ds ∧ ε' = ε, R, ⟨rfl, rfl⟩, ex, fun ds' ε' H' F' xs s f R' d q => ?_⟩
      obtain ⟨rfl, rfl⟩ := q
      refine ⟨by rw [line24, daLen d]; exact h.2, fun p hp => ?_⟩
      exact kk (.d (.tuple _)) _ _ (upd F' p (.tup xs)) _ (s.trans (.of (same_upd hp))) (f.trans (sub_updF (R'.fh.none hp))) (R'.tup _ hp) (Dp.tup (.inl (.inl upd_same)) (daSub (sub_updF (R'.fh.none hp)) d)) w
    | _ => unfold litX at h; exact absurd h Bool.false_ne_true
  | .none, e, h => by
    unfold litX at h
    exact peImp (pe_lit h) fun σ H Q ⟨ε, F, Xp, Qp, R, w, ex, kk⟩ => kk (.d .none) ε H F _ (.refl H) (.refl F) R (cV_dp h) w
  | .bool x, e, h => by
    unfold litX at h
    exact peImp (pe_lit h) fun σ H Q ⟨ε, F, Xp, Qp, R, w, ex, kk⟩ => kk (.d (.bool x)) ε H F _ (.refl H) (.refl F) R (cV_dp h) w
  | .int x, e, h => by
    unfold litX at h
    exact peImp (pe_lit h) fun σ H Q ⟨ε, F, Xp, Qp, R, w, ex, kk⟩ => kk (.d (.int x)) ε H F _ (.refl H) (.refl F) R (cV_dp h) w
  | .str x, e, h => by
    unfold litX at h
    exact peImp (pe_lit h) fun σ H Q ⟨ε, F, Xp, Qp, R, w, ex, kk⟩ => kk (.d (.str x)) ε H F _ (.refl H) (.refl F) R (cV_dp h) w
  | .list _, e, h => by unfold litX at h; exact absurd h Bool.false_ne_true
  | .dict _, e, h => by unfold litX at h; exact absurd h Bool.false_ne_true
theorem eLitXs {b : Bd} : ∀ (ds : List D) (es : List Expr), litXs ds es = true → PA X es (rdA X.K b (fun ε _ Q => Q (.many ds) ε))
  | [], es, h => by
    cases es with
    | nil => exact paImp pa_nil fun σ H Q ⟨ε, F, Xp, Qp, R, w, ex, kk⟩ => kk [] ε H F [] (.refl _) (.refl _) R .nil w
    | cons _ _ => unfold litXs at h; exact absurd h Bool.false_ne_true
  | d :: ds, es, h => by
    cases es with
    | nil => unfold litXs at h; exact absurd h Bool.false_ne_true
    | cons e es =>
      unfold litXs at h
      rw [Bool.and_eq_true, Bool.and_eq_true] at h
      obtain ⟨⟨h1, h2⟩, h3⟩ := h
      refine paImp (pa_cons (peD (eLitX (b := b) d e h2)) (eLitXs (b := b) ds es h3) (starOf h1)) fun σ H Q ⟨ε, F, Xp, Qp, R, w, ex, kk⟩ => ?_
      refine ⟨ε, F, Xp, fun d' ε' => d' = d ∧ ε' = ε, R, ⟨rfl, rfl⟩, ex, fun d' ε1 H1 F1 x s1 f1 R1 d1 q1 => ?_⟩
      obtain ⟨rfl, rfl⟩ := q1
      refine ⟨_, F1, Xp, fun ds' ε' => ds' = ds ∧ ε' = _, R1, ⟨rfl, rfl⟩, ex.mono s1, fun ds' ε2 H2 F2 xs s2 f2 R2 d2 q2 => ?_⟩
      obtain ⟨rfl, rfl⟩ := q2
      exact kk (_ :: _) _ H2 F2 (x :: xs) (s1.trans s2) (f1.trans f2) R2 (.cons (dpSub f2 d1) d2) w
end
/-- a display's readings -/
def dTrs (kvs : List (Str × D)) : List (TE × TE) := kvs.map fun p => (tC (.str p.1), tC (cV p.2))
def dKvs (kvs : List (Str × D)) : List (Key × V) := kvs.map fun p => (.inr p.1, cV p.2)
theorem pps_lit {pos : Pos} : ∀ {kvs : List (Str × D)} {ks : List (Option Expr)} {vs : List Expr}, dspB kvs ks vs = true → PPs X pos ks vs (dTrs kvs) ∧ ks.all (·.isSome) = true ∧ ks.length = kvs.length ∧ vs.length = kvs.length
  | [], [], [], _ => ⟨pps_nil, rfl, rfl, rfl⟩
  | [], [], _ :: _, h => absurd h Bool.false_ne_true
  | [], _ :: _, _, h => absurd h Bool.false_ne_true
  | (x, d) :: r, [], _, h => absurd h Bool.false_ne_true
  | (x, d) :: r, none :: _, _, h => absurd h Bool.false_ne_true
  | (x, d) :: r, some k :: ks, [], h => by cases k <;> first | exact absurd h Bool.false_ne_true | (rename_i c _ _; cases c <;> exact absurd h Bool.false_ne_true)
  | (x, d) :: r, some k :: ks, v :: vs, h => by
    cases k with
    | Constant c n p =>
      cases c with
      | str y =>
        have h' : (decide (x = y) && litE d v && dspB r ks vs) = true := h
        simp only [Bool.and_eq_true, decide_eq_true_eq] at h'
        obtain ⟨⟨rfl, h2⟩, h3⟩ := h'
        obtain ⟨q1, q2, q3, q4⟩ := pps_lit (pos := pos) h3
        exact ⟨pps_cons pe_str (pe_lit h2) q1, by rw [List.all_cons, q2]; rfl, by simp [q3], by simp [q4]⟩
      | _ => exact absurd h Bool.false_ne_true
    | _ => exact absurd h Bool.false_ne_true
theorem tPairs_lit {σ : St} : ∀ (kvs : List (Str × D)) (H : Hp) (Q : List (V × V) → Hp → Prop), Q ((dKvs kvs).map fun kv => (L2.kV kv.1, kv.2)) H → tPairs (dTrs kvs) σ H Q
  | [], _, _, q => q
  | (x, d) :: r, H, Q, q => tPairs_lit r H (fun ps H3 => Q ((.str x, cV d) :: ps) H3) q
theorem merge_get {s : Str} : ∀ (more : List (Str × D)) (acc : List (Key × V)), ndB (more.map (·.1)) = true → valV (mergeK acc (dKvs more)) (.inr s) = match dspGet s more with
    | some d => some (cV d)
    | none => valV acc (.inr s)
  | [], acc, _ => rfl
  | (x, d) :: r, acc, h => by
    have h' : (!((r.map (·.1)).any fun y => decide (y = x)) && ndB (r.map (·.1))) = true := h
    rw [Bool.and_eq_true] at h'
    show valV (mergeK (putK acc (.inr x) (cV d)) (dKvs r)) (.inr s) = _
    rw [merge_get r _ h'.2, valV_put]
    rw [show dspGet s ((x, d) :: r) = if x = s then some d else dspGet s r from rfl]
    by_cases e : x = s
    · subst e
      rw [if_pos rfl, if_pos rfl]
      have : dspGet x r = none := by
        have h1 := h'.1
        clear h h' 
        induction r with
        | nil => rfl
        | cons p t ih =>
          rw [List.map_cons, List.any_cons, Bool.not_eq_true', Bool.or_eq_false_iff] at h1
          rw [show dspGet x (p :: t) = if p.1 = x then some p.2 else dspGet x t from rfl, if_neg (of_decide_eq_false h1.1)]
          exact ih (by rw [h1.2]; rfl)
      rw [this]
    · rw [if_neg e, if_neg (fun z => e (Sum.inr.inj z).symm)]
theorem noSl {e : Expr} (h : plainE e = true) : NoSl e := by
  cases e <;> first | exact fun _ _ => rfl | exact absurd h Bool.false_ne_true
theorem dspGet_mem {s : Str} {d : D} : ∀ {kvs : List (Str × D)}, dspGet s kvs = some d → ∃ x, (x, d) ∈ kvs
  | [], h => by cases h
  | (x, c) :: r, h => by
    unfold dspGet at h
    split at h
    · cases h; exact ⟨x, List.mem_cons_self ..⟩
    · obtain ⟨y, hy⟩ := dspGet_mem h
      exact ⟨y, List.mem_cons_of_mem _ hy⟩
theorem dsp_lit : ∀ {kvs : List (Str × D)} {ks : List (Option Expr)} {vs : List Expr}, dspB kvs ks vs = true → ∀ p ∈ kvs, ∃ e, litE p.2 e = true
  | [], _, _, _, p, hp => by cases hp
  | (x, d) :: r, [], _, h, _, _ => absurd h Bool.false_ne_true
  | (x, d) :: r, none :: _, _, h, _, _ => absurd h Bool.false_ne_true
  | (x, d) :: r, some k :: ks, [], h, _, _ => by cases k <;> first | exact absurd h Bool.false_ne_true | (rename_i c _ _; cases c <;> exact absurd h Bool.false_ne_true)
  | (x, d) :: r, some k :: ks, v :: vs, h, p, hp => by
    cases k with
    | Constant c n q =>
      cases c with
      | str y =>
        have h' : (decide (x = y) && litE d v && dspB r ks vs) = true := h
        simp only [Bool.and_eq_true, decide_eq_true_eq] at h'
        rcases List.mem_cons.mp hp with rfl | hp
        · exact ⟨v, h'.1.2⟩
        · exact dsp_lit h'.2 p hp
      | _ => exact absurd h Bool.false_ne_true
    | _ => exact absurd h Bool.false_ne_true
theorem eDsp (ok : Cok fns cls N C Φ k X sc b.W) {kvs : List (Str × D)} {i : IE} {ks : List (Option Expr)} {vs : List Expr} {e : Expr} {p p2 : Pos} (h1 : dspB kvs ks vs = true) (h2 : ndB (kvs.map (·.1)) = true) (h3 : kvs.length ≤ 15) (h4 : kvs ≠ []) (h5 : plainE e = true)
    (he : PE X e (rdE X.K b (wE Φ i))) : PE X (.Subscript (.Dict ks vs p2) e p) (rdE X.K b (wE Φ (.dsp kvs i))) := by
  obtain ⟨q1, q2, q3, q4⟩ := pps_lit (X := X) (pos := p2) h1
  have n0 : ks ≠ [] := fun z => by
    rw [z] at q3
    exact h4 (List.length_eq_zero_iff.mp q3.symm)
  have hu : X.A.units + 1 < cLine := by have := ok.room.un; omega
  refine peImp (pe_dget hu (pe_disp q1 q2 (by rw [q3, q4]) n0 (by omega)) (peD he) (noSl h5)) fun σ H Q ⟨ε, F, Xp, Qp, R, w, ex, kk⟩ p hp => ?_
  refine tPairs_lit kvs _ _ ⟨upd_same, dKvs kvs, rfl, by unfold dKvs; rw [List.length_map]; exact h3, ?_⟩
  rw [upd_upd]
  have sm : SubZ b.H0 H (upd H p (.dK (mergeK [] (dKvs kvs)))) := .of (same_upd hp)
  have np := (R.no hp).2
  refine ⟨ε, F, Xp, _, R.lst _ hp, w, ex.mono sm, fun d ε1 H1 F1 y s1 f1 R1 d1 q => ?_⟩
  cases d with
  | str s =>
    obtain ⟨v, g1, g2⟩ := q
    cases dpStr d1
    obtain ⟨x, hx⟩ := dspGet_mem g1
    obtain ⟨e', he'⟩ := dsp_lit h1 _ hx
    refine ⟨p, cV v, rfl, .inl ⟨mergeK [] (dKvs kvs), .inr s, .inl (s1 _ _ np upd_same), rfl, ?_⟩, kk (.d v) ε1 H1 F1 _ (sm.trans s1) f1 R1 (cV_dp he') g2⟩
    rw [merge_get kvs [] h2, g1]
  | _ => exact q.elim
theorem rng_rev (n : Nat) : ((List.range n).map fun (i : Nat) => PyData.int i).reverse = (List.range n).map fun (i : Nat) => PyData.int ((0 + (((n : Nat) : Int)) - 1) + i * (-1)) := by
  rw [← List.map_reverse, revRange, List.map_map]
  refine List.map_congr_left fun i hi => ?_
  have := List.mem_range.mp hi
  show PyData.int ((n - 1 - i : Nat) : Int) = _
  congr 1
  omega
theorem iRvrGo (ok : Cok fns cls N C Φ k X sc b.W) {i : IE} {tg e : Expr} {x y : Str} {p pos p2 pos2 : Pos} (h : PE X e (rdE X.K b (wE Φ i))) (hx : x = "reversed") (hg : glB sc x = true) (hy : y = "range") (hgy : glB sc y = true) (he : plainE e = true) :
    PI X tg (.Call (.Name x p) [.Call (.Name y p2) [e] [] pos2] [] pos) (rdI X.K b (wE Φ (.rvr i))) := by
  subst hx hy
  refine piImp (pi_revR (glB_of ok hg) (ok.blt _ (by decide)) (prg_1 (glB_of ok hgy) (ok.blt _ (by decide)) (peD h) (starOf he)) rfl) fun σ H R ⟨ε, F, Xp, Qp, RR, w, ex, kk⟩ => ?_
  refine ⟨ε, F, Xp, _, RR, w, ex, fun d ε1 H1 F1 v s1 f1 R1 d1 q1 => ?_⟩
  cases d with
  | int n =>
    cases dpInt d1
    refine ⟨n, rfl, by decide, by decide, q1.1.2, q1.1.1, kk _ ε1 H1 F1 _ s1 f1 R1 ?_ q1.2⟩
    rw [rng_rev, show (n - 0).toNat = n.toNat by rw [Int.sub_zero]]
    exact itRng (K := X.K) (F1 := F1) (lo := 0 + ((n.toNat : Nat) : Int) - 1) (c := -1) (n := n.toNat)
  | _ => exact q1.elim
theorem eGc (ok : Cok fns cls N C Φ k X sc b.W) {f : Nat} {d : D} {x : Str} {p : Pos} (h : (gcB fns f x d && glB sc x && !(x == ("__debug__" : Str))) = true) : PE X (.Name x p) (rdE X.K b (wE Φ (.gc f d))) := by
  simp only [Bool.and_eq_true, Bool.not_eq_true'] at h
  obtain ⟨⟨h1, h2⟩, h3⟩ := h
  unfold gcB at h1
  split at h1
  · rename_i fi e
    rw [Bool.and_eq_true] at h1
    obtain ⟨e1, e2⟩ := h1
    have e1 := of_decide_eq_true e1
    subst e1
    cases ec : fi.con with
    | none => rw [ec] at e2; cases e2
    | some g =>
      rw [ec] at e2
      have := sameD_eq e2
      subst this
      obtain ⟨u, v, hm, r, dp⟩ := ok.gcon f fi d e ec
      exact peImp (pe_glob (glB_of ok h2) hm r h3) fun σ H Q ⟨ε, F, Xp, Qp, R, w, ex, kk⟩ => kk (.d d) ε H F v (.refl H) (.refl F) R (dp F) w
  · cases h1
/-! zip -/
theorem zips_len : ∀ ds es : List D, (zips ds es).length = min ds.length es.length
  | [], es => by
    cases es <;> simp [zips]
  | _ :: _, [] => by simp [zips]
  | d :: r, e :: t => by
    show (zips r t).length + 1 = _
    rw [zips_len r t]
    simp only [List.length_cons]
    omega
theorem zips_get : ∀ (ds es : List D) (i : Nat) {x y : D}, ds[i]? = some x → es[i]? = some y → (zips ds es)[i]? = some (.tuple [x, y])
  | [], _, _, _, _, h, _ => by simp at h
  | _ :: _, [], _, _, _, _, h => by simp at h
  | d :: r, e :: t, 0, x, y, h, g => by
    simp at h g
    subst h g
    rfl
  | d :: r, e :: t, i + 1, x, y, h, g => zips_get r t i (by simpa using h) (by simpa using g)
theorem newPair2 {K : PySem.W.Frag} {F H : Hp} {T : Addr} {y x : V} {w z : D} (s2 : Sub F H) (hT : H T = none) (g : Dp K F y w) (h : Dp K F x z) :
    Same H (upd H T (.tup [y, x])) ∧ ∃ F', Sub F F' ∧ Sub F' (upd H T (.tup [y, x])) ∧ New F F' H ∧ Dp K F' (.ref T) (.tuple [w, z]) := by
  have sb : Sub F (upd F T (.tup [y, x])) := sub_updF (s2.none hT)
  exact ⟨same_upd hT, upd F T _, sb, s2.upd2, .add hT, Dp.tup (.inl (.inl upd_same)) (.cons (dpSub sb g) (.cons (dpSub sb h) .nil))⟩
theorem itZip {K : PySem.W.Frag} {F1 : Hp} {a c : Addr} {vs ws : List V} {ds es : List D} (r : SqL K F1 a vs) (d : DpAll K F1 vs ds) (r2 : SqL K F1 c ws) (e : DpAll K F1 ws es) : ItOk K (Itz K a c) F1 (zips ds es) where
  go := fun i H hi s => by
    rw [zips_len, ← daLen d, ← daLen e] at hi
    have h1 : i < vs.length := by omega
    have h2 : i < ws.length := by omega
    exact ⟨vs, ws, vs[i], ws[i], sqlSub s r, sqlSub s r2, List.getElem?_eq_getElem h1, List.getElem?_eq_getElem h2⟩
  stop := fun H s => ⟨vs, ws, sqlSub s r, sqlSub s r2, by rw [zips_len, daLen d, daLen e]; omega⟩
  yld := fun i H x H' F hi s1 s2 y => by
    obtain ⟨T, u, v, rfl, hT, rfl, y1, y2⟩ := y
    obtain ⟨z, g1, g2⟩ := daGet d (y1 vs (sqlSub (s1.trans s2) r))
    obtain ⟨z2, g3, g4⟩ := daGet e (y2 ws (sqlSub (s1.trans s2) r2))
    obtain ⟨p1, F', p2, p3, p4, p5⟩ := newPair2 s2 hT (dpSub s1 g2) (dpSub s1 g4)
    exact ⟨p1, F', _, p2, p3, p4, zips_get _ _ _ g1 g3, p5⟩
theorem itZipT {K : PySem.W.Frag} {F1 : Hp} {a c : Addr} {vs ws : List V} {ds es : List D} (r : SqT K F1 a vs) (d : DpAll K F1 vs ds) (r2 : SqT K F1 c ws) (e : DpAll K F1 ws es) : ItOk K (RZ.ItzT K a c) F1 (zips ds es) where
  go := fun i H hi s => by
    rw [zips_len, ← daLen d, ← daLen e] at hi
    have h1 : i < vs.length := by omega
    have h2 : i < ws.length := by omega
    exact ⟨vs, ws, vs[i], ws[i], sqtSub s r, sqtSub s r2, List.getElem?_eq_getElem h1, List.getElem?_eq_getElem h2⟩
  stop := fun H s => ⟨vs, ws, sqtSub s r, sqtSub s r2, by rw [zips_len, daLen d, daLen e]; omega⟩
  yld := fun i H x H' F hi s1 s2 y => by
    obtain ⟨T, u, v, rfl, hT, rfl, y1, y2⟩ := y
    obtain ⟨z, g1, g2⟩ := daGet d (y1 vs (sqtSub (s1.trans s2) r))
    obtain ⟨z2, g3, g4⟩ := daGet e (y2 ws (sqtSub (s1.trans s2) r2))
    obtain ⟨p1, F', p2, p3, p4, p5⟩ := newPair2 s2 hT (dpSub s1 g2) (dpSub s1 g4)
    exact ⟨p1, F', _, p2, p3, p4, zips_get _ _ _ g1 g3, p5⟩
theorem iZipGo (ok : Cok fns cls N C Φ k X sc b.W) {i j : IE} {tg e f : Expr} {x : Str} {p pos : Pos} (h : PE X e (rdE X.K b (wE Φ i))) (h2 : PE X f (rdE X.K b (wE Φ j))) (hx : x = "zip") (hg : glB sc x = true) (he : plainE e = true) (hf : plainE f = true) (ht : isTup tg = true) :
    PI X tg (.Call (.Name x p) [e, f] [] pos) (rdI X.K b (wE Φ (.zip i j))) := by
  subst hx
  cases tg with
  | Tuple es n q =>
    have z := starOf (es := [f]) (env := X.env) he
    have z2 := starOf (es := []) (env := X.env) hf
    refine piImp (RZ.pi_zipA (glB_of ok hg) (ok.blt _ (by decide)) (pa_cons (peD h) (pa_cons (peD h2) pa_nil z2) z) z (by rw [z2]; rfl)) fun σ H R ⟨ε, F, Xp, Qp, RR, w, ex, kk⟩ => ?_
    refine ⟨ε, F, Xp, _, RR, w, ex, fun d ε1 H1 F1 v s1 f1 R1 d1 q1 => ⟨ε1, F1, Xp, _, R1, q1, ex.mono s1, fun e ε2 H2 F2 u s2 f2 R2 d2 q2 => ?_⟩⟩
    cases d with
    | list xs =>
      cases e with
      | list ys =>
        obtain ⟨a, vs, rfl, r1, a1⟩ := dpLst (dpSub f2 d1)
        obtain ⟨c, ws, rfl, r2, a2⟩ := dpLst d2
        exact ⟨a, c, vs, ws, rfl, .inl ⟨sqlSub R2.fh r1, sqlSub R2.fh r2, kk _ ε2 H2 F2 _ (s1.trans s2) (f1.trans f2) R2 (itZip r1 a1 r2 a2) q2⟩⟩
      | _ => exact q2.elim
    | tuple xs =>
      cases e with
      | tuple ys =>
        obtain ⟨a, vs, rfl, r1, a1⟩ := dpTup (dpSub f2 d1)
        obtain ⟨c, ws, rfl, r2, a2⟩ := dpTup d2
        exact ⟨a, c, vs, ws, rfl, .inr ⟨sqtSub R2.fh r1, sqtSub R2.fh r2, kk _ ε2 H2 F2 _ (s1.trans s2) (f1.trans f2) R2 (itZipT r1 a1 r2 a2) q2⟩⟩
      | _ => exact q2.elim
    | _ => cases e <;> exact q2.elim
  | _ => exact absurd ht Bool.false_ne_true
end
end Rc

/-! A list that is lent: looked at, its first thing taken, handed on. -/
namespace Rc
open PySem PySem.Spec PyProof.Rows L2
theorem lentGo {K : PySem.W.Frag} {H0 : Zn} {F0 F H : Hp} {σ : St} {ε : Ev} {j : Nat} {k : List D → Prop} (R : Rep K H0 F0 F H σ ε) (w : lentAt ε j k) :
    ∃ xs p vs, gv ε j = some (.lent xs) ∧ σ[j]? = some (some (.ref p)) ∧ H p = some (.lst vs) ∧ DpAll K F vs xs ∧ F p = none ∧ H0.l p ∧ k xs := by
  unfold lentAt at w
  split at w
  · rename_i xs h
    obtain ⟨p, vs, e, h1, h2, h3, h4⟩ := R.lnt j xs h
    exact ⟨xs, p, vs, h, e, h1, h2, h3, h4, w⟩
  · exact w.elim
theorem refEq {σ : St} {j : Nat} {p q : Addr} (h : σ[j]? = some (some (V.ref p))) (g : σ[j]? = some (some (V.ref q))) : p = q := by
  rw [h] at g
  simpa using g
theorem subzUpd {H0 : Zn} {H : Hp} {p : Addr} {o : HO} (h : H0.l p) : SubZ H0 H (upd H p o) := fun a u n q => by
  have ne : a ≠ p := fun e => n (by subst e; exact h)
  rw [upd_ne ne]
  exact q
section
variable {fns : List FnI} {cls : List Str} {N : List Str} {C : Nat → Addr} {Φ : Fs} {k : Nat} {X : Cx} {b : Bd} {sc : Scope}
theorem eLpop0 (ok : Cok fns cls N C Φ k X sc b.W) {j : Nat} {x : Str} {p p2 p3 p4 : Pos} {n : Nat} (h1 : (nmB N j x && visB sc x) = true) (hl : (p2.endLine == p3.line) = true) :
    PE X (.Call (.Attribute (.Name x p) "pop" p2) [.Constant (.int 0) n p4] [] p3) (rdE X.K b (wE Φ (.lpop0 j))) := by
  have hz : PE X (.Constant (.int 0) n p4) (rdE X.K b (wE Φ (.cst (.int 0)))) := eCst rfl
  refine peImp (pe_bm (apos := p2) (cpos := p3) PySem.F.plainAttrs_list PySem.F.slot_list_pop PySem.F.type_list_pop mt_popAt (peVar (p := p) ok h1) (pa_cons (peD hz) pa_nil (starOf rfl)) rfl (by rw [starOf rfl]; rfl) hl (starOf rfl) rfl) fun σ H Q ⟨ε, F, Xp, Qp, R, w, ex, kk⟩ => ?_
  obtain ⟨xs, r, vs, g1, g2, g3, g4, g5, g6, y, ys, rfl, w⟩ := lentGo R w
  refine ⟨.ref r, g2, .inl ⟨rfl, _, .inl (.inl g3)⟩, ε, F, Xp, fun d e => d = .int 0 ∧ e = ε, R, ⟨rfl, rfl⟩, ex, fun i ε1 H1 F1 z s1 f1 R1 a1 q1 => ?_⟩
  obtain ⟨rfl, rfl⟩ := q1
  obtain ⟨r', us, k2, k3, k4, k5, k6⟩ := R1.lnt j _ g1
  obtain rfl := refEq k2 g2
  cases k4 with
  | cons a c =>
    cases dpInt a1
    refine ⟨r', _, 0, 0, _, rfl, rfl, k3, by decide, by decide, by simp [seqIndex?], rfl, ?_⟩
    exact kk (.d y) _ _ F1 _ (s1.trans (subzUpd k6)) f1 (R1.lentTo g1 k2 (fun a o ne q => by rw [upd_ne ne]; exact q) (.refl F1) (R1.fh.upd k5) .refl upd_same c k5) a w
theorem eLix (ok : Cok fns cls N C Φ k X sc b.W) {j m : Nat} {x : Str} {p p2 p3 : Pos} {n : Nat} (h1 : (nmB N j x && visB sc x) = true) :
    PE X (.Subscript (.Name x p) (.Constant (.int (m : Int)) n p2) p3) (rdE X.K b (wE Φ (.lix j m))) := by
  have hz : PE X (.Constant (.int (m : Int)) n p2) (rdE X.K b (wE Φ (.cst (.int (m : Int))))) := eCst (by show ((m : Int) == (m : Int)) = true; exact beq_self_eq_true _)
  refine peImp (pe_ix (ix_list.or ix_tup) (peVar ok h1) (peD hz) (plainIx rfl)) fun σ H Q ⟨ε, F, Xp, Qp, R, w, ex, kk⟩ => ?_
  obtain ⟨xs, r, vs, g1, g2, g3, g4, g5, g6, y, e1, w⟩ := lentGo R w
  refine ⟨.ref r, g2, ε, F, Xp, fun d e => d = .int m ∧ e = ε, R, ⟨rfl, rfl⟩, ex, fun i ε1 H1 F1 z s1 f1 R1 a1 q1 => ?_⟩
  obtain ⟨rfl, rfl⟩ := q1
  obtain ⟨r', us, k2, k3, k4, k5, k6⟩ := R1.lnt j _ g1
  obtain rfl := refEq k2 g2
  have e2 : L2.atI xs (m : Int) = some y := by
    have hm := (List.getElem?_eq_some_iff.mp e1).1
    unfold L2.atI L2.ixN
    simp only [show ¬ ((m : Int) < 0) by omega, if_false, show (0 : Int) ≤ m by omega, show (m : Int) < xs.length by omega, and_self, if_true]
    simpa using e1
  obtain ⟨v, c1, c2⟩ := atI_da k4 e2
  exact .inl ⟨r', us, m, v, rfl, dpInt a1, .inl (.inl k3), c1, kk (.d y) _ H1 F1 v s1 f1 R1 c2 w⟩
theorem eqv_emp : ∀ xs : List D, PyData.eqv (.list xs) (.list []) = xs.isEmpty
  | [] => rfl
  | _ :: _ => rfl
theorem eLemp (ok : Cok fns cls N C Φ k X sc b.W) {j : Nat} {x : Str} {p p2 p3 : Pos} (h1 : (nmB N j x && visB sc x) = true) :
    PE X (.Compare (.Name x p) [.Eq] [.List [] p2] p3) (rdE X.K b (wE Φ (.lemp j))) ∧ PT X (.Compare (.Name x p) [.Eq] [.List [] p2] p3) (rdT X.K b (wE Φ (.lemp j))) := by
  have ha : PA X [] (rdA X.K b (wE Φ .nil)) := paImp pa_nil fun σ H Q ⟨ε, F, Xp, Qp, R, w, ex, kk⟩ => kk [] ε H F [] (.refl _) (.refl _) R .nil w
  have hz : PE X (.List [] p2) (rdE X.K b (wE Φ (.lst .nil))) := eLst ha
  have go : ∀ (σ : St) (H : Hp) (ε : Ev) (F : Hp) (Xp : XP) (Qp : Bool → Ev → Prop) (Q : Bool → Hp → Prop), Rep X.K b.H0 b.F0 F H σ ε → Ex X.K b Xp σ H → lentAt ε j (fun xs => SeqAt.shaped (.list xs) = true ∧ Qp xs.isEmpty ε) →
      (∀ c ε' H' F', SubZ b.H0 H H' → Sub F F' → Rep X.K b.H0 b.F0 F' H' σ ε' → Qp c ε' → Q c H') →
      tVar j σ H fun v H1 => rdD X.K b (wE Φ (.lst .nil)) σ H1 fun u H2 => rCmp X.K .Eq v u H2 fun z H3 => ∃ c, z = .bl c ∧ Q c H3 := fun σ H ε F Xp Qp Q R ex w kk => by
    obtain ⟨xs, r, vs, g1, g2, g3, g4, g5, g6, sh, w⟩ := lentGo R w
    refine ⟨.ref r, g2, ε, F, Xp, fun d e => d = .list [] ∧ e = ε, R, ⟨Nat.zero_le _, rfl, rfl⟩, ex, fun d ε2 H2 F2 y s2 f2 R2 d2 q2 => ?_⟩
    obtain ⟨rfl, rfl⟩ := q2
    obtain ⟨r', us, k2, k3, k4, k5, k6⟩ := R2.lnt j _ g1
    obtain rfl := refEq k2 g2
    refine ⟨.list xs, .list [], fun c => Qp c _, .lst (.inl (.inl k3)) (daSub R2.fh k4), dpSub R2.fh d2, ⟨sh, rfl, ?_⟩, fun c q => ⟨c, rfl, kk c _ H2 F2 s2 f2 R2 q⟩⟩
    rw [eqv_emp]
    exact w
  refine ⟨peImp (pe_cmpR (opCmp ok.room.units .Eq) (peVar ok h1) (peD hz) (nomark _ (by decide) (by decide))) fun σ H Q ⟨ε, F, Xp, Qp, R, w, ex, kk⟩ => ?_,
    ptImp (pt_cmpR (opCmp ok.room.units .Eq) (peVar ok h1) (peD hz) (nomark _ (by decide) (by decide))) fun σ H Q ⟨ε, F, Xp, Qp, R, w, ex, kk⟩ => ?_⟩
  · obtain ⟨v, e, w2⟩ := go σ H ε F Xp (fun c e => Qp (.d (.bool c)) e) (fun c H' => Q (.bl c) H') R ex w (fun c ε' H' F' s f R' q => kk (.d (.bool c)) ε' H' F' _ s f R' (Dp.bl c) q)
    refine ⟨v, e, ?_⟩
    obtain ⟨ε, F, Xp, Qp, R, w, ex, kk⟩ := w2
    refine ⟨ε, F, Xp, Qp, R, w, ex, fun d ε' H' F' x s f R' a q => ?_⟩
    obtain ⟨d1, d2, Qv, c1, c2, c3, c4⟩ := kk d ε' H' F' x s f R' a q
    refine ⟨d1, d2, Qv, c1, c2, c3, fun c q => ?_⟩
    obtain ⟨c', e, q'⟩ := c4 c q
    cases e
    exact q'
  · exact go σ H ε F Xp Qp Q R ex w kk
theorem offLent {σ : St} {ε : Ev} {p : Addr} {j : Nat} {L : List D} (h : Off σ ε p) : Off σ (pv ε j (some (.lent L))) p := fun i ys q z => by
  rw [gv_pv] at q
  split at q
  · split at q <;> cases q
  · exact h i ys q z
theorem eCallL (ok : Cok fns cls N C Φ k X sc b.W) (hC : b.C = C) {f j : Nat} {a : IE} (s : Sn fns cls N C Φ k a) {x y : Str} {es : List Expr} {p p2 pos : Pos}
    (h : (fnL fns f x && glB sc x && !(x == ("__debug__" : Str)) && nmB N j y && visB sc y && isL a && chk fns N a sc (dm :: dm :: es)) = true) : PE X (.Call (.Name x p) (.Name y p2 :: es) [] pos) (rdE X.K b (wE Φ (.callL f j a))) := by
  simp only [Bool.and_eq_true, Bool.not_eq_true'] at h
  obtain ⟨⟨⟨⟨⟨⟨hf, hg⟩, hdb⟩, hn⟩, hv⟩, hl⟩, hc⟩ := h
  have hp := chkPlain hl hc
  obtain ⟨fi, e, ec, rfl, lf⟩ := fnL_of hf
  obtain ⟨g, fd, hm, hk, hb, ho⟩ := ok.callee f fi e ec
  rw [specOf_yes lf] at ho
  refine peImp (pe_callS ho ok.room (glB_of ok hg) hm hk hb (fun σ => passAt ok.tk σ) (pa_cons (peVar (p := p2) ok (by rw [hn, hv]; rfl)) (s.a b X sc hC ok hl _ hc) (starOf rfl)) hdb (starOf rfl) (noStars hp)) fun σ H Q ⟨ε, F, Xp, Qp, R, w, ex, kk⟩ => ?_
  obtain ⟨xs0, r, vs0, g1, g2, g3, g4, g5, g6, w⟩ := lentGo R w
  refine ⟨.ref r, g2, ε, F, Xp, _, R, w, ex, fun ds ε1 H1 F1 us s1 f1 R1 d1 q1 => ?_⟩
  obtain ⟨xs, r', vs, k1, k2, k3, k4, k5, k6, q⟩ := lentGo R1 q1
  obtain rfl := refEq k2 g2
  have tz : ∀ {H' : Hp}, (∀ a o, a ≠ r' → H1 a = some o → H' a = some o) → SubZ b.H0 H1 H' := fun t a o n q => t a o (fun e => n (by subst e; exact k6)) q
  refine ⟨F1, r', vs, xs, us, ds, _, _, rfl, R1.fh, k5, k3, k4, d1, ok.ar f fi _ _ _ e q, q, (fun v h => by cases v <;> first | rfl | exact h.elim), fun c H' t hp xq => ?_, fun v H' F' x ws' ys t f fh n hp d fp dv qv => ?_, fun zs H' F' r us' ws' ys t f fh n hp d fp hr dr fr hn qv => ?_⟩
  · rw [← hC]
    exact ex c _ H' F1 (s1.trans (tz t)) (R1.lentGone k1 k2 t hp) xq
  · exact kk (.d v) _ H' F' x (s1.trans (tz t)) (f1.trans f) (R1.lentTo k1 k2 t f fh n hp d fp) dv qv
  · exact kk (.own zs) _ H' F' (.ref r) (s1.trans (tz t)) (f1.trans f) (R1.lentTo k1 k2 t f fh n hp d fp) ⟨r, us', rfl, hr, dr, fr, R1.no hn, offLent (R1.offNew hn)⟩ qv
theorem eCallLP (ok : Cok fns cls N C Φ k X sc b.W) (hC : b.C = C) {f j : Nat} {a : IE} (s : Sn fns cls N C Φ k a) {x y : Str} {es : List Expr} {p p2 pos : Pos}
    (h : (fnL fns f x && glB sc x && !(x == ("__debug__" : Str)) && nmB N j y && visB sc y && isLP a && chk fns N a sc (dm :: dm :: es)) = true) : PE X (.Call (.Name x p) (.Name y p2 :: es) [] pos) (rdE X.K b (wE Φ (.callLP f j a))) := by
  simp only [Bool.and_eq_true, Bool.not_eq_true'] at h
  obtain ⟨⟨⟨⟨⟨⟨hf, hg⟩, hdb⟩, hn⟩, hv⟩, hl⟩, hc⟩ := h
  have hp := chkPlainP hl hc
  obtain ⟨fi, e, ec, rfl, lf⟩ := fnL_of hf
  obtain ⟨g, fd, hm, hk, hb, ho⟩ := ok.callee f fi e ec
  rw [specOf_yes lf] at ho
  refine peImp (pe_callS ho ok.room (glB_of ok hg) hm hk hb (fun σ => passAt ok.tk σ) (pa_cons (peVar (p := p2) ok (by rw [hn, hv]; rfl)) (s.ap b X sc hC ok hl _ hc) (starOf rfl)) hdb (starOf rfl) (noStars hp)) fun σ H Q ⟨ε, F, Xp, Qp, R, w, ex, kk⟩ => ?_
  obtain ⟨xs0, r, vs0, g1, g2, g3, g4, g5, g6, w⟩ := lentGo R w
  refine ⟨.ref r, g2, ε, F, Xp, _, R, w, ex, fun ds ε1 H1 F1 G1 us s1 f1 R1 l1 d1 q1 => ?_⟩
  obtain ⟨xs, r', vs, k1, k2, k3, k4, k5, k6, q⟩ := lentGo R1 q1
  obtain rfl := refEq k2 g2
  have gp : G1 r' = none := by
    cases z : G1 r' with
    | none => rfl
    | some o =>
      rcases l1.2.2 _ _ z with z | ⟨_, z⟩
      · rw [k5] at z; cases z
      · exact absurd k6 z
  have tz : ∀ {H' : Hp}, (∀ a o, a ≠ r' → H1 a = some o → H' a = some o) → SubZ b.H0 H1 H' := fun t a o n q => t a o (fun e => n (by subst e; exact k6)) q
  have np : ∀ {F' F3 : Hp}, Sub F3 F' → F' r' = none → F3 r' = none := fun {F' F3} s z => by
    cases q : F3 r' with
    | none => rfl
    | some o => rw [s _ _ q] at z; cases z
  -- what the lent list has stands still in the frame's own sight
  have lk : ∀ {F' F3 H' : Hp} {ws' : List V} {ys : List D}, True := trivial
  refine ⟨G1, r', vs, xs, us, ds, _, _, rfl, l1.2.1, gp, k3, daSub l1.1 k4, d1, ok.ar f fi _ _ _ e q, q, (fun v h => by cases v <;> first | rfl | exact h.elim), fun c H' t hp xq => ?_, fun v H' F' x ws' ys t f fh n hp d fp dv qv => ?_, fun zs H' F' r us' ws' ys t f fh n hp d fp hr dr fr hn qv => ?_⟩
  · rw [← hC]
    exact ex c _ H' F1 (s1.trans (tz t)) (R1.lentGone k1 k2 t hp) xq
  · obtain ⟨F3, a1, a2, a3, a4, a5, a6⟩ := unlook (K := X.K) (H' := H') l1 f n
    exact kk (.d v) _ H' F3 x (s1.trans (tz t)) (f1.trans a1) (R1.lentTo k1 k2 t a1 (a2.trans fh) a3 hp (a6 _ _ qv.2.1 d) (np a2 fp)) (a5 _ _ qv.1 dv) qv.2.2
  · obtain ⟨F3, a1, a2, a3, a4, a5, a6⟩ := unlook (K := X.K) (H' := H') l1 f n
    have fr3 : F3 r = none := by
      cases q : F3 r with
      | none => rfl
      | some o => rw [a2 _ _ q] at fr; cases fr
    exact kk (.own zs) _ H' F3 (.ref r) (s1.trans (tz t)) (f1.trans a1) (R1.lentTo k1 k2 t a1 (a2.trans fh) a3 hp (a6 _ _ qv.2.1 d) (np a2 fp)) ⟨r, us', rfl, hr, a6 _ _ qv.1 dr, fr3, R1.no hn, offLent (R1.offNew hn)⟩ qv.2.2
/-- where such a comprehension's turn begins -/
theorem Rep.turnL {K : PySem.W.Frag} {H0 : Zn} {F0 F1 F2 H H' : Hp} {σ : St} {ε : Ev} {js : List Nat} {j : Nat} {p : Addr} {L : List D} {ws : List V} (R : Rep K H0 F0 F1 H σ ε) (s : Sub F1 F2) (g : Sub F2 H') (hj : j ∉ js) (e : σ[j]? = some (some (.ref p)))
    (hp : H' p = some (.lst ws)) (d : DpAll K F2 ws L) (fp : F2 p = none) : Rep K ⟨H', fun a => a = p⟩ F2 F2 H' (wipe σ js) (pv (wipeE (blind ε) js) j (some (.lent L))) := by
  have R0 := R.turn s g (js := js)
  have ej : (wipe σ js)[j]? = some (some (.ref p)) := by rw [wipe_get, if_neg hj]; exact e
  have no : ∀ {i : Nat} {v : Val}, gv (pv (wipeE (blind ε) js) j (some (.lent L))) i = some v → (i = j ∧ v = .lent L) ∨ ∃ x, v = .d x ∧ gv (wipeE (blind ε) js) i = some (.d x) := fun {i v} h => by
    rw [gv_pv] at h
    split at h
    · rename_i hi
      split at h
      · cases h; exact .inl ⟨hi, rfl⟩
      · cases h
    · obtain ⟨g1, g2⟩ := wipeE_gv h
      obtain ⟨y, e, g3⟩ := blind_d g1
      cases e
      exact .inr ⟨y, rfl, h⟩
  refine ⟨g, .refl _, .refl _, fun a o h => .inl h, by rw [pv_len]; exact R0.len, fun i x h => ?_, fun i ys h => ?_, fun i k xs ys r h => ?_, fun i ys h => ?_, fun i k xs ys r h h' => ?_, fun a h => ?_, ?_⟩
  · rcases no h with ⟨_, z⟩ | ⟨y, z, h2⟩
    · cases z
    · cases z; exact R0.dat i x h2
  · rcases no h with ⟨_, z⟩ | ⟨y, z, h2⟩ <;> cases z
  · rcases no h with ⟨_, z⟩ | ⟨y, z, h2⟩ <;> cases z
  · rcases no h with ⟨hi, z⟩ | ⟨y, z, h2⟩
    · cases z
      subst hi
      exact ⟨p, ws, ej, hp, d, fp, rfl⟩
    · cases z
  · rcases no h with ⟨hi, z⟩ | ⟨y, z, h2⟩
    · rcases no h' with ⟨hk, z'⟩ | ⟨y, z', h2⟩
      · exact fun _ _ => by rw [hi, hk]
      · cases z'
    · cases z
  · cases h
    exact ⟨⟨_, hp⟩, fp⟩
  · exact .nil fun i v h => by
      rcases no h with ⟨_, e⟩ | ⟨x, e, _⟩ <;> (subst e; rfl)
theorem lclGo {K : PySem.W.Frag} {t : Tg} {itE eE : IE} {j : Nat} {σ : St} {H : Hp} {Q : VK} (h : rdE K b (wE Φ (.lcL t itE eE j)) σ H Q) (hj : j ∉ tgs t) :
    tLc (rdI K b (wE Φ itE)) (gTg K t) (fun σ H q => q true H)
      (fun σ H q => ∃ H0 F0, rdD K ⟨b.C, fun _ _ _ _ => False, H0, F0⟩ (wE Φ eE) σ H q) (tgs t) σ H Q := by
  obtain ⟨ε, F, Xp, Qp, R, w, ex, kk⟩ := h
  refine ⟨ε, F, Xp, _, R, w, ex, fun ds ε1 H1 F1 J s1 f1 R1 J1 q1 D hD => ?_⟩
  obtain ⟨L0, p, vs0, g1, g2, g3, g4, g5, g6, q1⟩ := lentGo R1 q1
  have pD : p ≠ D := fun z => by subst z; rw [g3] at hD; cases hD
  refine ⟨fun i m H' => m = ds.length - i ∧ i ≤ ds.length ∧ ∃ F' acc vs L ws, Sub F1 F' ∧ (∀ a o, a ≠ p → H1 a = some o → H' a = some o) ∧ Sub F' H' ∧ New F1 F' H1 ∧ H' D = some (.lst vs) ∧ DpAll K F' vs acc ∧ F' D = none ∧ H' p = some (.lst ws) ∧ DpAll K F' ws L ∧ F' p = none ∧
    lclW t ε1 j (fun ε2 k => wE Φ eE ε2 (fun _ _ => False) (kD k)) (ds.drop i) acc L fun ys L' => Qp (.own ys) (pv ε1 j (some (.lent L'))),
    ⟨ds.length, by simp, Nat.zero_le _, F1, [], [], L0, vs0, .refl _, fun a o _ q => same_upd hD a o q, R1.fh.upd (R1.fh.none hD), .refl, upd_same, .nil, R1.fh.none hD, by rw [upd_ne pD]; exact g3, g4, g5, q1⟩, ?_⟩
  rintro i m H' ⟨rfl, hi, F', acc, vs, L, ws, a1, a2, a3, a4, a5, a6, a7, c1, c2, c3, wl⟩
  by_cases hlt : i < ds.length
  · refine .inr ⟨J1.go i H' hlt (a1.trans a3), fun H'' => ∃ F'' acc vs L ws, Sub F1 F'' ∧ (∀ a o, a ≠ p → H1 a = some o → H'' a = some o) ∧ Sub F'' H'' ∧ New F1 F'' H1 ∧ H'' D = some (.lst vs) ∧ DpAll K F'' vs acc ∧ F'' D = none ∧ H'' p = some (.lst ws) ∧ DpAll K F'' ws L ∧ F'' p = none ∧
      lclW t ε1 j (fun ε2 k => wE Φ eE ε2 (fun _ _ => False) (kD k)) (ds.drop (i + 1)) acc L fun ys L' => Qp (.own ys) (pv ε1 j (some (.lent L'))),
      fun H'' q => ⟨ds.length - (i + 1), by omega, rfl, hlt, q⟩, fun x H2 y => ?_⟩
    obtain ⟨b1, F2, d, b2, b3, b4, b5, b6⟩ := J1.yld i H' x H2 F' hlt a1 a3 y
    have ed : ds.drop i = d :: ds.drop (i + 1) := by
      rw [List.drop_eq_getElem_cons hlt]
      have : ds[i] = d := by
        rw [List.getElem?_eq_getElem hlt] at b5
        exact Option.some.inj b5
      rw [this]
    rw [ed] at wl
    have e0 : H2 D = some (.lst vs) := b1 _ _ a5
    have e1 : H2 p = some (.lst ws) := b1 _ _ c1
    have n2 : ∀ {r : Addr} {o : HO}, H' r = some o → F' r = none → F2 r = none := fun {r o} q f => by
      cases z : F2 r with
      | none => rfl
      | some u =>
        rcases b4 r u z with g | g
        · rw [f] at g; cases g
        · rw [q] at g; cases g
    have R2 := R1.turnL (js := tgs t) (j := j) (a1.trans b2) b3 hj g2 e1 (daSub b2 c2) (n2 c1 c3)
    refine tgGo R2 b6 wl fun σ2 ε2 R3 ew w2 => ⟨by rw [ew, wipe_wipe], ?_⟩
    show (if true = true then _ else _)
    rw [if_pos rfl]
    refine ⟨⟨H2, fun a => a = p⟩, F2, ε2, F2, fun _ _ => False, _, R3, w2, (fun _ _ _ _ _ _ z => z.elim), fun z ε4 H4 F4 v s4' f4 R5 d5 q5 => ?_⟩
    have s4 : ∀ a o, a ≠ p → H2 a = some o → H4 a = some o := fun a o ne q => s4' a o ne q
    obtain ⟨L', p', us, k1, k2, k3, k4, k5, k6, q5⟩ := lentGo R5 q5
    have k6 : p' = p := k6
    subst k6
    have nF : ∀ {r : Addr} {o : HO}, H2 r = some o → F2 r = none → F4 r = none := fun {r o} q f => by
      cases z : F4 r with
      | none => rfl
      | some u =>
        rcases R5.fr r u z with g | g
        · have g : F2 r = some u := g
          rw [f] at g; cases g
        · have g : H2 r = none := g
          rw [q] at g; cases g
    have n1 : F4 D = none := nF e0 (n2 a5 a7)
    have c4 : H4 D = some (.lst vs) := s4 _ _ (Ne.symm pD) e0
    have da : DpAll K F4 vs acc := daSub (b2.trans f4) a6
    refine ⟨vs, c4, by rw [line24, daLen da]; exact q5.1, F4, acc ++ [z], vs ++ [v], L', us, (a1.trans b2).trans f4, fun a o ne h => ?_, R5.fh.upd n1, fun a o h => ?_, upd_same, daApp da (.cons d5 .nil), n1, by rw [upd_ne pD]; exact k3, k4, k5, q5.2⟩
    · rw [upd_ne (ne_of_none h hD)]
      exact s4 _ _ ne (b1 _ _ (a2 _ _ ne h))
    · have nn : ∀ {G : Hp}, G a = none → (∀ u, a ≠ p' → H1 a = some u → G a = some u) → H1 a = none := fun {G} g hh => by
        cases z : H1 a with
        | none => rfl
        | some u =>
          by_cases ne : a = p'
          · subst ne
            have := k5
            rw [h] at this; cases this
          · have := hh u ne z
            rw [g] at this; cases this
      rcases R5.fr a o h with q | q
      · rcases b4 a o q with q | q
        · exact a4 a o q
        · exact .inr (nn q fun u ne z => a2 _ _ ne z)
      · have q : H2 a = none := q
        exact .inr (nn q fun u ne z => b1 _ _ (a2 _ _ ne z))
  · have e : i = ds.length := by omega
    subst e
    refine .inl ⟨J1.stop H' (a1.trans a3), ?_⟩
    rw [List.drop_length] at wl
    refine kk (.own acc) _ H' F' (.ref D) (s1.trans fun a o n q => a2 a o (fun z => n (by subst z; exact g6)) q) (f1.trans a1) (R1.lentTo g1 g2 a2 a1 a3 a4 c1 c2 c3) ⟨D, vs, rfl, a5, a6, a7, R1.no hD, fun i ys q z => ?_⟩ wl
    rw [gv_pv] at q
    split at q
    · split at q <;> cases q
    · exact R1.offNew hD i ys q z
/-- a heap but for one address -/
def hole (H : Hp) (p : Addr) : Hp := fun a => if a = p then none else H a
/-- where the turn of a comprehension begins that looks at a name's own list -/
theorem Rep.turnK {K : PySem.W.Frag} {H0 : Zn} {F0 F1 F2 H H' : Hp} {σ : St} {ε : Ev} {js : List Nat} {j : Nat} {p : Addr} {L : List D} {ws : List V} (R : Rep K H0 F0 F1 H σ ε) (s : Sub F1 F2) (g : Sub F2 H') (hj : j ∉ js) (e : σ[j]? = some (some (.ref p)))
    (hp : H' p = some (.lst ws)) (d : DpAll K F2 ws L) (fp : F2 p = none) : Rep K (Zn.of (hole H' p)) F2 F2 H' (wipe σ js) (pv (wipeE (blind ε) js) j (some (.own L))) := by
  have R0 := R.turn s g (js := js)
  have ej : (wipe σ js)[j]? = some (some (.ref p)) := by rw [wipe_get, if_neg hj]; exact e
  have no : ∀ {i : Nat} {v : Val}, gv (pv (wipeE (blind ε) js) j (some (.own L))) i = some v → (i = j ∧ v = .own L) ∨ ∃ x, v = .d x ∧ gv (wipeE (blind ε) js) i = some (.d x) := fun {i v} h => by
    rw [gv_pv] at h
    split at h
    · rename_i hi
      split at h
      · cases h; exact .inl ⟨hi, rfl⟩
      · cases h
    · obtain ⟨g1, g2⟩ := wipeE_gv h
      obtain ⟨y, e, g3⟩ := blind_d g1
      cases e
      exact .inr ⟨y, rfl, h⟩
  refine ⟨g, .refl _, fun a o _ q => ?_, fun a o h => .inl h, by rw [pv_len]; exact R0.len, fun i x h => ?_, fun i ys h => ?_, fun i k xs ys r h h' => ?_, fun i ys h => ?_, fun i k xs ys r h => ?_, fun a h => h.elim, .nil fun i v h => by
      rcases no h with ⟨_, e⟩ | ⟨x, e, _⟩ <;> (subst e; rfl)⟩
  · have q : hole H' p a = some o := q
    unfold hole at q
    split at q
    · cases q
    · exact q
  · rcases no h with ⟨_, z⟩ | ⟨y, z, h2⟩
    · cases z
    · cases z; exact R0.dat i x h2
  · rcases no h with ⟨hi, z⟩ | ⟨y, z, h2⟩
    · cases z
      subst hi
      exact ⟨p, ws, ej, hp, d, fp, by show hole H' p p = none; unfold hole; rw [if_pos rfl], fun z => z⟩
    · cases z
  · rcases no h with ⟨hi, z⟩ | ⟨y, z, h2⟩
    · rcases no h' with ⟨hk, z'⟩ | ⟨y, z', h2⟩
      · exact fun _ _ => by rw [hi, hk]
      · cases z'
    · cases z
  · rcases no h with ⟨_, z⟩ | ⟨y, z, h2⟩ <;> cases z
  · rcases no h with ⟨_, z⟩ | ⟨y, z, h2⟩ <;> cases z
theorem ownGoK {K : PySem.W.Frag} {H0 : Zn} {F0 F H : Hp} {σ : St} {ε : Ev} {j : Nat} {k : List D → Prop} (R : Rep K H0 F0 F H σ ε) (w : ownAt ε j k) :
    ∃ xs p vs, gv ε j = some (.own xs) ∧ σ[j]? = some (some (.ref p)) ∧ H p = some (.lst vs) ∧ DpAll K F vs xs ∧ F p = none ∧ H0.no p ∧ k xs := by
  unfold ownAt at w
  split at w
  · rename_i xs h
    obtain ⟨p, vs, e, h1, h2, h3, h4⟩ := R.own j xs h
    exact ⟨xs, p, vs, h, e, h1, h2, h3, h4, w⟩
  · exact w.elim
theorem lckGo {K : PySem.W.Frag} {t : Tg} {itE eE : IE} {j : Nat} {σ : St} {H : Hp} {Q : VK} (h : rdE K b (wE Φ (.lcK t itE eE j)) σ H Q) (hj : j ∉ tgs t) :
    tLc (rdI K b (wE Φ itE)) (gTg K t) (fun σ H q => q true H)
      (fun σ H q => ∃ H0 F0, rdD K ⟨b.C, fun _ _ _ _ => False, H0, F0⟩ (wE Φ eE) σ H q) (tgs t) σ H Q := by
  obtain ⟨ε, F, Xp, Qp, R, w, ex, kk⟩ := h
  refine ⟨ε, F, Xp, _, R, w, ex, fun ds ε1 H1 F1 J s1 f1 R1 J1 q1 D hD => ?_⟩
  obtain ⟨L, p, ws, g1, g2, g3, g4, g5, g6, q1⟩ := ownGoK R1 q1
  have pD : p ≠ D := fun z => by subst z; rw [g3] at hD; cases hD
  refine ⟨fun i m H' => m = ds.length - i ∧ i ≤ ds.length ∧ ∃ F' acc vs, Sub F1 F' ∧ Same H1 H' ∧ Sub F' H' ∧ New F1 F' H1 ∧ H' D = some (.lst vs) ∧ DpAll K F' vs acc ∧ F' D = none ∧
    lckW t ε1 j L (fun ε2 k => wE Φ eE ε2 (fun _ _ => False) (kD k)) (ds.drop i) acc fun ys => Qp (.own ys) ε1,
    ⟨ds.length, by simp, Nat.zero_le _, F1, [], [], .refl _, same_upd hD, R1.fh.upd (R1.fh.none hD), .refl, upd_same, .nil, R1.fh.none hD, q1⟩, ?_⟩
  rintro i m H' ⟨rfl, hi, F', acc, vs, a1, a2, a3, a4, a5, a6, a7, wl⟩
  by_cases hlt : i < ds.length
  · refine .inr ⟨J1.go i H' hlt (a1.trans a3), fun H'' => ∃ F'' acc vs, Sub F1 F'' ∧ Same H1 H'' ∧ Sub F'' H'' ∧ New F1 F'' H1 ∧ H'' D = some (.lst vs) ∧ DpAll K F'' vs acc ∧ F'' D = none ∧
      lckW t ε1 j L (fun ε2 k => wE Φ eE ε2 (fun _ _ => False) (kD k)) (ds.drop (i + 1)) acc fun ys => Qp (.own ys) ε1,
      fun H'' q => ⟨ds.length - (i + 1), by omega, rfl, hlt, q⟩, fun x H2 y => ?_⟩
    obtain ⟨b1, F2, d, b2, b3, b4, b5, b6⟩ := J1.yld i H' x H2 F' hlt a1 a3 y
    have ed : ds.drop i = d :: ds.drop (i + 1) := by
      rw [List.drop_eq_getElem_cons hlt]
      have : ds[i] = d := by
        rw [List.getElem?_eq_getElem hlt] at b5
        exact Option.some.inj b5
      rw [this]
    rw [ed] at wl
    have c0 : H2 D = some (.lst vs) := b1 _ _ a5
    have c1 : H2 p = some (.lst ws) := b1 _ _ (a2 _ _ g3)
    have np : F2 p = none := by
      cases z : F2 p with
      | none => rfl
      | some u =>
        rcases b4 p u z with q | q
        · rcases a4 p u q with q | q
          · rw [g5] at q; cases q
          · rw [g3] at q; cases q
        · rw [a2 _ _ g3] at q; cases q
    have R2 := R1.turnK (js := tgs t) (j := j) (a1.trans b2) b3 hj g2 c1 (daSub (a1.trans b2) g4) np
    refine tgGo R2 b6 wl fun σ2 ε2 R3 ew w2 => ⟨by rw [ew, wipe_wipe], ?_⟩
    show (if true = true then _ else _)
    rw [if_pos rfl]
    refine ⟨Zn.of (hole H2 p), F2, ε2, F2, fun _ _ => False, _, R3, w2, (fun _ _ _ _ _ _ z => z.elim), fun z ε4 H4 F4 v s4' f4 R5 d5 q5 => ?_⟩
    have s4 : Same H2 H4 := fun a o q => s4' a o (fun z => z) q
    obtain ⟨L', p', us, k1, k2, k3, k4, k5, k6, q5⟩ := ownGoK R5 q5
    have ep : p' = p := by
      have e1 : (wipe σ2 (tgs t))[j]? = σ2[j]? := by rw [wipe_get, if_neg hj]
      have e2 : (wipe (wipe σ (tgs t)) (tgs t))[j]? = σ[j]? := by rw [wipe_get, if_neg hj, wipe_get, if_neg hj]
      rw [ew, e2, g2] at e1
      rw [k2] at e1
      simpa using e1.symm
    subst ep
    have fr5 : ∀ {a : Addr} {o : HO}, F4 a = some o → F2 a = some o ∨ H2 a = none := fun {a o} h => by
      rcases R5.fr a o h with q | q
      · exact .inl q
      · have q : hole H2 p' a = none := q
        unfold hole at q
        split at q
        · rename_i e
          rw [e, k5] at h; cases h
        · exact .inr q
    have n2 : F2 D = none := by
      cases z : F2 D with
      | none => rfl
      | some u =>
        rcases b4 D u z with q | q
        · rw [a7] at q; cases q
        · rw [a5] at q; cases q
    have n1 : F4 D = none := by
      cases z : F4 D with
      | none => rfl
      | some u =>
        rcases fr5 z with q | q
        · rw [n2] at q; cases q
        · rw [c0] at q; cases q
    have n3 : New F1 F4 H1 := fun a o h => by
      rcases fr5 h with q | q
      · rcases b4 a o q with q | q
        · exact a4 a o q
        · exact .inr (Same.free a2 q)
      · exact .inr (Same.free (a2.trans b1) q)
    have c4 : H4 D = some (.lst vs) := s4 _ _ c0
    have da : DpAll K F4 vs acc := daSub (b2.trans f4) a6
    refine ⟨vs, c4, by rw [line24, daLen da]; exact q5.1, F4, acc ++ [z], vs ++ [v], (a1.trans b2).trans f4, fun a o h => ?_, R5.fh.upd n1, n3, upd_same, daApp da (.cons d5 .nil), n1, q5.2⟩
    rw [upd_ne (ne_of_none h hD)]
    exact s4 _ _ (b1 _ _ (a2 _ _ h))
  · have e : i = ds.length := by omega
    subst e
    refine .inl ⟨J1.stop H' (a1.trans a3), ?_⟩
    rw [List.drop_length] at wl
    exact kk (.own acc) ε1 H' F' (.ref D) (s1.trans (.of a2)) (f1.trans a1) (R1.grow a2 a1 a3 a4) ⟨D, vs, rfl, a5, a6, a7, R1.no hD, R1.offNew hD⟩ wl
end
end Rc

/-! Dicts: what is asked of them. -/
namespace Rc
open PySem PySem.Spec PyProof.Rows L2
theorem asIntsMap : ∀ k : List Int, asInts (k.map .int) = some k
  | [] => rfl
  | i :: r => by
    show (asInts (r.map .int)).map (i :: ·) = _
    rw [asIntsMap r]; rfl
theorem of_asInts : ∀ {xs : List D} {k : List Int}, asInts xs = some k → xs = k.map .int
  | [], k, h => by simp [asInts] at h; subst h; rfl
  | x :: r, k, h => by
    cases x with
    | int i =>
      simp only [asInts, Option.map_eq_some_iff] at h
      obtain ⟨t, h1, h2⟩ := h
      subst h2
      rw [of_asInts h1]; rfl
    | _ => simp [asInts] at h
theorem vals_intK {P : Program} {w : World} : ∀ {k : List Int} {us : List Value}, Vals (k.map V.int) us → ItemsAre (intKind P w) k us
  | [], _, r => by rw [List.map_nil] at r; cases r; exact .nil
  | i :: k, _, r => by
    rw [List.map_cons] at r
    cases r with
    | cons h t =>
      obtain ⟨t', rfl⟩ := h
      exact .cons (by show Value.isInt i (.int i t') = true; simp [Value.isInt]) (vals_intK t)
section
variable {X : Cx} {pins : List (Addr × Obj)} {σ : St} {H : Hp} {s : Shared}
/-- a tuple of whole numbers is a key -/
theorem keyAt {a : Addr} {k : List Int} (I : Inv X pins σ H s) (d : Dp X.K H (.ref a) (.tuple (k.map .int))) : (tupleKind (intKind X.prog X.w)).is s.heap k a := by
  obtain ⟨a', vs, e, q, da⟩ := dpTup d
  cases e
  obtain rfl := asInts_of da (asIntsMap k)
  obtain ⟨its, rv, ⟨o, ho, hc, n, hd⟩, hz⟩ := I.tuple q
  exact ⟨o, its.toArray, n, ho, hc, hd, by simpa using vals_intK rv⟩
theorem keysAt {xs : List (List Int × Addr × Value)} {kvs : List (List Int × D)} (I : Inv X pins σ H s) (h : KvT X.K H xs kvs) : ∀ x ∈ xs, (tupleKind (intKind X.prog X.w)).is s.heap x.1 x.2.1 := by
  induction h with
  | nil => intro x hx; cases hx
  | cons k r d _ ih =>
    intro x hx
    rcases List.mem_cons.mp hx with e | hx
    · subst e; exact keyAt I k
    · exact ih x hx
theorem tabAt {p : Addr} {xs : List (List Int × Addr × Value)} {kvs : List (List Int × D)} (I : Inv X pins σ H s) (e : Rd H p (.ext (TbAt p xs))) (h : KvT X.K H xs kvs) :
    s.heap.DictOfH (tupleKind (intKind X.prog X.w)) p xs ∧ (p == sysModules) = false ∧ xs.length ≤ sizeLine := by
  obtain ⟨⟨o, es, ep, a1, a2, a3, a4, a5, a6, a7⟩, _⟩ := (show ObjOk X.prog X.w H s.heap p (.ext (TbAt p xs)) from e.ok I.hok)
  exact ⟨⟨o, es, ep, a1, a2, a3, a4, keysAt I h, a5⟩, a7, a6⟩
end
theorem lkp_pos {κ : Type} [DecidableEq κ] {p : κ × D} {r : List (κ × D)} {k : κ} (e : p.1 = k) : lkp (p :: r) k = some p.2 := by simp [lkp, List.find?_cons, e]
theorem lkp_neg {κ : Type} [DecidableEq κ] {p : κ × D} {r : List (κ × D)} {k : κ} (e : ¬ p.1 = k) : lkp (p :: r) k = lkp r k := by simp [lkp, List.find?_cons, e]
theorem lkp_any {κ : Type} [DecidableEq κ] (k : κ) : ∀ kvs : List (κ × D), (kvs.any fun kv => decide (kv.1 = k)) = (lkp kvs k).isSome
  | [] => rfl
  | p :: r => by
    rw [List.any_cons]
    by_cases e : p.1 = k
    · simp only [lkp_pos e, decide_eq_true e, Bool.true_or, Option.isSome_some]
    · rw [lkp_neg e, decide_eq_false e, Bool.false_or]; exact lkp_any k r
/-- what a look-up gives, as the value that stands there -/
def OptAt (K : PySem.W.Frag) (F : Hp) : Option V → Option D → Prop
  | none, none => True
  | some v, some d => Dp K F v d
  | _, _ => False
theorem KvI.get {K : PySem.W.Frag} {F : Hp} {vs : List (Key × V)} {kvs : List (Int × D)} (h : KvI K F vs kvs) (i : Int) : OptAt K F (valV vs (.inl i)) (lkp kvs i) := by
  induction h with
  | nil => exact True.intro
  | @cons j v d r t q _ ih =>
    by_cases e : j = i
    · subst e
      rw [valV_pos (p := (Sum.inl j, v)) rfl, lkp_pos (p := (j, d)) rfl]; exact q
    · rw [valV_neg (p := (Sum.inl j, v)) (fun z => e (Sum.inl.inj z)), lkp_neg (p := (j, d)) e]; exact ih
theorem KvI.put {K : PySem.W.Frag} {F : Hp} {vs : List (Key × V)} {kvs : List (Int × D)} (h : KvI K F vs kvs) {i : Int} {v : V} {d : D} (q : Dp K F v d) : KvI K F (putK vs (.inl i) v) (putL kvs i d) := by
  have an : (vs.any fun kv => decide (kv.1 = Sum.inl i)) = kvs.any fun kv => decide (kv.1 = i) := by
    induction h with
    | nil => rfl
    | @cons j v d r t q _ ih =>
      rw [List.any_cons, List.any_cons, ih]
      congr 1
      by_cases e : j = i
      · subst e; simp
      · simp [e]
  have g1 : ∀ {r : List (Key × V)} {t : List (Int × D)}, KvI K F r t → KvI K F (r.map fun kv => if kv.1 = Sum.inl i then (kv.1, v) else kv) (t.map fun kv => if kv.1 = i then (kv.1, d) else kv) := by
    intro r t h
    induction h with
    | nil => exact .nil
    | @cons j u e r t a _ ih =>
      rw [List.map_cons, List.map_cons]
      by_cases z : j = i
      · subst z; rw [if_pos rfl, if_pos rfl]; exact .cons q ih
      · rw [if_neg (fun w => z (Sum.inl.inj w)), if_neg z]; exact .cons a ih
  have g2 : ∀ {r : List (Key × V)} {t : List (Int × D)}, KvI K F r t → KvI K F (r ++ [(.inl i, v)]) (t ++ [(i, d)]) := by
    intro r t h
    induction h with
    | nil => exact .cons q .nil
    | cons a _ ih => exact .cons a ih
  unfold putK putL
  rw [an]
  split
  · exact g1 h
  · exact g2 h
theorem KvI.len {K : PySem.W.Frag} {F : Hp} {vs : List (Key × V)} {kvs : List (Int × D)} (h : KvI K F vs kvs) : vs.length = kvs.length := by
  induction h with
  | nil => rfl
  | cons _ _ ih => simp [ih]
theorem KvI.keys {K : PySem.W.Frag} {F : Hp} {vs : List (Key × V)} {kvs : List (Int × D)} (h : KvI K F vs kvs) : vs.map (·.1) = (kvs.map (·.1)).map Sum.inl := by
  induction h with
  | nil => rfl
  | cons _ _ ih => simp only [List.map_cons, ih]
theorem KvI.at_ {K : PySem.W.Frag} {F : Hp} {vs : List (Key × V)} {kvs : List (Int × D)} (h : KvI K F vs kvs) : ∀ {i : Nat} {k : Key} {v : V}, vs[i]? = some (k, v) → ∃ j d, k = .inl j ∧ kvs[i]? = some (j, d) ∧ Dp K F v d := by
  induction h with
  | nil => intro i k v e; simp at e
  | @cons j u d r t a _ ih =>
    intro i k v e
    cases i with
    | zero =>
      simp only [List.getElem?_cons_zero, Option.some.injEq, Prod.mk.injEq] at e
      obtain ⟨rfl, rfl⟩ := e
      exact ⟨j, d, rfl, rfl, a⟩
    | succ i =>
      simp only [List.getElem?_cons_succ] at e ⊢
      exact ih e
theorem atKey_pos {p : List Int × Addr × Value} {r : List (List Int × Addr × Value)} {k : List Int} (e : p.1 = k) : atKey (p :: r) k = some p.2 := by simp [atKey, List.find?_cons, e]
theorem atKey_neg {p : List Int × Addr × Value} {r : List (List Int × Addr × Value)} {k : List Int} (e : ¬ p.1 = k) : atKey (p :: r) k = atKey r k := by simp [atKey, List.find?_cons, e]
theorem KvT.get {K : PySem.W.Frag} {F : Hp} {xs : List (List Int × Addr × Value)} {kvs : List (List Int × D)} (h : KvT K F xs kvs) (i : List Int) :
    (atKey xs i = none ∧ lkp kvs i = none) ∨ ∃ a u v d, atKey xs i = some (a, u) ∧ RelV v u ∧ lkp kvs i = some d ∧ Dp K F v d := by
  induction h with
  | nil => exact .inl ⟨rfl, rfl⟩
  | @cons j a v u d r t q1 q2 q3 _ ih =>
    by_cases e : j = i
    · rw [atKey_pos (p := (j, a, u)) e, lkp_pos (p := (j, d)) e]; exact .inr ⟨a, u, v, d, rfl, q2, rfl, q3⟩
    · rw [atKey_neg (p := (j, a, u)) e, lkp_neg (p := (j, d)) e]; exact ih
theorem KvT.put {K : PySem.W.Frag} {F : Hp} {xs : List (List Int × Addr × Value)} {kvs : List (List Int × D)} (h : KvT K F xs kvs) {i : List Int} {a : Addr} {v : V} {u : Value} {d : D} (qk : Dp K F (.ref a) (.tuple (i.map .int))) (r : RelV v u) (q : Dp K F v d) :
    KvT K F (storedH xs i a u) (putL kvs i d) := by
  have an : (kvs.any fun kv => decide (kv.1 = i)) = (atKey xs i).isSome := by
    rw [lkp_any]
    rcases h.get i with ⟨e1, e2⟩ | ⟨_, _, _, _, e1, _, e2, _⟩ <;> rw [e1, e2] <;> rfl
  have g1 : ∀ {r' : List (List Int × Addr × Value)} {t : List (List Int × D)}, KvT K F r' t → KvT K F (r'.map (putAt i u)) (t.map fun kv => if kv.1 = i then (kv.1, d) else kv) := by
    intro r' t h
    induction h with
    | nil => exact .nil
    | @cons j b w u' e r' t a1 a2 a3 _ ih =>
      rw [List.map_cons, List.map_cons]
      unfold putAt
      by_cases z : j = i
      · subst z; rw [if_pos rfl, if_pos rfl]; exact .cons a1 r q ih
      · rw [if_neg z, if_neg z]; exact .cons a1 a2 a3 ih
  have g2 : ∀ {r' : List (List Int × Addr × Value)} {t : List (List Int × D)}, KvT K F r' t → KvT K F (r' ++ [(i, a, u)]) (t ++ [(i, d)]) := by
    intro r' t h
    induction h with
    | nil => exact .cons qk r q .nil
    | cons a1 a2 a3 _ ih => exact .cons a1 a2 a3 ih
  unfold storedH putL
  rw [an]
  split
  · exact g1 h
  · exact g2 h
theorem KvT.len {K : PySem.W.Frag} {F : Hp} {xs : List (List Int × Addr × Value)} {kvs : List (List Int × D)} (h : KvT K F xs kvs) : xs.length = kvs.length := by
  induction h with
  | nil => rfl
  | cons _ _ _ _ ih => simp [ih]
theorem KvT.at_ {K : PySem.W.Frag} {F : Hp} {xs : List (List Int × Addr × Value)} {kvs : List (List Int × D)} (h : KvT K F xs kvs) : ∀ {i : Nat} {k : List Int} {a : Addr} {u : Value}, xs[i]? = some (k, a, u) → ∃ v d, RelV v u ∧ kvs[i]? = some (k, d) ∧ Dp K F (.ref a) (.tuple (k.map .int)) ∧ Dp K F v d := by
  induction h with
  | nil => intro i k a u e; simp at e
  | @cons j b w u' e r' t a1 a2 a3 _ ih =>
    intro i k a u e
    cases i with
    | zero =>
      simp only [List.getElem?_cons_zero, Option.some.injEq, Prod.mk.injEq] at e
      obtain ⟨rfl, rfl, rfl⟩ := e
      exact ⟨w, _, a2, rfl, a1, a3⟩
    | succ i =>
      simp only [List.getElem?_cons_succ] at e ⊢
      exact ih e
theorem length_putL {κ : Type} [DecidableEq κ] (kvs : List (κ × D)) (k : κ) (v : D) : (putL kvs k v).length ≤ kvs.length + 1 := by
  unfold putL
  split
  · rw [List.length_map]; omega
  · rw [List.length_append, List.length_cons, List.length_nil]; omega
/-! ### rules -/
/-- a dict stands at p -/
def IsDc (K : PySem.W.Frag) (H : Hp) (p : Addr) : Prop := ∃ F v, Sub F H ∧ DcAt K F H p v
theorem isDcAt {X : Cx} {pins : List (Addr × Obj)} {σ : St} {H : Hp} {s : Shared} {a : Addr} (I : Inv X pins σ H s) (d : IsDc X.K H a) :
    s.TypeIs (.ref a) "dict" ∧ ∀ b, Value.ref a = .ref b → ∃ ob, s.heap.get? b = some ob ∧ ob.dict = none := by
  obtain ⟨F, v, sb, d⟩ := d
  cases v with
  | dI kvs =>
    obtain ⟨vs, e, _⟩ := d
    obtain ⟨t1, t2, _⟩ := isD_at I (.inl ⟨vs, .inl e⟩)
    exact ⟨t1, t2⟩
  | dT kvs =>
    obtain ⟨xs, e, q⟩ := d
    obtain ⟨⟨o, es, ep, h1, h2, _⟩, _⟩ := tabAt I (.inl e) (q.mono sb)
    exact ⟨⟨o, h1, h2.1⟩, fun b z => by cases z; exact ⟨o, h1, h2.2.1⟩⟩
  | _ => exact d.elim
/-- what stands in the dict at p for the key y -/
def GtAt (K : PySem.W.Frag) (F H : Hp) (p : Addr) (y : V) (Q : Option V → Prop) : Prop := ∃ v d, Sub F H ∧ DcAt K F H p v ∧ Dp K F y d ∧ dGetW v d fun o => ∀ w, OptAt K F w o → Q w
section
variable {X : Cx} {pins : List (Addr × Obj)} {σ : St} {H F : Hp} {s : Shared} {a : Addr} {y z : V} {u r : Value} {A : Around} {E : Value → Shared → Prop} {G : Option V → Prop}
theorem gt_get2 {Q : Value → Shared → Prop} (hu : A.units + 1 < cLine) (I : Inv X pins σ H s) (g : GtAt X.K F H a y G) (ry : RelV y u) (rz : RelV z r) (h : ∀ w w' s', G w → Inv X pins σ H s' → RelV (w.getD z) w' → Q w' s') :
    wpAny (model X.prog X.w) A (call (.builtin "dict.get") [.ref a, u, r]) Q E s := by
  obtain ⟨v, d, sb, da, dy, g⟩ := g
  cases v with
  | dI kvs =>
    obtain ⟨vs, e, q⟩ := da
    obtain ⟨i, ei, g⟩ := g
    cases d with
    | int j =>
      cases ei
      cases dpInt dy
      exact d_get2 hu I (DGet.k (k := .inl i) e) ry rz fun w' s' I' rw' => h _ w' s' (g _ (q.get i)) I' rw'
    | _ => cases ei
  | dT kvs =>
    obtain ⟨xs, e, q⟩ := da
    obtain ⟨i, ei, g⟩ := g
    cases d with
    | tuple ys =>
      obtain rfl := of_asInts ei
      obtain ⟨b, ws, rfl, _⟩ := dpTup dy
      cases (show u = Value.ref b from ry)
      obtain ⟨dd, hd, hz⟩ := tabAt I (.inl e) (q.mono sb)
      refine call_meetsIn PySem.F.slot_dict_get dd.typeIs PySem.F.entry_dict_get (PySem.F.args_dict_get_3 _ _ _) (meetsH_dict_get_default (tupleKind (intKind X.prog X.w)) a b hd r) ⟨tupleKind_room_in1 hu, i, xs, keyAt I (dpSub sb dy), dd, ?_⟩
      rcases q.get i with ⟨e1, e2⟩ | ⟨c, u2, v2, d2, e1, e2, e3, e4⟩
      · rw [e1]
        exact h none _ _ (g none (by rw [e2]; exact True.intro)) (I.tok _) rz
      · rw [e1]
        exact h (some v2) _ _ (g (some v2) (by rw [e3]; exact e4)) (I.tok _) e2
    | _ => cases ei
  | _ => exact da.elim
theorem gt_item {Q : Value → Shared → Prop} (hu : A.units + 1 < cLine) (I : Inv X pins σ H s) (g : GtAt X.K F H a y G) (hs : ∀ w, G w → w ≠ none) (ry : RelV y u) (h : ∀ w w' s', G (some w) → Inv X pins σ H s' → RelV w w' → Q w' s') :
    wpAny (model X.prog X.w) A (getItem (.ref a) u) Q E s := by
  obtain ⟨v, d, sb, da, dy, g⟩ := g
  cases v with
  | dI kvs =>
    obtain ⟨vs, e, q⟩ := da
    obtain ⟨i, ei, g⟩ := g
    cases d with
    | int j =>
      cases ei
      cases dpInt dy
      have g1 := g _ (q.get i)
      cases hv : valV vs (Sum.inl i) with
      | none => rw [hv] at g1; exact absurd rfl (hs _ g1)
      | some w =>
        rw [hv] at g1
        exact d_getItem hu I (v := w) (by rw [← hv]; exact DGet.k (k := .inl i) e) ry fun w' s' I' rw' => h w w' s' g1 I' rw'
    | _ => cases ei
  | dT kvs =>
    obtain ⟨xs, e, q⟩ := da
    obtain ⟨i, ei, g⟩ := g
    cases d with
    | tuple ys =>
      obtain rfl := of_asInts ei
      obtain ⟨b, ws, rfl, _⟩ := dpTup dy
      cases (show u = Value.ref b from ry)
      obtain ⟨dd, hd, hz⟩ := tabAt I (.inl e) (q.mono sb)
      rcases q.get i with ⟨e1, e2⟩ | ⟨c, u2, v2, d2, e1, e2, e3, e4⟩
      · exact absurd rfl (hs none (g none (by rw [e2]; exact True.intro)))
      · refine wpAny_getItem_heap (tupleKind_room_in1 hu) (keyAt I (dpSub sb dy)) dd e1 ?_
        exact h v2 _ _ (g (some v2) (by rw [e3]; exact e4)) (I.tok _) e2
    | _ => cases ei
  | _ => exact da.elim
/-- d[y] = z -/
theorem gt_put {Q : Unit → Shared → Prop} {v : Val} {d dz : D} (hu : A.units + 1 < cLine) (I : Inv X pins σ H s) (sb : Sub F H) (da : DcAt X.K F H a v) (dy : Dp X.K F y d) (dv : Dp X.K F z dz) {G : Val → Prop} (w : dPutW v d dz G) (ry : RelV y u) (rz : RelV z r)
    (h : ∀ v' o s', G v' → isDc v' = true → DcAt X.K F (upd H a o) a v' → Inv X pins σ (upd H a o) s' → Q () s') : wpAny (model X.prog X.w) A (setItem (.ref a) u r) Q E s := by
  cases v with
  | dI kvs =>
    obtain ⟨vs, e, q⟩ := da
    obtain ⟨i, ei, hl, w⟩ := w
    cases d with
    | int j =>
      cases ei
      cases dpInt dy
      exact d_setItem hu I (DPut.k (k := .inl i) e (by rw [q.len, line24]; exact hl)) ry rz fun s' I' => h _ _ s' w rfl ⟨_, upd_same, q.put dv⟩ I'
    | _ => cases ei
  | dT kvs =>
    obtain ⟨xs, e, q⟩ := da
    obtain ⟨i, ei, hl, w⟩ := w
    cases d with
    | tuple ys =>
      obtain rfl := of_asInts ei
      obtain ⟨b, ws, rfl, _⟩ := dpTup dy
      cases (show u = Value.ref b from ry)
      obtain ⟨dd, hd, hz⟩ := tabAt I (.inl e) (q.mono sb)
      have q' : KvT X.K F (storedH xs i b r) (putL kvs i dz) := q.put dy rz dv
      have hl2 : (storedH xs i b r).length ≤ sizeLine := by
        rw [q'.len, line24]
        have := length_putL kvs i dz
        omega
      refine wpAny_setItem_heap (hsz := hz) (tupleKind_room_in1 hu) (keyAt I (dpSub sb dy)) dd fun h' dd' hs => h _ (.ext (TbAt a (storedH xs i b r))) _ w rfl ⟨_, upd_same, q'⟩ ?_
      obtain ⟨o, es, ep, ho, h2, h3, h4, _, h5⟩ := dd'
      refine d_write I (by rw [e]; exact True.intro) hs ⟨o, ho⟩ ?_
      refine ⟨⟨o, es, ep, ho, h2, h3, h4, h5, hl2, hd⟩, ⟨o, ho⟩, fun h1 h2' φ st => ?_⟩
      obtain ⟨o, es, ep, ho, r⟩ := φ
      exact ⟨o, es, ep, st o ho, r⟩
    | _ => cases ei
  | _ => exact da.elim
end
section
variable {fns : List FnI} {cls : List Str} {N : List Str} {C : Nat → Addr} {Φ : Fs} {k : Nat} {X : Cx} {b : Bd} {sc : Scope}
def tGt2 (K : PySem.W.Frag) (td ty tx : TE) : TE := fun σ H Q => td σ H fun x H1 => ∃ a, x = .ref a ∧ IsDc K H1 a ∧ ty σ H1 fun y H2 => tx σ H2 fun z H3 => ∃ F, GtAt K F H3 a y fun w => Q (w.getD z) H3
def tGtI (K : PySem.W.Frag) (td ty : TE) : TE := fun σ H Q => td σ H fun x H1 => ∃ a, x = .ref a ∧ IsDc K H1 a ∧ ty σ H1 fun y H2 => ∃ F, GtAt K F H2 a y fun w => ∃ z, w = some z ∧ Q z H2
theorem pe_gt2 {o e f : Expr} {apos cpos : Pos} {td ty tx : TE} (hu : X.A.units + 1 < cLine) (ho : PE X o td) (he : PE X e ty) (hf : PE X f tx) (m : M2 X o "get" apos e f cpos) : PE X (.Call (.Attribute o "get" apos) [e, f] [] cpos) (tGt2 X.K td ty tx) := by
  refine ⟨fun pins s σ H Q I h => ?_⟩
  refine wpAny_Call_method m.base m.few m.line PySem.F.plainAttrs_dict PySem.F.slot_dict_get PySem.F.type_dict_get (thn (ho.run pins s σ H _ I h) fun u s1 ⟨x, H1, I1, rx, a, ex, d, q1⟩ => ?_)
  subst ex
  obtain rfl : u = Value.ref a := rx
  obtain ⟨t1, t2⟩ := isDcAt I1 d
  refine ⟨t1, t2, ?_⟩
  rw [m.trees]
  refine Calls.callWith_builtin rfl (Calls.evalArgs_plain (Calls.spliced_cons (thn (he.run pins s1 σ H1 _ I1 q1) fun iv s2 ⟨y, H2, I2, ry, q2⟩ =>
    Calls.spliced_cons (thn (hf.run pins s2 σ H2 _ I2 q2) fun fv s3 ⟨z, H3, I3, rz, F, g⟩ => Calls.spliced_nil ?_))))
  exact gt_get2 hu I3 g ry rz fun w w' s4 q3 I4 rw' => ⟨_, H3, I4, rw', q3⟩
theorem pe_gtI {o i : Expr} {pos : Pos} {td ty : TE} (hu : X.A.units + 1 < cLine) (ho : PE X o td) (hi : PE X i ty) (hs : NoSl i) : PE X (.Subscript o i pos) (tGtI X.K td ty) := by
  refine ⟨fun pins s σ H Q I h => ?_⟩
  refine subD_of PySem.F.slot_dict_getitem.lookup hs (thn (ho.run pins s σ H _ I h) fun u s1 ⟨x, H1, I1, rx, a, ex, d, q1⟩ => thn (hi.run pins s1 σ H1 _ I1 q1) fun iv s2 ⟨y, H2, I2, ry, F, g⟩ => ?_)
  subst ex
  obtain rfl : u = Value.ref a := rx
  have d2 : IsDc X.K H2 a := let ⟨v, d, sb, da, _⟩ := g; ⟨F, v, sb, da⟩
  exact ⟨(isDcAt I2 d2).1, gt_item hu I2 g (fun w ⟨z, e, _⟩ => by rw [e]; exact fun z => nomatch z) ry fun w w' s3 ⟨z, e, q⟩ I3 rw' => by
    cases e
    exact ⟨_, H2, I3, rw', q⟩⟩
theorem isDcOf {K : PySem.W.Frag} {H0 : Zn} {F0 F H : Hp} {σ : St} {ε : Ev} (R : Rep K H0 F0 F H σ ε) {p : Addr} {v : Val} (d : DcAt K F H p v) : IsDc K H p := ⟨F, v, R.fh, d⟩
theorem eDget (ok : Cok fns cls N C Φ k X sc b.W) {j : Nat} {y : Str} {ki xi : IE} {e f : Expr} {p q p2 : Pos} (h1 : (nmB N j y && visB sc y) = true) (hl : (q.endLine == p.line) = true) (pe : plainE e = true) (pf : plainE f = true)
    (he : PE X e (rdE X.K b (wE Φ ki))) (hf : PE X f (rdE X.K b (wE Φ xi))) : PE X (.Call (.Attribute (.Name y p2) "get" q) [e, f] [] p) (rdE X.K b (wE Φ (.dget j ki xi))) := by
  have z2 := starOf (es := []) (env := X.env) pf
  have z := starOf (es := [f]) (env := X.env) pe
  refine peImp (pe_gt2 (by have := ok.room.units; omega) (peVar (p := p2) ok h1) (peD he) (peD hf) ⟨rfl, by rw [z, z2]; rfl, hl, by rw [z, z2]; rfl⟩) fun σ H Q ⟨ε, F, Xp, Qp, R, w, ex, kk⟩ => ?_
  obtain ⟨v0, r, g0, gd, g2, g3, g5, g6, w⟩ := dictGo R w
  refine ⟨.ref r, g2, r, rfl, isDcOf R g3, ε, F, Xp, _, R, w, ex, fun d1 ε1 H1 F1 x1 s1 f1 R1 a1 q1 => ⟨ε1, F1, Xp, _, R1, q1, ex.mono s1, fun d2 ε2 H2 F2 x2 s2 f2 R2 a2 q2 => ?_⟩⟩
  obtain ⟨v, r', k0, kd, k2, k3, k5, k6, q2⟩ := dictGo R2 q2
  obtain rfl := refEq k2 g2
  refine ⟨F2, v, d1, R2.fh, k3, dpSub f2 a1, ?_⟩
  have fin : ∀ o, Qp (.d (o.getD d2)) ε2 → ∀ w, OptAt X.K F2 w o → Q (w.getD x2) H2 := fun o qq w ow => by
    cases o with
    | none => cases w with
      | none => exact kk (.d d2) ε2 H2 F2 _ (s1.trans s2) (f1.trans f2) R2 a2 qq
      | some _ => exact ow.elim
    | some d => cases w with
      | none => exact ow.elim
      | some x => exact kk (.d d) ε2 H2 F2 _ (s1.trans s2) (f1.trans f2) R2 ow qq
  cases v with
  | dI kvs => obtain ⟨i, e1, q3⟩ := q2; exact ⟨i, e1, fin _ q3⟩
  | dT kvs => obtain ⟨i, e1, q3⟩ := q2; exact ⟨i, e1, fin _ q3⟩
  | _ => exact q2.elim
theorem noSlOf {e : Expr} (h : plainE e = true) : NoSl e := by
  cases e <;> first | exact fun _ _ => rfl | exact absurd h Bool.false_ne_true
theorem eDix (ok : Cok fns cls N C Φ k X sc b.W) {j : Nat} {y : Str} {ki : IE} {e : Expr} {p p2 : Pos} (h1 : (nmB N j y && visB sc y) = true) (pe : plainE e = true)
    (he : PE X e (rdE X.K b (wE Φ ki))) : PE X (.Subscript (.Name y p2) e p) (rdE X.K b (wE Φ (.dix j ki))) := by
  refine peImp (pe_gtI (by have := ok.room.units; omega) (peVar (p := p2) ok h1) (peD he) (noSlOf pe)) fun σ H Q ⟨ε, F, Xp, Qp, R, w, ex, kk⟩ => ?_
  obtain ⟨v0, r, g0, gd, g2, g3, g5, g6, w⟩ := dictGo R w
  refine ⟨.ref r, g2, r, rfl, isDcOf R g3, ε, F, Xp, _, R, w, ex, fun d1 ε1 H1 F1 x1 s1 f1 R1 a1 q1 => ?_⟩
  obtain ⟨v, r', k0, kd, k2, k3, k5, k6, q2⟩ := dictGo R1 q1
  obtain rfl := refEq k2 g2
  refine ⟨F1, v, d1, R1.fh, k3, a1, ?_⟩
  have fin : ∀ o : Option D, (∃ d, o = some d ∧ Qp (.d d) ε1) → ∀ w, OptAt X.K F1 w o → ∃ z, w = some z ∧ Q z H1 := fun o ⟨d, e, qq⟩ w ow => by
    subst e
    cases w with
    | none => exact ow.elim
    | some x => exact ⟨x, rfl, kk (.d d) ε1 H1 F1 _ s1 f1 R1 ow qq⟩
  cases v with
  | dI kvs => obtain ⟨i, e1, q3⟩ := q2; exact ⟨i, e1, fin _ q3⟩
  | dT kvs => obtain ⟨i, e1, q3⟩ := q2; exact ⟨i, e1, fin _ q3⟩
  | _ => exact q2.elim
end
end Rc

/-! Dicts: sorted, walked. Lists of data sorted. -/
namespace Rc
open PySem PySem.Spec PyProof.Rows L2
theorem daInts {K : PySem.W.Frag} {F : Hp} : ∀ ns : List Int, DpAll K F (ns.map V.int) (ns.map .int)
  | [] => .nil
  | i :: r => .cons (.int i) (daInts r)
section
variable {K : PySem.W.Frag} {F : Hp}
theorem zipDa : ∀ {vs : List V} {ds : List D}, DpAll K F vs ds → ∀ p ∈ vs.zip ds, Dp K F p.1 p.2
  | _, _, .nil, p, h => by cases h
  | _, _, .cons a c, p, h => by
    rcases List.mem_cons.mp h with e | h
    · subst e; exact a
    · exact zipDa c p h
theorem daZip : ∀ {zs : List (V × D)}, (∀ p ∈ zs, Dp K F p.1 p.2) → DpAll K F (zs.map (·.1)) (zs.map (·.2))
  | [], _ => .nil
  | p :: r, h => .cons (h p (List.mem_cons_self ..)) (daZip fun q hq => h q (List.mem_cons_of_mem _ hq))
theorem zipSnd : ∀ {vs : List V} {ds : List D}, DpAll K F vs ds → (vs.zip ds).map (·.2) = ds
  | _, _, .nil => rfl
  | _, _, .cons _ c => by rw [List.zip_cons_cons, List.map_cons, zipSnd c]
end
theorem valsEach : ∀ {zs : List (V × D)} {out : List Value}, PySem.W.EachIs (fun u (p : V × D) => RelV p.1 u) out zs → Vals (zs.map (·.1)) out
  | _, _, .nil => .nil
  | _, _, .cons r t => .cons r (valsEach t)
theorem eachVals {K : PySem.W.Frag} {F : Hp} : ∀ {vs : List V} {ds : List D} {its : List Value}, DpAll K F vs ds → Vals vs its → PySem.W.EachIs (fun u (p : V × D) => RelV p.1 u) its (vs.zip ds)
  | _, _, _, .nil, r => by cases r; exact .nil
  | _, _, _, .cons _ c, r => by
    cases r with
    | cons h t => exact .cons h (eachVals c t)
theorem eachReads {X : Cx} {pins : List (Addr × Obj)} {σ : St} {H : Hp} {s : Shared} (I : Inv X pins σ H s) : ∀ {vs : List V} {ds : List D} {its : List Value}, DpAll X.K H vs ds → Vals vs its → PySem.W.EachIs (fun u (p : V × D) => ∃ as, Reads s.heap u p.2 as) its (vs.zip ds)
  | _, _, _, .nil, r => by cases r; exact .nil
  | _, _, _, .cons a c, r => by
    cases r with
    | cons h t => exact .cons (L2.Dp.reads I _ _ _ (dpOut a) h) (eachReads I c t)
section
variable {X : Cx}
/-- sorted(xs) of data -/
theorem cr_sortD (hu : X.A.units + 20 < cLine) : CallR X (.builtin "sorted") (fun xs H Q => ∃ F x d, ∃ G : List D → Prop, xs = [x] ∧ Sub F H ∧ Dp X.K F x d ∧ srtW d G ∧ ∀ ys vs p, H p = none → DpAll X.K F vs ys → G ys → Q (.ref p) (upd H p (.lst vs))) := by
  intro pins s σ H xs us Q I r h
  obtain ⟨F, x, d, G, rfl, sb, dx, w, q⟩ := h
  cases d with
  | list ds =>
    obtain ⟨hal, hk, ⟨hlen, hdp⟩, w⟩ := w
    obtain ⟨a, vs, rfl, hs, da⟩ := dpLst dx
    obtain ⟨its, rv, hl, hz⟩ := I.list (sqlSub sb hs)
    rw [Vals.ref1 r]
    have z2 := zipSnd da
    have el : (vs.zip ds).length = ds.length := by rw [← congrArg List.length z2, List.length_map]
    refine PySem.W.sorted_data (β := V × D) (bs := vs.zip ds) (enc := Prod.snd) (R := fun u p => RelV p.1 u) hl.isList (eachVals da rv) (eachReads I (daSub sb da) rv) (by rw [z2]; exact hal) (by rw [z2]; exact hk) (by rw [el, line24]; exact hlen)
      (fun b hb => ?_) fun out ho eo => ?_
    · have hm : b.2 ∈ ds := by rw [← z2]; exact List.mem_map_of_mem hb
      have := hdp b.2 hm
      omega
    · obtain ⟨ep, he'⟩ := PyProof.Rows.sortedAll_at s.heap its out.toArray
      have em : ((vs.zip ds).mergeSort (PySem.W.dataLe false Prod.snd)).map (·.2) = ds.mergeSort (PySem.W.dataLe false id) := by
        have e0 := List.map_mergeSort (r := PySem.W.dataLe false (Prod.snd : V × D → D)) (s := PySem.W.dataLe false (id : D → D)) (f := Prod.snd) (l := vs.zip ds) (fun a _ b _ => rfl)
        refine e0.trans ?_
        rw [show List.map Prod.snd (vs.zip ds) = ds from z2]
      have dz : DpAll X.K F (((vs.zip ds).mergeSort (PySem.W.dataLe false Prod.snd)).map (·.1)) (ds.mergeSort (PySem.W.dataLe false id)) := by
        rw [← em]
        exact daZip fun p hp => zipDa da p ((List.mergeSort_perm _ _).mem_iff.mp hp)
      have rv2 := valsEach eo
      have hlen2 : (((vs.zip ds).mergeSort (PySem.W.dataLe false Prod.snd)).map (·.1)).length ≤ sizeLine := by
        rw [daLen dz, (List.mergeSort_perm _ _).length_eq, line24]; exact hlen
      exact ⟨.ref _, upd H (s.heap.objs.size + 1) (.lst _), I.laid (t' := s.toks) (fun _ _ => PyProof.Rows.sortedAll_old) (Nat.le_succ _) ⟨hlen2, out, ep, rv2, he'⟩, rfl, q _ _ _ (I.hok.fresh (Nat.le_succ _)) dz w⟩
  | _ => exact w.elim
end
section
variable {fns : List FnI} {cls : List Str} {N : List Str} {C : Nat → Addr} {Φ : Fs} {k : Nat} {X : Cx} {b : Bd} {sc : Scope}
theorem eSrt (ok : Cok fns cls N C Φ k X sc b.W) {a : IE} {x : Str} {e : Expr} {p pos : Pos} (hx : x = "sorted") (hg : glB sc x = true) (pe : plainE e = true) (he : PE X e (rdE X.K b (wE Φ a))) :
    PE X (.Call (.Name x p) [e] [] pos) (rdE X.K b (wE Φ (.srt a))) := by
  subst hx
  have st := starOf (es := []) (env := X.env) pe
  refine peImp (pe_callB (cr_sortD (by have := ok.room.un; omega)) (glB_of ok hg) (ok.blt _ (by decide)) (by decide +kernel) (pa_cons (peD he) pa_nil st) (by decide) (by decide) st rfl) fun σ H Q ⟨ε, F, Xp, Qp, R, w, ex, kk⟩ => ?_
  refine ⟨ε, F, Xp, _, R, w, ex, fun d ε1 H1 F1 v s1 f1 R1 d1 q1 => ⟨F1, v, d, _, rfl, R1.fh, d1, q1, fun ys vs r hr da q => ?_⟩⟩
  exact kk (.own ys) ε1 _ F1 (.ref r) (s1.trans (.of (same_upd hr))) f1 (R1.lst _ hr) (VAt.newL R1 hr da) q
theorem eDsrt (ok : Cok fns cls N C Φ k X sc b.W) {j : Nat} {x y : Str} {p p2 pos : Pos} (hx : x = "sorted") (hg : glB sc x = true) (h1 : (nmB N j y && visB sc y) = true) :
    PE X (.Call (.Name x p) [.Name y p2] [] pos) (rdE X.K b (wE Φ (.dsrt j))) := by
  subst hx
  have st := starOf (e := .Name y p2) (es := []) (env := X.env) rfl
  refine peImp (pe_callB (call_sortedDI ok.calm) (glB_of ok hg) (ok.blt _ (by decide)) (by decide +kernel) (pa_cons (peVar (p := p2) ok h1) pa_nil st) (by decide) (by decide) st rfl) fun σ H Q ⟨ε, F, Xp, Qp, R, w, ex, kk⟩ => ?_
  obtain ⟨v0, r, g0, gd, g2, g3, g5, g6, w⟩ := dictGo R w
  cases v0 with
  | dI kvs =>
    obtain ⟨vs, e, q⟩ := g3
    refine ⟨.ref r, g2, r, vs, kvs.map (·.1), rfl, .inl e, q.keys, by rw [List.length_map]; exact w.1, fun ys t hp hs hn => ?_⟩
    have ey := PySem.W.os_sorted_mergeSort hp hs
    subst ey
    exact kk (.own _) ε _ F (.ref t) (.of (same_upd hn)) (.refl _) (R.lst _ hn) (VAt.newL R hn (daInts _)) w.2
  | _ => exact w.elim
end
/-! ### d.items() -/
/-- the pairs of a locked dict, each a new tuple -/
def ItiT (d : Addr) (o : Obj) (xs : List (List Int × Addr × Value)) (vs : List V) : It :=
  ⟨fun i H => H d = some (.frz o (.ext (TbAt d xs))) ∧ i < xs.length, fun i H x H' => ∃ T k a u v, xs[i]? = some (k, a, u) ∧ vs[i]? = some v ∧ x = .ref T ∧ H T = none ∧ H' = upd H T (.tup [.ref a, v]),
    fun i H => H d = some (.frz o (.ext (TbAt d xs))) ∧ xs.length ≤ i⟩
theorem frzX {X : Cx} {pins : List (Addr × Obj)} {σ : St} {H : Hp} {s : Shared} {d : Addr} {o : Obj} {xs : List (List Int × Addr × Value)} (I : Inv X pins σ H s) (h : H d = some (.frz o (.ext (TbAt d xs)))) :
    (d == sysModules) = false ∧ ∃ es ep, o.data = .dict es ep ∧ s.heap.DictRaw d es ep ∧ es.size = xs.length ∧ ∀ i (hi : i < es.size) k a u, xs[i]? = some (k, a, u) → es[i].key = .ref a ∧ es[i].val = u := by
  obtain ⟨h0, ⟨o', es, ep, a1, a2, a3, a4, a5, a6, a7⟩, _⟩ := (show ObjOk X.prog X.w H s.heap d (.frz o (.ext (TbAt d xs))) from I.hok d _ h)
  rw [h0] at a1
  cases a1
  have hz : es.size = xs.length := by rw [← Array.length_toList, a4, List.length_map]
  refine ⟨a7, es, ep, a3, ⟨o, h0, a2, a3⟩, hz, fun i hi k a u e => ?_⟩
  have q : es.toList[i]? = some (entT (k, a, u)) := by rw [a4, List.getElem?_map, e]; rfl
  rw [Array.getElem?_toList, Array.getElem?_eq_getElem hi] at q
  rw [Option.some.inj q]
  exact ⟨rfl, rfl⟩
theorem turn_itemsT {P : Program} {w : World} {K : PySem.W.Frag} {d : Addr} {o : Obj} {es : Array DictEntry} {ep : Nat} {xs : List (List Int × Addr × Value)} {vs : List V} {elts : List Expr} {kk : Nat} {tpos : Pos} (it : Addr) (hod : o.data = .dict es ep)
    (hv : ∀ (i : Nat) (k : List Int) (a : Addr) (u : Value), xs[i]? = some (k, a, u) → ∃ v, vs[i]? = some v ∧ RelV v u) :
    Turn P w K (.Tuple elts kk tpos) (ItiT d o xs vs) [it] it (fun i h => ∃ ok ov, IsItemIter h it d i xs.length ep ok ov) where
  mem := by simp
  obj := fun i h st b hb => by
    have e : b = it := by simpa using hb
    subst e
    obtain ⟨ok, ov, e⟩ := st
    exact ⟨_, e, fun v z => nomatch z⟩
  keep := fun i h h' st k => let ⟨ok, ov, e⟩ := st; ⟨ok, ov, k it (by simp) _ e⟩
  item := by
    intro X hP hw hK hc i pins s σ H E I hf st hg
    subst hP hw hK
    obtain ⟨hd, hi⟩ := hg
    obtain ⟨hs, es', ep', hdt, hm, hsz, hen⟩ := frzX I hd
    obtain ⟨rfl, rfl⟩ := dict_ep hod hdt
    obtain ⟨⟨k, a, u⟩, hkv⟩ : ∃ p, xs[i]? = some p := ⟨xs[i], List.getElem?_eq_getElem hi⟩
    obtain ⟨v, hvv, rv⟩ := hv i k a u hkv
    obtain ⟨ok, ov, he⟩ := st
    rw [← hsz] at he
    have hlt : it < s.heap.objs.size := Heap.lt_size he
    have hi' : i < es'.size := by rw [hsz]; exact hi
    obtain ⟨e1, e2⟩ := hen i hi' k a u hkv
    refine wpAny_pyNext_items_item_raw he hm hi' fun h' ho hT hz hk => ?_
    rw [e1, e2] at hT ho
    refine ⟨_, rfl, wpAny_letOwnedTupleGo_items (s := { s with heap := h' }) ho fun h'' he' sb => ?_⟩
    have hT2 : h''.get? s.heap.objs.size = some { cls := .type "tuple", data := .seq #[.ref a, u] } := (sb.2 _ (Nat.ne_of_gt hlt)).trans hT
    have new : ObjOk X.prog X.w (upd H s.heap.objs.size (.tup [.ref a, v])) h'' s.heap.objs.size (.tup [.ref a, v]) :=
      ⟨by show 2 ≤ sizeLine; decide, [.ref a, u], .cons rfl (.cons rv .nil), ⟨_, hT2, rfl, _, rfl⟩⟩
    have I1 : Inv X pins σ (upd H s.heap.objs.size (.tup [.ref a, v])) { s with heap := h'' } :=
      I.turnedNew (t' := s.toks) (ch := [it]) (fun b ob hb e => (sb.2 b (by simpa using hb)).trans (hk b ob (by simpa using hb) e)) hf (Nat.le_refl _) new
    refine ⟨.ref s.heap.objs.size, _, I1, rfl, ⟨_, k, a, u, v, hkv, hvv, rfl, I.hok.fresh (Nat.le_refl _), rfl⟩, ⟨.ref a, u, ?_⟩, fun b hb => ?_⟩
    · rw [← hsz]; exact he'
    · have e : b = it := by simpa using hb
      rw [e, upd_ne (Nat.ne_of_lt hlt)]
      exact (hf it (by simp)).1
  done := by
    intro X hP hw hK hc i pins s σ H E I hf st hg
    subst hP hw hK
    obtain ⟨hd, hi⟩ := hg
    obtain ⟨f0, f1, f2, f3, f4, f5⟩ := hf it (by simp)
    obtain ⟨hs, es', ep', hdt, hm, hsz, hen⟩ := frzX I hd
    obtain ⟨rfl, rfl⟩ := dict_ep hod hdt
    obtain ⟨ok, ov, he⟩ := st
    rw [← hsz] at he
    exact wpAny_pyNext_items_end_raw (I.ok.hd hc) he hm (by omega) fun h' eb => ⟨rfl, I.turned (t' := s.toks) (fun b ob hb e => eb b ob hb e) f0 f1 f3 f4 f5⟩
  self := fun A i s Q E st h => let ⟨_, _, e⟩ := st; PySem.W.kcp_self e h
def iItemsD (td : TE) : TI := fun σ H R => td σ H fun x H1 => ∃ d o, x = .ref d ∧ ((∃ kvs, H1 d = some (.frz o (.dK kvs)) ∧ R (Iti d o kvs) H1) ∨
  ∃ xs vs, H1 d = some (.frz o (.ext (TbAt d xs))) ∧ (∀ (i : Nat) (k : List Int) (a : Addr) (u : Value), xs[i]? = some (k, a, u) → ∃ v, vs[i]? = some v ∧ RelV v u) ∧ R (ItiT d o xs vs) H1)
theorem pi_itemsD {X : Cx} {e : Expr} {td : TE} {apos cpos : Pos} {elts : List Expr} {kk : Nat} {tpos : Pos} (he : PE X e td) (hbase : attributeBase e "items" X.env (eval e X.env) = eval e X.env) (hline : (apos.endLine == cpos.line) = true) :
    PI X (.Tuple elts kk tpos) (.Call (.Attribute e "items" apos) [] [] cpos) (iItemsD td) := by
  refine ⟨fun pins s σ H R I h => ?_⟩
  refine wpAny_Call_method (T := "dict") (id := "dict.items") hbase rfl hline PySem.F.plainAttrs_dict PySem.F.slot_dict_items PySem.F.type_dict_items (thn (he.run pins s σ H _ I h) fun u s1 ⟨x, H1, I1, rx, d, o, ex, q⟩ => ?_)
  subst ex
  obtain rfl : u = Value.ref d := rx
  have I2 : Inv X pins σ H1 { s1 with heap := s1.heap.push { cls := .type "dict_items", data := .fields #[.ref d] } } := I1.kept (t' := s1.toks) fun b ob q => Heap.get?_push_of_some _ q
  rcases q with ⟨kvs, hd, q⟩ | ⟨xs, vs, hd, hv, q⟩
  · obtain ⟨hs, hgd, hx, es, ep, vs, hdt, hsz, kv, hm⟩ := I1.frzK hd
    have hl : kvs.length = vs.length := Paired.length kv
    refine ⟨hm.dictOf.typeIs, hm.dictOf.mapOf.noDict, ?_⟩
    have fin : wpAny (model X.prog X.w) X.A (pyIter (.ref s1.heap.objs.size)) (PIE X pins σ (.Tuple elts kk tpos) R) X.xe { s1 with heap := s1.heap.push { cls := .type "dict_items", data := .fields #[.ref d] } } := by
      refine wpAny_pyIter_items (d := d) (knd := mixKind X.prog X.w) ⟨_, Heap.get?_push_size _ rfl, rfl, rfl⟩ (hm.push _) (pi_one (tk := s1.toks) I2 _ (turn_items _ hdt) ⟨.none, .none, ?_⟩ q)
      rw [hl]
      exact Heap.get?_push_size _ rfl
    show wpAny _ _ (callWith cpos (.builtin "dict.items") [.ref d] [] []) _ X.xe s1
    exact method_meetsIn PySem.F.slot_dict_items PySem.F.entry_dict_items rfl (PySem.evalArgs_none ⟨rfl, hm.dictOf.typeIs, PySem.F.args_dict_items_1 _, _, meets_dict_items (mixKind X.prog X.w) d hs, ⟨vs, hm.dictOf⟩, fin⟩)
  · obtain ⟨hs, es, ep, hdt, hm, hsz, hen⟩ := frzX I1 hd
    refine ⟨hm.typeIs, fun b z => (by cases z; obtain ⟨o', h1, h2, _⟩ := hm; exact ⟨o', h1, h2.2.1⟩), ?_⟩
    have fin : wpAny (model X.prog X.w) X.A (pyIter (.ref s1.heap.objs.size)) (PIE X pins σ (.Tuple elts kk tpos) R) X.xe { s1 with heap := s1.heap.push { cls := .type "dict_items", data := .fields #[.ref d] } } := by
      refine wpAny_pyIter_items_raw (d := d) ⟨_, Heap.get?_push_size _ rfl, rfl, rfl⟩ (hm.at fun o e => Heap.get?_push_of_some _ e) (pi_one (tk := s1.toks) I2 _ (turn_itemsT _ hdt hv) ⟨.none, .none, ?_⟩ q)
      rw [← hsz]
      exact Heap.get?_push_size _ rfl
    show wpAny _ _ (callWith cpos (.builtin "dict.items") [.ref d] [] []) _ X.xe s1
    exact method_meetsIn PySem.F.slot_dict_items PySem.F.entry_dict_items rfl (PySem.evalArgs_none ⟨rfl, hm.typeIs, PySem.F.args_dict_items_1 _, _, meets_dict_items_raw d hs, ⟨es, ep, hm⟩, fin⟩)
theorem newPr {K : PySem.W.Frag} {F H : Hp} {T : Addr} {y x : V} {e z : D} (s2 : Sub F H) (hT : H T = none) (g0 : Dp K F y e) (g : Dp K F x z) :
    Same H (upd H T (.tup [y, x])) ∧ ∃ F' d, Sub F F' ∧ Sub F' (upd H T (.tup [y, x])) ∧ New F F' H ∧ d = .tuple [e, z] ∧ Dp K F' (.ref T) d := by
  have sb : Sub F (upd F T (.tup [y, x])) := sub_updF (s2.none hT)
  exact ⟨same_upd hT, upd F T _, _, sb, s2.upd2, .add hT, rfl, Dp.tup (.inl (.inl upd_same)) (.cons (dpSub sb g0) (.cons (dpSub sb g) .nil))⟩
section
variable {K : PySem.W.Frag} {F1 : Hp}
theorem itItI {d : Addr} {o : Obj} {vs : List (Key × V)} {kvs : List (Int × D)} (h : KvI K F1 vs kvs) (hd : F1 d = some (.frz o (.dK vs))) : ItOk K (Iti d o vs) F1 (itemsD (.dI kvs)) where
  go := fun i H hi s => ⟨s _ _ hd, by rw [h.len]; simpa [itemsD] using hi⟩
  stop := fun H s => ⟨s _ _ hd, by rw [h.len]; simp [itemsD]⟩
  yld := fun i H x H' F hi s1 s2 y => by
    obtain ⟨T, k, v, e, rfl, hT, rfl⟩ := y
    obtain ⟨j, dd, rfl, e2, dv⟩ := h.at_ e
    obtain ⟨p1, F', e', p2, p3, p4, rfl, p5⟩ := newPr s2 hT (.int j) (dpSub s1 dv)
    exact ⟨p1, F', _, p2, p3, p4, by simp [itemsD, e2], p5⟩
theorem itItT {d : Addr} {o : Obj} {xs : List (List Int × Addr × Value)} {vs : List V} {kvs : List (List Int × D)} (h : KvT K F1 xs kvs)
    (hv : ∀ (i : Nat) (k : List Int) (a : Addr) (u : Value) (v : V), xs[i]? = some (k, a, u) → vs[i]? = some v → ∃ dd, kvs[i]? = some (k, dd) ∧ Dp K F1 (.ref a) (.tuple (k.map .int)) ∧ Dp K F1 v dd) (hd : F1 d = some (.frz o (.ext (TbAt d xs)))) : ItOk K (ItiT d o xs vs) F1 (itemsD (.dT kvs)) where
  go := fun i H hi s => ⟨s _ _ hd, by rw [h.len]; simpa [itemsD] using hi⟩
  stop := fun H s => ⟨s _ _ hd, by rw [h.len]; simp [itemsD]⟩
  yld := fun i H x H' F hi s1 s2 y => by
    obtain ⟨T, k, a, u, v, e, ev, rfl, hT, rfl⟩ := y
    obtain ⟨dd, e2, dk, dv⟩ := hv i k a u v e ev
    obtain ⟨p1, F', e', p2, p3, p4, rfl, p5⟩ := newPr s2 hT (dpSub s1 dk) (dpSub s1 dv)
    exact ⟨p1, F', _, p2, p3, p4, by simp [itemsD, e2], p5⟩
end
theorem KvT.vals {K : PySem.W.Frag} {F : Hp} {xs : List (List Int × Addr × Value)} {kvs : List (List Int × D)} (h : KvT K F xs kvs) : ∃ vs : List V,
    (∀ (i : Nat) (k : List Int) (a : Addr) (u : Value), xs[i]? = some (k, a, u) → ∃ v, vs[i]? = some v ∧ RelV v u) ∧
    ∀ (i : Nat) (k : List Int) (a : Addr) (u : Value) (v : V), xs[i]? = some (k, a, u) → vs[i]? = some v → ∃ dd, kvs[i]? = some (k, dd) ∧ Dp K F (.ref a) (.tuple (k.map .int)) ∧ Dp K F v dd := by
  induction h with
  | nil => exact ⟨[], fun i k a u e => by simp at e, fun i k a u v e => by simp at e⟩
  | @cons j b w u' e r t a1 a2 a3 _ ih =>
    obtain ⟨vs, g1, g2⟩ := ih
    refine ⟨w :: vs, fun i k a u e => ?_, fun i k a u v e ev => ?_⟩
    · cases i with
      | zero =>
        simp only [List.getElem?_cons_zero, Option.some.injEq, Prod.mk.injEq] at e
        obtain ⟨rfl, rfl, rfl⟩ := e
        exact ⟨w, rfl, a2⟩
      | succ i => simp only [List.getElem?_cons_succ] at e ⊢; exact g1 i k a u e
    · cases i with
      | zero =>
        simp only [List.getElem?_cons_zero, Option.some.injEq, Prod.mk.injEq] at e ev
        obtain ⟨rfl, rfl, rfl⟩ := e
        subst ev
        exact ⟨_, rfl, a1, a3⟩
      | succ i => simp only [List.getElem?_cons_succ] at e ev ⊢; exact g2 i k a u v e ev
/-! ### the ground with a locked dict in it -/
section
variable {K : PySem.W.Frag} {F : Hp} {p : Addr}
/-- what stands at p is no list, no tuple -/
def NoSq (F : Hp) (p : Addr) : Prop := ∀ xs, ¬ Rd F p (.lst xs) ∧ ¬ Rd F p (.tup xs)
theorem rdHole {a : Addr} {u : HO} (h : Rd F a u) (ne : a ≠ p) : Rd (hole F p) a u := by
  have e : hole F p a = F a := by unfold hole; rw [if_neg ne]
  rcases h with h | ⟨o, h⟩
  · exact .inl (by rw [e]; exact h)
  · exact .inr ⟨o, by rw [e]; exact h⟩
mutual
theorem dpHole (n : NoSq F p) : ∀ {v : V} {d : D}, Dp K F v d → Dp K (hole F p) v d
  | _, _, .non => .non
  | _, _, .bl b => .bl b
  | _, _, .int i => .int i
  | _, _, .str x => .str x
  | _, _, .lst (a := a) q r => .lst (q.elim (fun q => .inl (rdHole q fun z => (n _).1 (z ▸ q))) .inr) (daHole n r)
  | _, _, .tup (a := a) q r => .tup (q.elim (fun q => .inl (rdHole q fun z => (n _).2 (z ▸ q))) .inr) (daHole n r)
theorem daHole (n : NoSq F p) : ∀ {vs : List V} {ds : List D}, DpAll K F vs ds → DpAll K (hole F p) vs ds
  | _, _, .nil => .nil
  | _, _, .cons a b => .cons (dpHole n a) (daHole n b)
end
theorem kvIHole (n : NoSq F p) {a : List (Key × V)} {c : List (Int × D)} (h : KvI K F a c) : KvI K (hole F p) a c := by
  induction h with
  | nil => exact .nil
  | cons d _ ih => exact .cons (dpHole n d) ih
theorem kvTHole (n : NoSq F p) {a : List (List Int × Addr × Value)} {c : List (List Int × D)} (h : KvT K F a c) : KvT K (hole F p) a c := by
  induction h with
  | nil => exact .nil
  | cons k r d _ ih => exact .cons (dpHole n k) r (dpHole n d) ih
theorem hole_le {a : Addr} {o : HO} (h : hole F p a = some o) : F a = some o ∧ a ≠ p := by
  unfold hole at h
  split at h
  · cases h
  · rename_i ne; exact ⟨h, ne⟩
theorem hole_ne {a : Addr} (ne : a ≠ p) : hole F p a = F a := by unfold hole; rw [if_neg ne]
end
section
variable {K : PySem.W.Frag} {H0 : Zn} {F0 F H : Hp} {σ : St} {ε : Ev}
/-- what stands at p is out of the ground -/
theorem Rep.narrow (R : Rep K H0 F0 F H σ ε) {p : Addr} (n : NoSq F p) (f0 : F0 p = none) : Rep K H0 F0 (hole F p) H σ ε where
  fh := fun a o h => R.fh a o (hole_le h).1
  ff := fun a o h => by rw [hole_ne (fun z => by rw [z, f0] at h; cases h)]; exact R.ff a o h
  h0 := R.h0
  fr := fun a o h => R.fr a o (hole_le h).1
  len := R.len
  dat := fun j x h => let ⟨v, e, d⟩ := R.dat j x h; ⟨v, e, dpHole n d⟩
  own := fun j xs h => let ⟨q, vs, e, h1, h2, h3, h4⟩ := R.own j xs h; ⟨q, vs, e, h1, daHole n h2, by
    cases z : hole F p q with
    | none => rfl
    | some o => exact absurd (hole_le z).1 (by rw [h3]; exact fun w => nomatch w), h4⟩
  uni := R.uni
  lnt := fun j xs h => let ⟨q, vs, e, h1, h2, h3, h4⟩ := R.lnt j xs h; ⟨q, vs, e, h1, daHole n h2, by
    cases z : hole F p q with
    | none => rfl
    | some o => exact absurd (hole_le z).1 (by rw [h3]; exact fun w => nomatch w), h4⟩
  one := R.one
  ll := fun a h => ⟨(R.ll a h).1, by
    cases z : hole F p a with
    | none => rfl
    | some o => exact absurd (hole_le z).1 (by rw [(R.ll a h).2]; exact fun w => nomatch w)⟩
  dcs := ⟨fun j v h c => by
    obtain ⟨q, a1, a2, a3, a4⟩ := R.dcs.at_ j v h c
    refine ⟨q, a1, ?_, ?_, a4⟩
    · cases v with
      | dI kvs => obtain ⟨vs, e1, e2⟩ := a2; exact ⟨vs, e1, kvIHole n e2⟩
      | dT kvs => obtain ⟨vs, e1, e2⟩ := a2; exact ⟨vs, e1, kvTHole n e2⟩
      | _ => exact a2.elim
    · cases z : hole F p q with
      | none => rfl
      | some o => exact absurd (hole_le z).1 (by rw [a3]; exact fun w => nomatch w), R.dcs.uni⟩
/-- a dict is locked: it is out of sight, and stands still -/
theorem Rep.lockD (R : Rep K H0 F0 F H σ ε) {j : Nat} {p : Addr} {v : Val} {u : HO} {od : Obj} (h : gv ε j = some v) (c : isDc v = true) (e : σ[j]? = some (some (.ref p))) (fp : F p = none) (np : H0.no p) (hp : H p = some u) (nl : ∀ vs, u ≠ .lst vs) :
    Rep K H0 F0 (upd F p (.frz od u)) (upd H p (.frz od u)) σ (pv ε j none) := by
  have R1 := R.forget j
  have sb : Sub F (upd F p (.frz od u)) := sub_updF fp
  have ne : ∀ {q : Addr} {vs : List V}, H q = some (.lst vs) → q ≠ p := fun {q vs} e z => nl vs (by rw [z, hp] at e; exact Option.some.inj e)
  refine ⟨R.fh.upd2, R.ff.trans sb, R.h0.upd np.1, fun a o q => ?_, R1.len, fun i x q => ?_, fun i xs q => ?_, R1.uni, fun i xs q => ?_, R1.one, fun a q => ?_, ⟨fun i w q cw => ?_, R1.dcs.uni⟩⟩
  · by_cases z : a = p
    · subst z; exact .inr np.1
    · rw [upd_ne z] at q; exact R.fr a o q
  · obtain ⟨x', e1, d1⟩ := R1.dat i x q
    exact ⟨x', e1, dpSub sb d1⟩
  · obtain ⟨q', vs, e1, h1, h2, h3, h4⟩ := R1.own i xs q
    exact ⟨q', vs, e1, by rw [upd_ne (ne h1)]; exact h1, daSub sb h2, by rw [upd_ne (ne h1)]; exact h3, h4⟩
  · obtain ⟨q', vs, e1, h1, h2, h3, h4⟩ := R1.lnt i xs q
    exact ⟨q', vs, e1, by rw [upd_ne (ne h1)]; exact h1, daSub sb h2, by rw [upd_ne (ne h1)]; exact h3, h4⟩
  · obtain ⟨⟨o, g1⟩, g2⟩ := R.ll a q
    have z : a ≠ p := fun z => np.2 (z ▸ q)
    exact ⟨⟨o, by rw [upd_ne z]; exact g1⟩, by rw [upd_ne z]; exact g2⟩
  · obtain ⟨q', a1, a2, a3, a4⟩ := R1.dcs.at_ i w q cw
    obtain ⟨q2, hi⟩ := dcGv (fun _ z => by cases z) i w q cw
    have z : q' ≠ p := fun z => hi (R.dcs.uni i j w v p q2 cw h c (by rw [← z]; exact a1) e)
    exact ⟨q', a1, a2.mono sb (fun o g => by rw [upd_ne z]; exact g), by rw [upd_ne z]; exact a3, a4⟩
end
theorem pv_back : ∀ {ε : Ev} {j : Nat} {v : Val}, gv ε j = some v → pv (pv ε j none) j (some v) = ε
  | [], _, _, h => by cases h
  | x :: r, 0, v, h => by
    have : x = some v := h
    subst this; rfl
  | x :: r, j + 1, v, h => by
    show x :: pv (pv r j none) j (some v) = _
    rw [pv_back (ε := r) (j := j) h]
theorem blind_dc : ∀ {ε : Ev} {j : Nat} {v : Val}, gv ε j = some v → isDc v = true → blind (pv ε j none) = blind ε
  | [], _, _, h, _ => by cases h
  | x :: r, 0, v, h, c => by
    have : x = some v := h
    subst this
    cases v with
    | dI _ => rfl
    | dT _ => rfl
    | _ => cases c
  | x :: r, j + 1, v, h, c => by
    have ih := blind_dc (ε := r) (j := j) h c
    cases x with
    | none => show none :: blind (pv r j none) = none :: blind r; rw [ih]
    | some w =>
      cases w with
      | d y => show some (.d y) :: blind (pv r j none) = some (.d y) :: blind r; rw [ih]
      | _ => show none :: blind (pv r j none) = none :: blind r; rw [ih]
theorem lcW_blind {t : Tg} {ε ε' : Ev} {C : Ev → (Bool → Ev → Prop) → Prop} {E : Ev → (D → Ev → Prop) → Prop} (h : blind ε' = blind ε) : ∀ (xs acc : List D) (K : List D → Prop), lcW t ε C E xs acc K = lcW t ε' C E xs acc K
  | [], _, _ => rfl
  | x :: r, acc, K => by
    unfold lcW
    rw [h]
    have ih := fun acc => lcW_blind (t := t) (C := C) (E := E) h r acc K
    congr 1
    funext ε1
    congr 1
    funext b ε2
    cases b with
    | true =>
      rw [if_pos rfl, if_pos rfl]
      congr 1
      funext y _
      rw [ih]
    | false => rw [if_neg Bool.false_ne_true, if_neg Bool.false_ne_true, ih]
section
variable {fns : List FnI} {cls : List Str} {N : List Str} {C : Nat → Addr} {Φ : Fs} {k : Nat} {X : Cx} {b : Bd} {sc : Scope}
/-- [.. for t in d.items() if c] -/
theorem dlcGo {t : Tg} {cE eE : IE} {j : Nat} {σ : St} {H : Hp} {Q : VK} {K : PySem.W.Frag} (h : rdE K b (wE Φ (.dlc t cE eE j)) σ H Q) :
    tLockE (tLc (iItemsD (tVar j)) (gTg K t) (fun σ H q => ∃ H0 F0, rdT K ⟨b.C, fun _ _ _ _ => False, H0, F0⟩ (fun ε Xp r => if isNil cE = true then r (.d (.bool true)) ε else wE Φ cE ε Xp r) σ H q)
      (fun σ H q => ∃ H0 F0, rdD K ⟨b.C, fun _ _ _ _ => False, H0, F0⟩ (wE Φ eE) σ H q) (tgs t)) σ H Q := by
  obtain ⟨ε, F, Xp, Qp, R, w, ex, kk⟩ := h
  obtain ⟨v, p, g0, gd, g2, g3, g5, g6, w⟩ := dictGo R w
  obtain ⟨u, hu, nl, nt, mu⟩ := g3.there
  refine ⟨p, u, hu, mu, fun od => ?_⟩
  have R1 := R.lockD (od := od) g0 gd g2 g5 g6 hu nl
  have sb : Sub F (upd F p (.frz od u)) := sub_updF g5
  have w1 := (lcW_blind (blind_dc g0 gd) _ _ _).mp w
  have fin : ∀ ys H' F' x, Same (upd H p (.frz od u)) H' → Sub (upd F p (.frz od u)) F' → Rep K b.H0 b.F0 F' H' σ (pv ε j none) → VAt K b.H0 F' H' σ (pv ε j none) x (.own ys) → Qp (.own ys) ε → H' p = some (.frz od u) ∧ Q x (upd H' p u) := fun ys H' F' x sm sf R2 a q => by
    have hp' : H' p = some (.frz od u) := sm _ _ upd_same
    have fp' : F' p = some (.frz od u) := sf _ _ upd_same
    have ns : NoSq F' p := fun xs => ⟨fun z => by
      rcases z with z | ⟨o, z⟩
      · rw [fp'] at z; cases z
      · rw [fp'] at z
        have := Option.some.inj z
        injection this with _ e
        exact nl xs e, fun z => by
      rcases z with z | ⟨o, z⟩
      · rw [fp'] at z; cases z
      · rw [fp'] at z
        have := Option.some.inj z
        injection this with _ e
        exact nt xs e⟩
    have f0 : b.F0 p = none := by
      cases z : b.F0 p with
      | none => rfl
      | some o => rw [R.ff _ _ z] at g5; cases g5
    have sb2 : Sub F (hole F' p) := fun a o z => by
      have ne : a ≠ p := fun e => by rw [e, g5] at z; cases z
      rw [hole_ne ne]
      exact sf _ _ (by rw [upd_ne ne]; exact z)
    have R3 := R2.narrow ns f0
    have hn : hole F' p p = none := by unfold hole; rw [if_pos rfl]
    have R4 : Rep K b.H0 b.F0 (hole F' p) (upd H' p u) σ ε := by
      have := R3.dcAny (σ' := σ) (j := j) (p := p) (o := u) (v := v) gd (g3.mono sb2 (fun o z => by rw [hu] at z; cases z; exact upd_same)) hn g6 (fun vs z => by rw [hp'] at z; cases z)
        (fun i w hi q cw z => by
          obtain ⟨r, a1, a2, _⟩ := R3.dcs.at_ i w q cw
          rw [z] at a1
          have : p = r := by simpa using a1
          subst this
          cases w with
          | dI _ => obtain ⟨_, e, _⟩ := a2; rw [hp'] at e; cases e
          | dT _ => obtain ⟨_, e, _⟩ := a2; rw [hp'] at e; cases e
          | _ => exact a2.elim) rfl (fun _ _ => rfl) (fun _ => g2)
      rw [pv_back g0] at this
      exact this
    refine ⟨hp', kk (.own ys) ε _ (hole F' p) x (fun a o n z => ?_) sb2 R4 ?_ q⟩
    · by_cases e : a = p
      · subst e; rw [hu] at z; cases z; exact upd_same
      · rw [upd_ne e]
        exact sm _ _ (by rw [upd_ne e]; exact z)
    · obtain ⟨r, vs, rfl, h1, h2, h3, h4, h5⟩ := a
      have ne : r ≠ p := fun z => by rw [z, hp'] at h1; cases h1
      refine ⟨r, vs, rfl, by rw [upd_ne ne]; exact h1, daHole ns h2, by rw [hole_ne ne]; exact h3, h4, fun i zs q z => ?_⟩
      have hi : i ≠ j := fun e => by rw [e, g0] at q; cases q; cases gd
      exact h5 i zs (by rw [gv_pv, if_neg hi]; exact q) z
  refine ⟨.ref p, g2, p, od, rfl, ?_⟩
  cases v with
  | dI kvs =>
    obtain ⟨vs, e, q⟩ := g3
    rw [e] at hu
    cases hu
    exact .inl ⟨vs, upd_same, lcBody (b := b) R1 (itItI (q.mono sb) upd_same) w1 fin⟩
  | dT kvs =>
    obtain ⟨xs, e, q⟩ := g3
    rw [e] at hu
    cases hu
    obtain ⟨vs, v1, v2⟩ := (q.mono sb).vals
    exact .inr ⟨xs, vs, upd_same, v1, lcBody (b := b) R1 (itItT (q.mono sb) v2 upd_same) w1 fin⟩
  | _ => cases gd
end
end Rc

/-! A comprehension that looks at a dict. -/
namespace Rc
open PySem PySem.Spec PyProof.Rows L2
theorem Rep.turnD {K : PySem.W.Frag} {H0 : Zn} {F0 F1 F2 H H' : Hp} {σ : St} {ε : Ev} {js : List Nat} {j : Nat} {p : Addr} {v : Val} (R : Rep K H0 F0 F1 H σ ε) (s : Sub F1 F2) (g : Sub F2 H') (hj : j ∉ js) (e : σ[j]? = some (some (.ref p)))
    (c : isDc v = true) (d : DcAt K F2 H' p v) (fp : F2 p = none) : Rep K (Zn.of (hole H' p)) F2 F2 H' (wipe σ js) (pv (wipeE (blind ε) js) j (some v)) := by
  have R0 := R.turn s g (js := js)
  have ej : (wipe σ js)[j]? = some (some (.ref p)) := by rw [wipe_get, if_neg hj]; exact e
  have nd : ∀ x, v ≠ .d x := fun x z => by subst z; cases c
  have no : ∀ {i : Nat} {w : Val}, gv (pv (wipeE (blind ε) js) j (some v)) i = some w → (i = j ∧ w = v) ∨ ∃ x, w = .d x ∧ gv (wipeE (blind ε) js) i = some (.d x) := fun {i w} h => by
    rw [gv_pv] at h
    split at h
    · rename_i hi
      split at h
      · cases h; exact .inl ⟨hi, rfl⟩
      · cases h
    · obtain ⟨g1, g2⟩ := wipeE_gv h
      obtain ⟨y, e, g3⟩ := blind_d g1
      cases e
      exact .inr ⟨y, rfl, h⟩
  refine ⟨g, .refl _, fun a o _ q => ?_, fun a o h => .inl h, by rw [pv_len]; exact R0.len, fun i x h => ?_, fun i ys h => ?_, fun i k xs ys r h h' => ?_, fun i ys h => ?_, fun i k xs ys r h => ?_, fun a h => h.elim, ⟨fun i w h cw => ?_, fun i k u w r h cu h' cw => ?_⟩⟩
  · have q : hole H' p a = some o := q
    exact (hole_le q).1
  · rcases no h with ⟨_, z⟩ | ⟨y, z, h2⟩
    · exact absurd z.symm (nd x)
    · cases z; exact R0.dat i x h2
  · rcases no h with ⟨_, z⟩ | ⟨y, z, h2⟩
    · subst z; cases c
    · cases z
  · rcases no h with ⟨_, z⟩ | ⟨y, z, h2⟩
    · subst z; cases c
    · cases z
  · rcases no h with ⟨_, z⟩ | ⟨y, z, h2⟩
    · subst z; cases c
    · cases z
  · rcases no h with ⟨_, z⟩ | ⟨y, z, h2⟩
    · subst z; cases c
    · cases z
  · rcases no h with ⟨hi, z⟩ | ⟨y, z, h2⟩
    · subst hi
      subst z
      exact ⟨p, ej, d, fp, by show hole H' p p = none; unfold hole; rw [if_pos rfl], fun z => z⟩
    · rw [z] at cw; cases cw
  · rcases no h with ⟨hi, z⟩ | ⟨y, z, h2⟩
    · rcases no h' with ⟨hk, z'⟩ | ⟨y, z', h2⟩
      · exact fun _ _ => by rw [hi, hk]
      · rw [z'] at cw; cases cw
    · rw [z] at cu; cases cu
section
variable {Φ : Fs} {b : Bd}
theorem lcdGo {K : PySem.W.Frag} {t : Tg} {itE cE eE : IE} {j : Nat} {σ : St} {H : Hp} {Q : VK} (h : rdE K b (wE Φ (.lcD t itE cE eE j)) σ H Q) (hj : j ∉ tgs t) :
    tLc (rdI K b (wE Φ itE)) (gTg K t)
      (fun σ H q => ∃ H0 F0, rdT K ⟨b.C, fun _ _ _ _ => False, H0, F0⟩ (fun ε Xp r => if isNil cE = true then r (.d (.bool true)) ε else wE Φ cE ε Xp r) σ H q)
      (fun σ H q => ∃ H0 F0, rdD K ⟨b.C, fun _ _ _ _ => False, H0, F0⟩ (wE Φ eE) σ H q) (tgs t) σ H Q := by
  obtain ⟨ε, F, Xp, Qp, R, w, ex, kk⟩ := h
  refine ⟨ε, F, Xp, _, R, w, ex, fun ds ε1 H1 F1 J s1 f1 R1 J1 q1 D hD => ?_⟩
  obtain ⟨v, p, g1, gc, g2, g3, g5, g6, q1⟩ := dictGo R1 q1
  obtain ⟨u, hu, nl, nt, mu⟩ := g3.there
  have pD : p ≠ D := fun z => by subst z; rw [hu] at hD; cases hD
  let L := fun (xs acc : List PyData) => lcdW t ε1 j v (fun ε2 k => if isNil cE = true then k true ε2 else wE Φ cE ε2 (fun _ _ => False) (kB k)) (fun ε2 k => wE Φ eE ε2 (fun _ _ => False) (kD k)) xs acc fun ys => Qp (.own ys) ε1
  refine ⟨fun i m H' => m = ds.length - i ∧ i ≤ ds.length ∧ ∃ F' acc vs, Sub F1 F' ∧ Same H1 H' ∧ Sub F' H' ∧ New F1 F' H1 ∧ H' D = some (.lst vs) ∧ DpAll K F' vs acc ∧ F' D = none ∧ L (ds.drop i) acc,
    ⟨ds.length, by simp, Nat.zero_le _, F1, [], [], .refl _, same_upd hD, R1.fh.upd (R1.fh.none hD), .refl, upd_same, .nil, R1.fh.none hD, q1⟩, ?_⟩
  rintro i m H' ⟨rfl, hi, F', acc, vs, a1, a2, a3, a4, a5, a6, a7, wl⟩
  by_cases hlt : i < ds.length
  · refine .inr ⟨J1.go i H' hlt (a1.trans a3), fun H'' => ∃ F'' acc vs, Sub F1 F'' ∧ Same H1 H'' ∧ Sub F'' H'' ∧ New F1 F'' H1 ∧ H'' D = some (.lst vs) ∧ DpAll K F'' vs acc ∧ F'' D = none ∧ L (ds.drop (i + 1)) acc,
      fun H'' q => ⟨ds.length - (i + 1), by omega, rfl, hlt, q⟩, fun x H2 y => ?_⟩
    obtain ⟨b1, F2, d, b2, b3, b4, b5, b6⟩ := J1.yld i H' x H2 F' hlt a1 a3 y
    have ed : ds.drop i = d :: ds.drop (i + 1) := by
      rw [List.drop_eq_getElem_cons hlt]
      have : ds[i] = d := by
        rw [List.getElem?_eq_getElem hlt] at b5
        exact Option.some.inj b5
      rw [this]
    rw [ed] at wl
    have c0 : H2 D = some (.lst vs) := b1 _ _ a5
    have c1 : H2 p = some u := b1 _ _ (a2 _ _ hu)
    have np : F2 p = none := by
      cases z : F2 p with
      | none => rfl
      | some u' =>
        rcases b4 p u' z with q | q
        · rcases a4 p u' q with q | q
          · rw [g5] at q; cases q
          · rw [hu] at q; cases q
        · rw [a2 _ _ hu] at q; cases q
    have dd : DcAt K F2 H2 p v := g3.mono (a1.trans b2) fun o z => b1 _ _ (a2 _ _ z)
    have R2 := R1.turnD (js := tgs t) (j := j) (a1.trans b2) b3 hj g2 gc dd np
    refine tgGo R2 b6 wl fun σ2 ε2 R3 ew w2 => ⟨by rw [ew, wipe_wipe], ?_⟩
    have pj : σ2[j]? = some (some (.ref p)) := by
      have e1 : (wipe σ2 (tgs t))[j]? = σ2[j]? := by rw [wipe_get, if_neg hj]
      have e2 : (wipe (wipe σ (tgs t)) (tgs t))[j]? = σ[j]? := by rw [wipe_get, if_neg hj, wipe_get, if_neg hj]
      rw [ew, e2, g2] at e1
      exact e1.symm
    have n2 : F2 D = none := by
      cases z : F2 D with
      | none => rfl
      | some u' =>
        rcases b4 D u' z with q | q
        · rw [a7] at q; cases q
        · rw [a5] at q; cases q
    -- what holds behind the test and behind the element
    have aft : ∀ {F4 H4 : Hp} {ε4 : Ev}, Rep K (Zn.of (hole H2 p)) F2 F4 H4 σ2 ε4 → F4 p = none → F4 D = none ∧ New F1 F4 H1 := fun {F4 H4 ε4} R5 k5 => by
      have fr5 : ∀ {a : Addr} {o : HO}, F4 a = some o → F2 a = some o ∨ H2 a = none := fun {a o} h => by
        rcases R5.fr a o h with q | q
        · exact .inl q
        · have q : hole H2 p a = none := q
          unfold hole at q
          split at q
          · rename_i e
            rw [e, k5] at h; cases h
          · exact .inr q
      refine ⟨?_, fun a o h => ?_⟩
      · cases z : F4 D with
        | none => rfl
        | some u' =>
          rcases fr5 z with q | q
          · rw [n2] at q; cases q
          · rw [c0] at q; cases q
      · rcases fr5 h with q | q
        · rcases b4 a o q with q | q
          · exact a4 a o q
          · exact .inr (Same.free a2 q)
        · exact .inr (Same.free (a2.trans b1) q)
    have dk : ∀ {F4 H4 : Hp} {ε4 : Ev} {k : Val → Prop}, Rep K (Zn.of (hole H2 p)) F2 F4 H4 σ2 ε4 → dictAt ε4 j k → F4 p = none ∧ ∃ v, k v := fun {F4 H4 ε4 k} R5 q5 => by
      obtain ⟨v', p', k0, k1, k2, k3, k5, k6, q5⟩ := dictGo R5 q5
      rw [k2] at pj
      have ep : p' = p := by simpa using pj
      rw [← ep]
      exact ⟨k5, v', q5⟩
    refine ⟨Zn.of (hole H2 p), F2, ε2, F2, fun _ _ => False, _, R3, cGo w2, (fun _ _ _ _ _ _ z => z.elim), fun c ε3 H3 F3 s3' f3 R4 q3 => ?_⟩
    have s3 : Same H2 H3 := fun a o q => s3' a o (fun z => z) q
    cases c with
    | false =>
      have q3 : dictAt ε3 j fun _ => L (ds.drop (i + 1)) acc := q3
      show (if (false : Bool) = true then _ else _)
      rw [if_neg Bool.false_ne_true]
      obtain ⟨k5, _, q3⟩ := dk R4 q3
      obtain ⟨m1, m2⟩ := aft R4 k5
      exact ⟨F3, acc, vs, (a1.trans b2).trans f3, (a2.trans b1).trans s3, R4.fh, m2, s3 _ _ c0, daSub (b2.trans f3) a6, m1, q3⟩
    | true =>
      rw [if_pos rfl] at q3
      show (if (true : Bool) = true then _ else _)
      rw [if_pos rfl]
      refine ⟨Zn.of (hole H2 p), F2, ε3, F3, fun _ _ => False, _, R4, q3, (fun _ _ _ _ _ _ z => z.elim), fun z ε4 H4 F4 v4 s4' f4 R5 d5 q5 => ?_⟩
      have s4 : Same H3 H4 := fun a o q => s4' a o (fun z => z) q
      obtain ⟨k5, _, q5⟩ := dk R5 q5
      obtain ⟨m1, m2⟩ := aft R5 k5
      have c4 : H4 D = some (.lst vs) := s4 _ _ (s3 _ _ c0)
      have da : DpAll K F4 vs acc := daSub ((b2.trans f3).trans f4) a6
      refine ⟨vs, c4, by rw [line24, daLen da]; exact q5.1, F4, acc ++ [z], vs ++ [v4], ((a1.trans b2).trans f3).trans f4, fun a o h => ?_, R5.fh.upd m1, m2, upd_same, daApp da (.cons d5 .nil), m1, q5.2⟩
      rw [upd_ne (ne_of_none h hD)]
      exact s4 _ _ (s3 _ _ (b1 _ _ (a2 _ _ h)))
  · have e : i = ds.length := by omega
    subst e
    refine .inl ⟨J1.stop H' (a1.trans a3), ?_⟩
    have wl : L [] acc := by rw [List.drop_length] at wl; exact wl
    exact kk (.own acc) ε1 H' F' (.ref D) (s1.trans (.of a2)) (f1.trans a1) (R1.grow a2 a1 a3 a4) ⟨D, vs, rfl, a5, a6, a7, R1.no hD, R1.offNew hD⟩ wl
end
end Rc

/-! All expressions. -/
namespace Rc
open PySem PySem.Spec PyProof.Rows L2
section
variable {fns : List FnI} {cls : List Str} {N : List Str} {C : Nat → Addr} {Φ : Fs} {k : Nat} {X : Cx} {b : Bd} {sc : Scope}
theorem ptEx {α : Type} {e : Expr} {t : α → TT} (h : ∀ a, PT X e (t a)) : PT X e (fun σ H q => ∃ a, t a σ H q) := ⟨fun pins s σ H Q I ⟨a, w⟩ => (h a).run pins s σ H Q I w⟩
theorem peEx {α : Type} {e : Expr} {t : α → TE} (h : ∀ a, PE X e (t a)) : PE X e (fun σ H q => ∃ a, t a σ H q) := ⟨fun pins s σ H Q I ⟨a, w⟩ => (h a).run pins s σ H Q I w⟩
theorem ptsImp {es : List Expr} {t t' : TT} (h : PTs X es t) (f : ∀ σ H Q, t' σ H Q → t σ H Q) : PTs X es t' := ⟨fun pins s σ H Q I w => h.run pins s σ H Q I (f _ _ _ w)⟩
theorem relS_cell {scope sc : Scope} {x : Str} (h : scope.names.lookup x = some .cell) : (relS scope sc).names.lookup x = some .cell := by
  have go : ∀ names : List (Str × NameKind), names.lookup x = some .cell → (names.map fun (n, k) => if (k == NameKind.free && sc.kind == .function && sc.names.lookup n == some .cell) then (n, NameKind.cell) else (n, k)).lookup x = some .cell := by
    intro names
    induction names with
    | nil => intro h; cases h
    | cons p r ih =>
      obtain ⟨n, k⟩ := p
      intro h
      show List.lookup x ((if (k == NameKind.free && sc.kind == .function && sc.names.lookup n == some .cell) = true then (n, NameKind.cell) else (n, k)) :: _) = _
      cases hx : x == n with
      | true =>
        simp only [List.lookup_cons, hx] at h
        cases h
        simp [List.lookup_cons, hx]
      | false =>
        simp only [List.lookup_cons, hx] at h
        by_cases hc : (k == NameKind.free && sc.kind == .function && sc.names.lookup n == some .cell) = true
        · rw [if_pos hc]; simp only [List.lookup_cons, hx]; exact ih h
        · rw [if_neg hc]; simp only [List.lookup_cons, hx]; exact ih h
  exact go scope.names h
theorem lcParts0 (ok : Cok fns cls N C Φ k X sc b.W) (hC : b.C = C) {t : Tg} {cE eE : IE} (s2 : Sn fns cls N C Φ k cE) (s3 : Sn fns cls N C Φ k eE)
    {tg e : Expr} {ifs : List Expr} {scope : Scope} (h3 : tgB (blB scope sc) N t tg = true) (h4 : blkC N sc scope (tgOwn t tg) = true)
    (h5 : ifsB (isNil cE) ifs (fun f => chk fns N cE (relS scope sc) [f]) = true) (h6 : chk fns N eE (relS scope sc) [e] = true) :
    BlkOk X.N X.env.scope scope (tgOwn t tg) ∧
    (∀ (s : Shared) (H : Hp) (D : Addr) (cl : List (Str × Addr)) (fp : List Addr), PG (X.blk s H scope (compEnvC scope cl D X.env) fp) tg (gTg X.K t)) ∧
    (∀ (s : Shared) (H : Hp) (D : Addr) (cl : List (Str × Addr)) (fp : List Addr), PTs (X.blk s H scope (compEnvC scope cl D X.env) fp) ifs
      (fun σ H q => ∃ H0 F0, rdT X.K ⟨b.C, fun _ _ _ _ => False, H0, F0⟩ (fun ε Xp r => if isNil cE = true then r (.d (.bool true)) ε else wE Φ cE ε Xp r) σ H q)) ∧
    (∀ (s : Shared) (H : Hp) (D : Addr) (cl : List (Str × Addr)) (fp : List Addr), PE (X.blk s H scope (compEnvC scope cl D X.env) fp) e
      (fun σ H q => ∃ H0 F0, rdD X.K ⟨b.C, fun _ _ _ _ => False, H0, F0⟩ (wE Φ eE) σ H q)) := by
  have blk := fun (s : Shared) (H : Hp) (D : Addr) (cl : List (Str × Addr)) (fp : List Addr) => ok.blk s H scope D cl fp
  have hlc : ∀ (X' : Cx), X'.env.scope = relS scope sc → (∀ x, X'.fn x = (scope.names.lookup x == some .cell)) → ∀ x, blB scope sc x = true → Loc X'.env.scope x ∧ (X'.fn x = true ∨ X'.env.scope.names.lookup x = some .local) := fun X' he hf x hx => by
    unfold blB at hx
    rw [Bool.or_eq_true] at hx
    rcases hx with hx | hx
    · have q := lclB_of hx
      rw [he]
      exact ⟨.inl q, .inr q⟩
    · have q : (relS scope sc).names.lookup x = some .cell := relS_cell (by simpa using hx)
      rw [he]
      exact ⟨.inr q, .inl (by rw [hf]; exact hx)⟩
  refine ⟨blkOk_by (by rw [ok.eN, ok.esc]; exact h4), fun s H D cl fp => ?_, fun s H D cl fp => ?_, fun s H D cl fp => ?_⟩
  · refine pgTg (X := X.blk s H scope (compEnvC scope cl D X.env) fp) ok.nd ok.calm (hlc _ (blk s H D cl fp).esc fun _ => rfl) ?_
    show tgB _ X.N t tg = true
    rw [ok.eN]; exact h3
  · cases ifs with
    | nil =>
      refine ptsImp pts_nil fun σ H Q ⟨H0, F0, ε, F, Xp, Qp, R, w, ex, kk⟩ => ?_
      have e0 : isNil cE = true := h5
      have w' : (if isNil cE = true then kB Qp (.d (.bool true)) ε else wE Φ cE ε Xp (kB Qp)) := w
      rw [if_pos e0] at w'
      exact kk true ε H F (.refl _) (.refl _) R w'
    | cons f r =>
      cases r with
      | nil =>
        have h5' : (!isNil cE && chk fns N cE (relS scope sc) [f]) = true := h5
        rw [Bool.and_eq_true, Bool.not_eq_true'] at h5'
        refine ptsImp (pts_one (ptEx fun H0 => ptEx fun F0 => s2.t ⟨b.C, fun _ _ _ _ => False, H0, F0⟩ _ (relS scope sc) hC (blk s H D cl fp) f h5'.2)) fun σ H Q ⟨H0, F0, ε, F, Xp, Qp, R, w, ex, kk⟩ => ?_
        have w' : (if isNil cE = true then kB Qp (.d (.bool true)) ε else wE Φ cE ε Xp (kB Qp)) := w
        rw [if_neg (by rw [h5'.1]; exact Bool.false_ne_true)] at w'
        exact ⟨H0, F0, ε, F, Xp, Qp, R, w', ex, kk⟩
      | cons _ _ => exact absurd h5 Bool.false_ne_true
  · exact peEx fun H0 => peEx fun F0 => peD (s3.e ⟨b.C, fun _ _ _ _ => False, H0, F0⟩ _ (relS scope sc) hC (blk s H D cl fp) e h6)

theorem lcParts (ok : Cok fns cls N C Φ k X sc b.W) (hC : b.C = C) {t : Tg} {itE cE eE : IE} (s1 : Sn fns cls N C Φ k itE) (s2 : Sn fns cls N C Φ k cE) (s3 : Sn fns cls N C Φ k eE)
    {tg iter e : Expr} {ifs : List Expr} {scope : Scope} (h1 : isIt itE = true) (h2 : chk fns N itE sc [iter, tg] = true) (h3 : tgB (blB scope sc) N t tg = true) (h4 : blkC N sc scope (tgOwn t tg) = true)
    (h5 : ifsB (isNil cE) ifs (fun f => chk fns N cE (relS scope sc) [f]) = true) (h6 : chk fns N eE (relS scope sc) [e] = true) :
    PI X tg iter (rdI X.K b (wE Φ itE)) ∧ BlkOk X.N X.env.scope scope (tgOwn t tg) ∧
    (∀ (s : Shared) (H : Hp) (D : Addr) (cl : List (Str × Addr)) (fp : List Addr), PG (X.blk s H scope (compEnvC scope cl D X.env) fp) tg (gTg X.K t)) ∧
    (∀ (s : Shared) (H : Hp) (D : Addr) (cl : List (Str × Addr)) (fp : List Addr), PTs (X.blk s H scope (compEnvC scope cl D X.env) fp) ifs
      (fun σ H q => ∃ H0 F0, rdT X.K ⟨b.C, fun _ _ _ _ => False, H0, F0⟩ (fun ε Xp r => if isNil cE = true then r (.d (.bool true)) ε else wE Φ cE ε Xp r) σ H q)) ∧
    (∀ (s : Shared) (H : Hp) (D : Addr) (cl : List (Str × Addr)) (fp : List Addr), PE (X.blk s H scope (compEnvC scope cl D X.env) fp) e
      (fun σ H q => ∃ H0 F0, rdD X.K ⟨b.C, fun _ _ _ _ => False, H0, F0⟩ (wE Φ eE) σ H q)) := ⟨s1.i b X sc hC ok h1 iter tg h2, lcParts0 ok hC s2 s3 h3 h4 h5 h6⟩
theorem eLc (ok : Cok fns cls N C Φ k X sc b.W) (hC : b.C = C) {t : Tg} {itE cE eE : IE} (s1 : Sn fns cls N C Φ k itE) (s2 : Sn fns cls N C Φ k cE) (s3 : Sn fns cls N C Φ k eE)
    {tg iter e : Expr} {ifs : List Expr} {scope : Scope} {p : Pos} (h1 : isIt itE = true) (h2 : chk fns N itE sc [iter, tg] = true) (h3 : tgB (blB scope sc) N t tg = true) (h4 : blkC N sc scope (tgOwn t tg) = true)
    (h5 : ifsB (isNil cE) ifs (fun f => chk fns N cE (relS scope sc) [f]) = true) (h6 : chk fns N eE (relS scope sc) [e] = true) (h7 : plainE iter = true) :
    PE X (.ListComp e [⟨tg, iter, ifs, 0⟩] scope p) (rdE X.K b (wE Φ (.lc t itE cE eE))) := by
  refine peImp ?_ fun σ H Q h => lcGo h
  rw [← tgOwn_ix h3]
  obtain ⟨q1, q2, q3, q4, q5⟩ := lcParts ok hC s1 s2 s3 h1 h2 h3 h4 h5 h6
  exact pe_lc ok.calm ok.nd q1 q2 q3 q4 q5 (fun x => noFold h7)

/-! ### iterables -/
theorem iSeqGo (h : PE X e (rdE X.K b (wE Φ i))) {tg : Expr} : PI X tg e (rdI X.K b (wE Φ (.itv i))) :=
  piImp (pi_seq (peD h)) fun σ H R ⟨ε, F, Xp, Qp, RR, w, ex, kk⟩ => by
    refine ⟨ε, F, Xp, _, RR, w, ex, fun d ε1 H1 F1 x s1 f1 R1 d1 q1 => ?_⟩
    cases d with
    | list xs =>
      obtain ⟨a, vs, rfl, r1, a1⟩ := dpLst d1
      exact ⟨a, vs, rfl, .inl ⟨sqlSub R1.fh r1, kk xs ε1 H1 F1 _ s1 f1 R1 (itList r1 a1) q1⟩⟩
    | tuple xs =>
      obtain ⟨a, vs, rfl, r1, a1⟩ := dpTup d1
      exact ⟨a, vs, rfl, .inr ⟨(sqtSub R1.fh r1), kk xs ε1 H1 F1 _ s1 f1 R1 (itTup r1 a1) q1⟩⟩
    | _ => exact q1.elim
theorem iEnmGo (ok : Cok fns cls N C Φ k X sc b.W) {i : IE} {e tg : Expr} {x : Str} {p pos : Pos} (h : PE X e (rdE X.K b (wE Φ i))) (hx : x = "enumerate") (hg : glB sc x = true) (he : plainE e = true) (ht : isTup tg = true) :
    PI X tg (.Call (.Name x p) [e] [] pos) (rdI X.K b (wE Φ (.enm i))) := by
  subst hx
  cases tg with
  | Tuple es n q =>
    refine piImp (pi_enumA (glB_of ok hg) (ok.blt _ (by decide)) (peD h) he) fun σ H R ⟨ε, F, Xp, Qp, RR, w, ex, kk⟩ => ?_
    refine ⟨ε, F, Xp, _, RR, w, ex, fun d ε1 H1 F1 x s1 f1 R1 d1 q1 => ?_⟩
    cases d with
    | list xs =>
      obtain ⟨a, vs, rfl, r1, a1⟩ := dpLst d1
      exact ⟨a, vs, rfl, .inl ⟨sqlSub R1.fh r1, kk _ ε1 H1 F1 _ s1 f1 R1 (itEnum r1 a1) q1⟩⟩
    | tuple xs =>
      obtain ⟨a, vs, rfl, r1, a1⟩ := dpTup d1
      exact ⟨a, vs, rfl, .inr ⟨(sqtSub R1.fh r1), kk _ ε1 H1 F1 _ s1 f1 R1 (itEnumT r1 a1) q1⟩⟩
    | _ => exact q1.elim
  | _ => exact absurd ht Bool.false_ne_true
theorem iRevGo (ok : Cok fns cls N C Φ k X sc b.W) {i : IE} {e tg : Expr} {x : Str} {p pos : Pos} (h : PE X e (rdE X.K b (wE Φ i))) (hx : x = "reversed") (hg : glB sc x = true) (he : plainE e = true) :
    PI X tg (.Call (.Name x p) [e] [] pos) (rdI X.K b (wE Φ (.rvd i))) := by
  subst hx
  refine piImp (RT.pi_revA (glB_of ok hg) (ok.blt _ (by decide)) (peD h) (starOf he)) fun σ H R ⟨ε, F, Xp, Qp, RR, w, ex, kk⟩ => ?_
  refine ⟨ε, F, Xp, _, RR, w, ex, fun d ε1 H1 F1 x s1 f1 R1 d1 q1 => ?_⟩
  cases d with
  | list xs =>
    obtain ⟨a, vs, rfl, r1, a1⟩ := dpLst d1
    exact ⟨a, vs, rfl, .inl ⟨sqlSub R1.fh r1, kk _ ε1 H1 F1 _ s1 f1 R1 (itRev r1 a1) q1⟩⟩
  | tuple xs =>
    obtain ⟨a, vs, rfl, r1, a1⟩ := dpTup d1
    exact ⟨a, vs, rfl, .inr ⟨(sqtSub R1.fh r1), kk _ ε1 H1 F1 _ s1 f1 R1 (itRevT r1 a1) q1⟩⟩
  | _ => exact q1.elim
theorem iRng1Go (ok : Cok fns cls N C Φ k X sc b.W) {i : IE} {tg e : Expr} {x : Str} {p pos : Pos} (h : PE X e (rdE X.K b (wE Φ i))) (hx : x = "range") (hg : glB sc x = true) (he : plainE e = true) :
    PI X tg (.Call (.Name x p) [e] [] pos) (rdI X.K b (wE Φ (.rng1 i))) := by
  subst hx
  have z := starOf (es := []) (env := X.env) he
  refine piImp (pi_range1 (glB_of ok hg) (ok.blt _ (by decide)) (pa_cons (peD h) pa_nil z) z) fun σ H R ⟨ε, F, Xp, Qp, RR, w, ex, kk⟩ => ?_
  refine ⟨ε, F, Xp, _, RR, w, ex, fun d ε1 H1 F1 v s1 f1 R1 d1 q1 => ?_⟩
  cases d with
  | int n =>
    cases dpInt d1
    refine ⟨n, rfl, q1.1.2, q1.1.1, kk _ ε1 H1 F1 _ s1 f1 R1 ?_ q1.2⟩
    simpa using itRng1 (K := X.K) (F1 := F1) (lo := 0) (n := n.toNat)
  | _ => exact q1.elim
theorem iRng2Go (ok : Cok fns cls N C Φ k X sc b.W) {i j : IE} {tg e f : Expr} {x : Str} {p pos : Pos} (h : PE X e (rdE X.K b (wE Φ i))) (h2 : PE X f (rdE X.K b (wE Φ j))) (hx : x = "range") (hg : glB sc x = true) (he : plainE e = true) (hf : plainE f = true) :
    PI X tg (.Call (.Name x p) [e, f] [] pos) (rdI X.K b (wE Φ (.rng2 i j))) := by
  subst hx
  have z := starOf (es := [f]) (env := X.env) he
  have z2 := starOf (es := []) (env := X.env) hf
  refine piImp (pi_range2 (glB_of ok hg) (ok.blt _ (by decide)) (pa_cons (peD h) (pa_cons (peD h2) pa_nil z2) z) (by rw [z, z2]; rfl) z2) fun σ H R ⟨ε, F, Xp, Qp, RR, w, ex, kk⟩ => ?_
  refine ⟨ε, F, Xp, _, RR, w, ex, fun d ε1 H1 F1 v s1 f1 R1 d1 q1 => ⟨ε1, F1, Xp, _, R1, q1, ex.mono s1, fun e ε2 H2 F2 u s2 f2 R2 d2 q2 => ?_⟩⟩
  cases d with
  | int n =>
    cases e with
    | int m =>
      cases dpInt d1; cases dpInt d2
      exact ⟨n, m, rfl, q2.1, kk _ ε2 H2 F2 _ (s1.trans s2) (f1.trans f2) R2 itRng1 q2.2⟩
    | _ => exact q2.elim
  | _ => exact q2.elim
theorem iRngdGo (ok : Cok fns cls N C Φ k X sc b.W) {i j : IE} {tg e f : Expr} {x : Str} {n : Nat} {p pos p1 p2 : Pos} (h : PE X e (rdE X.K b (wE Φ i))) (h2 : PE X f (rdE X.K b (wE Φ j))) (hx : x = "range") (hg : glB sc x = true) (he : plainE e = true) (hf : plainE f = true) :
    PI X tg (.Call (.Name x p) [e, f, .UnaryOp .USub (.Constant (.int 1) n p1) p2] [] pos) (rdI X.K b (wE Φ (.rngd i j))) := by
  subst hx
  have z := starOf (es := [f, .UnaryOp .USub (.Constant (.int 1) n p1) p2]) (env := X.env) he
  have z2 := starOf (es := [.UnaryOp .USub (.Constant (.int 1) n p1) p2]) (env := X.env) hf
  have hm : PE X (.UnaryOp .USub (.Constant (.int 1) n p1) p2) (tC (.int (-1))) := peImp (pe_un un_neg pe_int) fun σ H Q q => ⟨1, rfl, q⟩
  refine piImp (pi_range3 (glB_of ok hg) (ok.blt _ (by decide)) (pa_cons (peD h) (pa_cons (peD h2) (pa_cons hm pa_nil) z2) z) z (by rw [z2]; rfl)) fun σ H R ⟨ε, F, Xp, Qp, RR, w, ex, kk⟩ => ?_
  refine ⟨ε, F, Xp, _, RR, w, ex, fun d ε1 H1 F1 v s1 f1 R1 d1 q1 => ⟨ε1, F1, Xp, _, R1, q1, ex.mono s1, fun e ε2 H2 F2 u s2 f2 R2 d2 q2 => ?_⟩⟩
  cases d with
  | int a =>
    cases e with
    | int m =>
      cases dpInt d1; cases dpInt d2
      obtain ⟨⟨g1, g2, g3, g4⟩, q3⟩ := q2
      refine ⟨a, m, -1, (a - m).toNat, rfl, RgC.neg g1 g2 g3 g4, kk _ ε2 H2 F2 _ (s1.trans s2) (f1.trans f2) R2 ?_ q3⟩
      have q := itRng (K := X.K) (F1 := F2) (lo := a) (c := -1) (n := (a - m).toNat)
      have e1 : (fun (i : Nat) => (PyData.int (a + (i : Int) * (-1)) : D)) = fun (i : Nat) => .int (a - i) := by
        funext i
        congr 1
        omega
      rw [e1] at q
      exact q
    | _ => exact q2.elim
  | _ => exact q2.elim
/-! ### all -/
theorem tIte {c i j : IE} {t x y : Expr} {p : Pos} (h0 : PT X t (rdT X.K b (wE Φ c))) (h1 : PT X x (rdT X.K b (wE Φ i))) (h2 : PT X y (rdT X.K b (wE Φ j))) :
    PT X (.IfExp t x y p) (rdT X.K b (wE Φ (.ite c i j))) := by
  refine ⟨fun pins s σ H Q I ⟨ε, F, Xp, Qp, R, w, ex, kk⟩ => isTrue_IfExp ?_⟩
  have go : rdT X.K b (wE Φ c) σ H fun d H1 => if d = true then rdT X.K b (wE Φ i) σ H1 Q else rdT X.K b (wE Φ j) σ H1 Q := by
    refine ⟨ε, F, Xp, _, R, w, ex, fun d ε1 H1 F1 s1 f1 R1 q1 => ?_⟩
    cases d with
    | false => exact ⟨ε1, F1, Xp, Qp, R1, q1, ex.mono s1, fun v ε2 H2 F2 s2 f2 R2 q => kk v ε2 H2 F2 (s1.trans s2) (f1.trans f2) R2 q⟩
    | true => exact ⟨ε1, F1, Xp, Qp, R1, q1, ex.mono s1, fun v ε2 H2 F2 s2 f2 R2 q => kk v ε2 H2 F2 (s1.trans s2) (f1.trans f2) R2 q⟩
  refine thn (h0.run pins s σ H _ I go) fun d s1 ⟨H1, I1, q1⟩ => ?_
  cases d with
  | true => exact h1.run pins s1 σ H1 Q I1 q1
  | false => exact h2.run pins s1 σ H1 Q I1 q1
theorem plnName {x : Str} {p : Pos} : Pln X (.Name x p) := fun _ => rfl
theorem aNil (X : Cx) : PA X [] (rdA X.K b (wE Φ .nil)) := paImp pa_nil fun σ H Q ⟨ε, F, Xp, Qp, R, w, ex, kk⟩ => kk [] ε H F [] (.refl _) (.refl _) R .nil w
theorem aNilP (X : Cx) : PA X [] (rdAP X.K b (wE Φ .nil)) := paImp pa_nil fun σ H Q ⟨ε, F, Xp, Qp, R, w, ex, kk⟩ => kk [] ε H F F [] (.refl _) (.refl _) R ⟨.refl _, R.fh, fun _ _ h => .inl h⟩ .nil w
theorem aCons {i j : IE} {e : Expr} {es : List Expr} (h : PE X e (rdE X.K b (wE Φ i))) (hr : PA X es (rdA X.K b (wE Φ j))) (he : plainE e = true) : PA X (e :: es) (rdA X.K b (wE Φ (.cons i j))) :=
  paImp (pa_cons (peD h) hr (starOf he)) fun σ H Q ⟨ε, F, Xp, Qp, R, w, ex, kk⟩ =>
    ⟨ε, F, Xp, _, R, w, ex, fun d ε1 H1 F1 x s1 f1 R1 d1 q1 => ⟨ε1, F1, Xp, _, R1, q1, ex.mono s1, fun ds ε2 H2 F2 xs s2 f2 R2 d2 q2 =>
      kk (d :: ds) ε2 H2 F2 (x :: xs) (s1.trans s2) (f1.trans f2) R2 (.cons (dpSub f2 d1) d2) q2⟩⟩
theorem patL {K : PySem.W.Frag} {Z : Zn} {F F1 H : Hp} {v : V} {x : D} (l : Lsts Z F F1 H) (h : PAt K Z F H v x) : ∃ F2, Lsts Z F F2 H ∧ Sub F1 F2 ∧ Dp K F2 v x := by
  rcases h with h | ⟨p, vs, xs, rfl, rfl, h1, h2, h3⟩
  · exact ⟨F1, l, .refl _, dpSub l.1 h⟩
  · have sb : Sub F1 (upd F1 p (.lst vs)) := fun a o q => by
      by_cases e : a = p
      · subst e
        rw [l.2.1 _ _ q] at h1
        cases h1
        exact upd_same
      · rw [upd_ne e]; exact q
    refine ⟨upd F1 p (.lst vs), ⟨l.1.trans sb, fun a o q => ?_, fun a o q => ?_⟩, sb, .lst (.inl (.inl upd_same)) (daSub (l.1.trans sb) h2)⟩
    · by_cases e : a = p
      · subst e; rw [upd_same] at q; rw [← q]; exact h1
      · rw [upd_ne e] at q; exact l.2.1 _ _ q
    · by_cases e : a = p
      · subst e; rw [upd_same] at q; cases q; exact .inr ⟨⟨vs, rfl⟩, h3⟩
      · rw [upd_ne e] at q; exact l.2.2 _ _ q
theorem aConsP {i j : IE} {e : Expr} {es : List Expr} (h : PE X e (rdP X.K b (fun ε Xp q => pkW i ε (fun T => wE Φ i ε Xp T) q))) (hr : PA X es (rdAP X.K b (wE Φ j))) (he : plainE e = true) : PA X (e :: es) (rdAP X.K b (wE Φ (.consP i j))) :=
  paImp (pa_cons h hr (starOf he)) fun σ H Q ⟨ε, F, Xp, Qp, R, w, ex, kk⟩ =>
    ⟨ε, F, Xp, _, R, w, ex, fun d ε1 H1 F1 x s1 f1 R1 d1 q1 => ⟨ε1, F1, Xp, _, R1, q1, ex.mono s1, fun ds ε2 H2 F2 G2 xs s2 f2 R2 l2 d2 q2 =>
      let ⟨G3, l3, g3, d3⟩ := patL l2 (PAt.mono f2 s2 d1)
      kk (d :: ds) ε2 H2 F2 G3 (x :: xs) (s1.trans s2) (f1.trans f2) R2 l3 (.cons d3 (daSub g3 d2)) q2⟩⟩
theorem snNil : Sn fns cls N C Φ k .nil := by
  refine ⟨fun b X sc hC ok e hc => ?_, fun b X sc hC ok e hc => ?_, fun b X sc hC ok op es pos hc => ?_, fun b X sc hC ok hl es hc => ?_, fun b X sc hC ok hl es hc => ?_, fun b X sc hC ok hl => ?_⟩
  · exact absurd hc Bool.false_ne_true
  · exact absurd hc Bool.false_ne_true
  · exact absurd hc Bool.false_ne_true
  · cases es with
    | nil => exact aNil X
    | cons _ _ => exact absurd hc Bool.false_ne_true
  · cases es with
    | nil => exact aNilP X
    | cons _ _ => exact absurd hc Bool.false_ne_true
  · exact absurd hl Bool.false_ne_true
theorem lclParts (ok : Cok fns cls N C Φ k X sc b.W) (hC : b.C = C) {t : Tg} {itE eE : IE} (s1 : Sn fns cls N C Φ k itE) (s3 : Sn fns cls N C Φ k eE)
    {tg iter e : Expr} {scope : Scope} (h1 : isIt itE = true) (h2 : chk fns N itE sc [iter, tg] = true) (h3 : tgB (blB scope sc) N t tg = true) (h4 : blkC N sc scope (tgOwn t tg) = true) (h6 : chk fns N eE (relS scope sc) [e] = true) :
    PI X tg iter (rdI X.K b (wE Φ itE)) ∧ BlkOk X.N X.env.scope scope (tgOwn t tg) ∧
    (∀ (s : Shared) (H : Hp) (D : Addr) (cl : List (Str × Addr)) (fp : List Addr), PG (X.blk s H scope (compEnvC scope cl D X.env) fp) tg (gTg X.K t)) ∧
    (∀ (s : Shared) (H : Hp) (D : Addr) (cl : List (Str × Addr)) (fp : List Addr), PTs (X.blk s H scope (compEnvC scope cl D X.env) fp) [] (fun σ H q => q true H)) ∧
    (∀ (s : Shared) (H : Hp) (D : Addr) (cl : List (Str × Addr)) (fp : List Addr), PE (X.blk s H scope (compEnvC scope cl D X.env) fp) e
      (fun σ H q => ∃ H0 F0, rdD X.K ⟨b.C, fun _ _ _ _ => False, H0, F0⟩ (wE Φ eE) σ H q)) := by
  obtain ⟨q1, q2, q3, _, q5⟩ := lcParts (cE := .nil) (ifs := []) ok hC s1 snNil s3 h1 h2 h3 h4 rfl h6
  exact ⟨q1, q2, q3, fun s H D cl fp => pts_nil, q5⟩
theorem eLcL (ok : Cok fns cls N C Φ k X sc b.W) (hC : b.C = C) {t : Tg} {itE eE : IE} {j : Nat} (s1 : Sn fns cls N C Φ k itE) (s3 : Sn fns cls N C Φ k eE)
    {tg iter e : Expr} {scope : Scope} {p : Pos} (h1 : isIt itE = true) (h2 : chk fns N itE sc [iter, tg] = true) (h3 : tgB (blB scope sc) N t tg = true) (h4 : blkC N sc scope (tgOwn t tg) = true)
    (hj : (tgs t).contains j = false) (h6 : chk fns N eE (relS scope sc) [e] = true) (h7 : plainE iter = true) :
    PE X (.ListComp e [⟨tg, iter, [], 0⟩] scope p) (rdE X.K b (wE Φ (.lcL t itE eE j))) := by
  refine peImp ?_ fun σ H Q h => lclGo h (fun z => by rw [List.contains_iff_mem.mpr z] at hj; cases hj)
  rw [← tgOwn_ix h3]
  obtain ⟨q1, q2, q3, q4, q5⟩ := lclParts ok hC s1 s3 h1 h2 h3 h4 h6
  exact pe_lc ok.calm ok.nd q1 q2 q3 q4 q5 (fun x => noFold h7)
theorem eLcK (ok : Cok fns cls N C Φ k X sc b.W) (hC : b.C = C) {t : Tg} {itE eE : IE} {j : Nat} (s1 : Sn fns cls N C Φ k itE) (s3 : Sn fns cls N C Φ k eE)
    {tg iter e : Expr} {scope : Scope} {p : Pos} (h1 : isIt itE = true) (h2 : chk fns N itE sc [iter, tg] = true) (h3 : tgB (blB scope sc) N t tg = true) (h4 : blkC N sc scope (tgOwn t tg) = true)
    (hj : (tgs t).contains j = false) (h6 : chk fns N eE (relS scope sc) [e] = true) (h7 : plainE iter = true) :
    PE X (.ListComp e [⟨tg, iter, [], 0⟩] scope p) (rdE X.K b (wE Φ (.lcK t itE eE j))) := by
  refine peImp ?_ fun σ H Q h => lckGo h (fun z => by rw [List.contains_iff_mem.mpr z] at hj; cases hj)
  rw [← tgOwn_ix h3]
  obtain ⟨q1, q2, q3, q4, q5⟩ := lclParts ok hC s1 s3 h1 h2 h3 h4 h6
  exact pe_lc ok.calm ok.nd q1 q2 q3 q4 q5 (fun x => noFold h7)

theorem eLcD (ok : Cok fns cls N C Φ k X sc b.W) (hC : b.C = C) {t : Tg} {itE cE eE : IE} {j : Nat} (s1 : Sn fns cls N C Φ k itE) (s2 : Sn fns cls N C Φ k cE) (s3 : Sn fns cls N C Φ k eE)
    {tg iter e : Expr} {ifs : List Expr} {scope : Scope} {p : Pos} (h1 : isIt itE = true) (h2 : chk fns N itE sc [iter, tg] = true) (h3 : tgB (blB scope sc) N t tg = true) (h4 : blkC N sc scope (tgOwn t tg) = true)
    (hj : (tgs t).contains j = false) (h5 : ifsB (isNil cE) ifs (fun f => chk fns N cE (relS scope sc) [f]) = true) (h6 : chk fns N eE (relS scope sc) [e] = true) (h7 : plainE iter = true) :
    PE X (.ListComp e [⟨tg, iter, ifs, 0⟩] scope p) (rdE X.K b (wE Φ (.lcD t itE cE eE j))) := by
  refine peImp ?_ fun σ H Q h => lcdGo h (fun z => by rw [List.contains_iff_mem.mpr z] at hj; cases hj)
  rw [← tgOwn_ix h3]
  obtain ⟨q1, q2, q3, q4, q5⟩ := lcParts ok hC s1 s2 s3 h1 h2 h3 h4 h5 h6
  exact pe_lc ok.calm ok.nd q1 q2 q3 q4 q5 (fun x => noFold h7)
theorem eDlc (ok : Cok fns cls N C Φ k X sc b.W) (hC : b.C = C) {t : Tg} {cE eE : IE} {j : Nat} (s2 : Sn fns cls N C Φ k cE) (s3 : Sn fns cls N C Φ k eE)
    {tg e : Expr} {ifs : List Expr} {scope : Scope} {y : Str} {p p2 p3 q : Pos} (h1 : (nmB N j y && visB sc y) = true) (hl : (q.endLine == p3.line) = true) (ht : isTup tg = true) (h3 : tgB (blB scope sc) N t tg = true) (h4 : blkC N sc scope (tgOwn t tg) = true)
    (h5 : ifsB (isNil cE) ifs (fun f => chk fns N cE (relS scope sc) [f]) = true) (h6 : chk fns N eE (relS scope sc) [e] = true) :
    PE X (.ListComp e [⟨tg, .Call (.Attribute (.Name y p2) "items" q) [] [] p3, ifs, 0⟩] scope p) (rdE X.K b (wE Φ (.dlc t cE eE j))) := by
  cases tg with
  | Tuple elts kk tpos =>
    refine peImp ?_ fun σ H Q h => dlcGo h
    rw [← tgOwn_ix h3]
    obtain ⟨q2, q3, q4, q5⟩ := lcParts0 ok hC s2 s3 h3 h4 h5 h6
    exact pe_lock (pe_lc ok.calm ok.nd (pi_itemsD (peVar (p := p2) ok h1) rfl hl) q2 q3 q4 q5 (fun x => noFold rfl))
  | _ => exact absurd ht Bool.false_ne_true

/-- a term that is neither a list of arguments, nor a walk, nor a test of several parts -/
theorem Sn.mk0 {i : IE} (h1 : isL i = false) (h2 : isLP i = false) (h3 : isIt i = false) (h4 : ∀ sc op es pos, chk fns N i sc [.BoolOp op es pos] = false)
    (h : ∀ (b : Bd) (X : Cx) (sc : Scope), b.C = C → Cok fns cls N C Φ k X sc b.W → ∀ e, chk fns N i sc [e] = true → PE X e (rdE X.K b (wE Φ i)) ∧ PT X e (rdT X.K b (wE Φ i))) : Sn fns cls N C Φ k i where
  e := fun b X sc hC ok e hc => (h b X sc hC ok e hc).1
  t := fun b X sc hC ok e hc => (h b X sc hC ok e hc).2
  w := fun b X sc hC ok op es pos hc => by rw [h4] at hc; cases hc
  a := fun b X sc hC ok hl => by rw [h1] at hl; cases hl
  ap := fun b X sc hC ok hl => by rw [h2] at hl; cases hl
  i := fun b X sc hC ok hl => by rw [h3] at hl; cases hl
/-- a walk -/
theorem Sn.mkI {i : IE} (h1 : isL i = false) (h2 : isLP i = false) (h4 : ∀ sc e, chk fns N i sc [e] = false)
    (h : ∀ (b : Bd) (X : Cx) (sc : Scope), b.C = C → Cok fns cls N C Φ k X sc b.W → ∀ e tg, chk fns N i sc [e, tg] = true → PI X tg e (rdI X.K b (wE Φ i))) : Sn fns cls N C Φ k i where
  e := fun b X sc hC ok e hc => by rw [h4] at hc; cases hc
  t := fun b X sc hC ok e hc => by rw [h4] at hc; cases hc
  w := fun b X sc hC ok op es pos hc => by rw [h4] at hc; cases hc
  a := fun b X sc hC ok hl => by rw [h1] at hl; cases hl
  ap := fun b X sc hC ok hl => by rw [h2] at hl; cases hl
  i := fun b X sc hC ok hl => h b X sc hC ok
theorem snAll (i : IE) : Sn fns cls N C Φ k i := by
  induction i with
  | nil =>
    refine ⟨fun b X sc hC ok e hc => ?_, fun b X sc hC ok e hc => ?_, fun b X sc hC ok op es pos hc => ?_, fun b X sc hC ok hl es hc => ?_, fun b X sc hC ok hl es hc => ?_, fun b X sc hC ok hl => ?_⟩
    · exact absurd hc Bool.false_ne_true
    · exact absurd hc Bool.false_ne_true
    · exact absurd hc Bool.false_ne_true
    · cases es with
      | nil => exact aNil X
      | cons _ _ => exact absurd hc Bool.false_ne_true
    · cases es with
      | nil => exact aNilP X
      | cons _ _ => exact absurd hc Bool.false_ne_true
    · exact absurd hl Bool.false_ne_true
  | cons a r iha ihr =>
    refine ⟨fun b X sc hC ok e hc => ?_, fun b X sc hC ok e hc => ?_, fun b X sc hC ok op es pos hc => ?_, fun b X sc hC ok hl es hc => ?_, fun b X sc hC ok hl => ?_, fun b X sc hC ok hl => ?_⟩
    · exact absurd hc Bool.false_ne_true
    · exact absurd hc Bool.false_ne_true
    · exact absurd hc Bool.false_ne_true
    · cases es with
      | nil => exact absurd hc Bool.false_ne_true
      | cons e es =>
        have h : (plainE e && chk fns N a sc [e] && isL r && chk fns N r sc (dm :: dm :: es)) = true := hc
        simp only [Bool.and_eq_true] at h
        exact aCons (iha.e b X sc hC ok e h.1.1.2) (ihr.a b X sc hC ok h.1.2 es h.2) h.1.1.1
    · exact absurd hl Bool.false_ne_true
    · exact absurd hl Bool.false_ne_true
  | consP a r iha ihr =>
    refine ⟨fun b X sc hC ok e hc => ?_, fun b X sc hC ok e hc => ?_, fun b X sc hC ok op es pos hc => ?_, fun b X sc hC ok hl => ?_, fun b X sc hC ok hl es hc => ?_, fun b X sc hC ok hl => ?_⟩
    · exact absurd hc Bool.false_ne_true
    · exact absurd hc Bool.false_ne_true
    · exact absurd hc Bool.false_ne_true
    · exact absurd hl Bool.false_ne_true
    · cases es with
      | nil => exact absurd hc Bool.false_ne_true
      | cons e es =>
        have h : (plainE e && chk fns N a sc [e] && isLP r && chk fns N r sc (dm :: dm :: es)) = true := hc
        simp only [Bool.and_eq_true] at h
        exact aConsP (pkE ok hC iha h.1.1.2) (ihr.ap b X sc hC ok h.1.2 es h.2) h.1.1.1
    · exact absurd hl Bool.false_ne_true
  | var j =>
    refine Sn.mk0 rfl rfl rfl (fun _ _ _ _ => rfl) fun b X sc hC ok e hc => ?_
    cases e with
    | Name x p => exact ⟨eVar ok hc, ptOf (eVar ok hc) fun _ => rfl⟩
    | _ => exact absurd hc Bool.false_ne_true
  | mov j =>
    refine Sn.mk0 rfl rfl rfl (fun _ _ _ _ => rfl) fun b X sc hC ok e hc => ?_
    cases e with
    | Name x p => exact ⟨eMov ok hc, ptOf (eMov ok hc) fun _ => rfl⟩
    | _ => exact absurd hc Bool.false_ne_true
  | cst c =>
    refine Sn.mk0 rfl rfl rfl (fun _ _ _ _ => rfl) fun b X sc hC ok e hc => ?_
    cases e with
    | Constant q n p => exact ⟨eCst hc, ptOf (eCst hc) fun _ => rfl⟩
    | _ => exact absurd hc Bool.false_ne_true
  | tup a ih =>
    refine Sn.mk0 rfl rfl rfl (fun _ _ _ _ => rfl) fun b X sc hC ok e hc => ?_
    cases e with
    | Tuple es n p =>
      have h : (isL a && chk fns N a sc (dm :: dm :: es)) = true := hc
      rw [Bool.and_eq_true] at h
      have q := eTup (n := n) (p := p) (ih.a b X sc hC ok h.1 es h.2)
      exact ⟨q, ptOf q fun _ => rfl⟩
    | _ => exact absurd hc Bool.false_ne_true
  | lst a ih =>
    refine Sn.mk0 rfl rfl rfl (fun _ _ _ _ => rfl) fun b X sc hC ok e hc => ?_
    cases e with
    | List es p =>
      have h : (isL a && chk fns N a sc (dm :: dm :: es)) = true := hc
      rw [Bool.and_eq_true] at h
      have q := eLst (p := p) (ih.a b X sc hC ok h.1 es h.2)
      exact ⟨q, ptOf q fun _ => rfl⟩
    | _ => exact absurd hc Bool.false_ne_true
  | bin o a c iha ihb =>
    refine Sn.mk0 rfl rfl rfl (fun _ _ _ _ => rfl) fun b X sc hC ok e hc => ?_
    cases e with
    | BinOp l o' r p =>
      have h : (decide (o = o') && chk fns N a sc [l] && chk fns N c sc [r]) = true := hc
      simp only [Bool.and_eq_true, decide_eq_true_eq] at h
      obtain ⟨⟨rfl, h1⟩, h2⟩ := h
      have q := eBin ok (p := p) (o := o) (iha.e b X sc hC ok l h1) (ihb.e b X sc hC ok r h2)
      exact ⟨q, ptOf q fun _ => rfl⟩
    | _ => exact absurd hc Bool.false_ne_true
  | cmp o a c iha ihb =>
    refine Sn.mk0 rfl rfl rfl (fun _ _ _ _ => rfl) fun b X sc hC ok e hc => ?_
    cases e with
    | Compare l os rs p =>
      cases os with
      | nil => exact absurd hc Bool.false_ne_true
      | cons o' os =>
        cases os with
        | cons _ _ => exact absurd hc Bool.false_ne_true
        | nil =>
          cases rs with
          | nil => exact absurd hc Bool.false_ne_true
          | cons r rs =>
            cases rs with
            | cons _ _ => exact absurd hc Bool.false_ne_true
            | nil =>
              have h : (decide (o = o') && decide (o ≠ .In) && decide (o ≠ .NotIn) && chk fns N a sc [l] && chk fns N c sc [r]) = true := hc
              simp only [Bool.and_eq_true, decide_eq_true_eq] at h
              obtain ⟨⟨⟨⟨rfl, h3⟩, h4⟩, h1⟩, h2⟩ := h
              exact eCmp ok h3 h4 (pkE ok hC iha h1) (pkE ok hC ihb h2)
    | _ => exact absurd hc Bool.false_ne_true
  | neg a ih =>
    refine Sn.mk0 rfl rfl rfl (fun _ _ _ _ => rfl) fun b X sc hC ok e hc => ?_
    cases e with
    | UnaryOp o x p =>
      cases o with
      | USub =>
        have q := eNeg (p := p) (ih.e b X sc hC ok x hc)
        exact ⟨q, ptOf q fun _ => rfl⟩
      | _ => exact absurd hc Bool.false_ne_true
    | _ => exact absurd hc Bool.false_ne_true
  | bnot a ih =>
    refine Sn.mk0 rfl rfl rfl (fun _ _ _ _ => rfl) fun b X sc hC ok e hc => ?_
    cases e with
    | UnaryOp o x p =>
      cases o with
      | Not => exact eNot (ih.e b X sc hC ok x hc) (ih.t b X sc hC ok x hc)
      | _ => exact absurd hc Bool.false_ne_true
    | _ => exact absurd hc Bool.false_ne_true
  | band a r iha ihr =>
    have key : ∀ (b : Bd) (X : Cx) (sc : Scope), b.C = C → Cok fns cls N C Φ k X sc b.W → ∀ op es pos, chk fns N (.band a r) sc [.BoolOp op es pos] = true →
        PE X (.BoolOp op es pos) (rdE X.K b (wE Φ (.band a r))) ∧ PW X (.BoolOp op es pos) (rdT X.K b (wE Φ (.band a r))) := fun b X sc hC ok op es pos hc => by
      cases op with
      | Or => exact absurd hc (by cases es with
        | nil => exact Bool.false_ne_true
        | cons _ es => cases es <;> exact Bool.false_ne_true)
      | And =>
        cases es with
        | nil => exact absurd hc Bool.false_ne_true
        | cons x es =>
          cases es with
          | nil => exact absurd hc Bool.false_ne_true
          | cons y rest =>
            have h : (chk fns N a sc [x] && chk fns N r sc [.BoolOp .And (y :: rest) pos]) = true := hc
            rw [Bool.and_eq_true] at h
            exact eAnd (iha.e b X sc hC ok x h.1) (iha.t b X sc hC ok x h.1) (ihr.e b X sc hC ok _ h.2) (ihr.w b X sc hC ok _ _ _ h.2)
    refine ⟨fun b X sc hC ok e hc => ?_, fun b X sc hC ok e hc => ?_, fun b X sc hC ok op es pos hc => (key b X sc hC ok op es pos hc).2, fun b X sc hC ok hl => absurd hl Bool.false_ne_true, fun b X sc hC ok hl => absurd hl Bool.false_ne_true, fun b X sc hC ok hl => absurd hl Bool.false_ne_true⟩
    · cases e with
      | BoolOp op es pos => exact (key b X sc hC ok op es pos hc).1
      | _ => exact absurd hc Bool.false_ne_true
    · cases e with
      | BoolOp op es pos => exact (key b X sc hC ok op es pos hc).2.pt
      | _ => exact absurd hc Bool.false_ne_true
  | bor a r iha ihr =>
    have key : ∀ (b : Bd) (X : Cx) (sc : Scope), b.C = C → Cok fns cls N C Φ k X sc b.W → ∀ op es pos, chk fns N (.bor a r) sc [.BoolOp op es pos] = true →
        PE X (.BoolOp op es pos) (rdE X.K b (wE Φ (.bor a r))) ∧ PW X (.BoolOp op es pos) (rdT X.K b (wE Φ (.bor a r))) := fun b X sc hC ok op es pos hc => by
      cases op with
      | And => exact absurd hc (by cases es with
        | nil => exact Bool.false_ne_true
        | cons _ es => cases es <;> exact Bool.false_ne_true)
      | Or =>
        cases es with
        | nil => exact absurd hc Bool.false_ne_true
        | cons x es =>
          cases es with
          | nil => exact absurd hc Bool.false_ne_true
          | cons y rest =>
            have h : (chk fns N a sc [x] && chk fns N r sc [.BoolOp .Or (y :: rest) pos]) = true := hc
            rw [Bool.and_eq_true] at h
            exact eOr (iha.e b X sc hC ok x h.1) (iha.t b X sc hC ok x h.1) (ihr.e b X sc hC ok _ h.2) (ihr.w b X sc hC ok _ _ _ h.2)
    refine ⟨fun b X sc hC ok e hc => ?_, fun b X sc hC ok e hc => ?_, fun b X sc hC ok op es pos hc => (key b X sc hC ok op es pos hc).2, fun b X sc hC ok hl => absurd hl Bool.false_ne_true, fun b X sc hC ok hl => absurd hl Bool.false_ne_true, fun b X sc hC ok hl => absurd hl Bool.false_ne_true⟩
    · cases e with
      | BoolOp op es pos => exact (key b X sc hC ok op es pos hc).1
      | _ => exact absurd hc Bool.false_ne_true
    · cases e with
      | BoolOp op es pos => exact (key b X sc hC ok op es pos hc).2.pt
      | _ => exact absurd hc Bool.false_ne_true
  | bone a ih =>
    have key : ∀ (b : Bd) (X : Cx) (sc : Scope), b.C = C → Cok fns cls N C Φ k X sc b.W → ∀ op es pos, chk fns N (.bone a) sc [.BoolOp op es pos] = true →
        PE X (.BoolOp op es pos) (rdE X.K b (wE Φ (.bone a))) ∧ PW X (.BoolOp op es pos) (rdT X.K b (wE Φ (.bone a))) := fun b X sc hC ok op es pos hc => by
      cases es with
      | nil => exact absurd hc Bool.false_ne_true
      | cons x es =>
        cases es with
        | cons _ _ => exact absurd hc Bool.false_ne_true
        | nil => exact eOne (ih.e b X sc hC ok x hc) (ih.t b X sc hC ok x hc)
    refine ⟨fun b X sc hC ok e hc => ?_, fun b X sc hC ok e hc => ?_, fun b X sc hC ok op es pos hc => (key b X sc hC ok op es pos hc).2, fun b X sc hC ok hl => absurd hl Bool.false_ne_true, fun b X sc hC ok hl => absurd hl Bool.false_ne_true, fun b X sc hC ok hl => absurd hl Bool.false_ne_true⟩
    · cases e with
      | BoolOp op es pos => exact (key b X sc hC ok op es pos hc).1
      | _ => exact absurd hc Bool.false_ne_true
    · cases e with
      | BoolOp op es pos => exact (key b X sc hC ok op es pos hc).2.pt
      | _ => exact absurd hc Bool.false_ne_true
  | ite c a d ihc iha ihb =>
    refine Sn.mk0 rfl rfl rfl (fun _ _ _ _ => rfl) fun b X sc hC ok e hc => ?_
    cases e with
    | IfExp t x y p =>
      have h : (chk fns N c sc [t] && chk fns N a sc [x] && chk fns N d sc [y]) = true := hc
      simp only [Bool.and_eq_true] at h
      exact ⟨eIte (p := p) (ihc.t b X sc hC ok t h.1.1) (iha.e b X sc hC ok x h.1.2) (ihb.e b X sc hC ok y h.2), tIte (p := p) (ihc.t b X sc hC ok t h.1.1) (iha.t b X sc hC ok x h.1.2) (ihb.t b X sc hC ok y h.2)⟩
    | _ => exact absurd hc Bool.false_ne_true
  | ix a c iha ihb =>
    refine Sn.mk0 rfl rfl rfl (fun _ _ _ _ => rfl) fun b X sc hC ok e hc => ?_
    cases e with
    | Subscript x y p =>
      have h : (plainE y && chk fns N a sc [x] && chk fns N c sc [y]) = true := hc
      simp only [Bool.and_eq_true] at h
      have q := eIx (p := p) h.1.1 (pkE ok hC iha h.1.2) (ihb.e b X sc hC ok y h.2)
      exact ⟨q, ptOf q fun _ => rfl⟩
    | _ => exact absurd hc Bool.false_ne_true
  | sl a lo hi iha ihl ihh =>
    refine Sn.mk0 rfl rfl rfl (fun _ _ _ _ => rfl) fun b X sc hC ok e hc => ?_
    cases e with
    | Subscript x y p =>
      cases y with
      | Slice l g st p2 =>
        cases st with
        | some _ => exact absurd hc Bool.false_ne_true
        | none =>
          have h : (chk fns N a sc [x] && optB (isNil lo) l (fun e => chk fns N lo sc [e]) && optB (isNil hi) g (fun e => chk fns N hi sc [e])) = true := hc
          rw [Bool.and_eq_true, Bool.and_eq_true] at h
          obtain ⟨⟨h1, h2⟩, h3⟩ := h
          have q := eSl (p := p) (p2 := p2) (pkE ok hC iha h1)
            (poOf (i := lo) (l := l) (fun e => by subst e; exact h2) fun e he => by
              subst he
              have h2' : (!isNil lo && chk fns N lo sc [e]) = true := h2
              rw [Bool.and_eq_true, Bool.not_eq_true'] at h2'
              exact ⟨h2'.1, ihl.e b X sc hC ok e h2'.2⟩)
            (poOf (i := hi) (l := g) (fun e => by subst e; exact h3) fun e he => by
              subst he
              have h2' : (!isNil hi && chk fns N hi sc [e]) = true := h3
              rw [Bool.and_eq_true, Bool.not_eq_true'] at h2'
              exact ⟨h2'.1, ihh.e b X sc hC ok e h2'.2⟩)
          exact ⟨q, ptOf q fun _ => rfl⟩
      | _ => exact absurd hc Bool.false_ne_true
    | _ => exact absurd hc Bool.false_ne_true
  | rev a ih =>
    refine Sn.mk0 rfl rfl rfl (fun _ _ _ _ => rfl) fun b X sc hC ok e hc => ?_
    cases e with
    | Subscript x y p =>
      cases y with
      | Slice l g st p2 =>
        cases l with
        | some _ => exact absurd hc Bool.false_ne_true
        | none =>
          cases g with
          | some _ => exact absurd hc Bool.false_ne_true
          | none =>
            cases st with
            | none => exact absurd hc Bool.false_ne_true
            | some st =>
              cases st with
              | UnaryOp o z p3 =>
                cases o with
                | USub =>
                  cases z with
                  | Constant v n p4 =>
                    cases v with
                    | int z =>
                      have h : (decide (z = 1) && chk fns N a sc [x]) = true := hc
                      rw [Bool.and_eq_true, decide_eq_true_eq] at h
                      obtain ⟨rfl, h⟩ := h
                      have q := eRev (n := n) (p := p) (p1 := p4) (p2 := p3) (p3 := p2) (pkE ok hC ih h)
                      exact ⟨q, ptOf q fun _ => rfl⟩
                    | _ => exact absurd hc Bool.false_ne_true
                  | _ => exact absurd hc Bool.false_ne_true
                | _ => exact absurd hc Bool.false_ne_true
              | _ => exact absurd hc Bool.false_ne_true
      | _ => exact absurd hc Bool.false_ne_true
    | _ => exact absurd hc Bool.false_ne_true
  | call f a ih =>
    refine Sn.mk0 rfl rfl rfl (fun _ _ _ _ => rfl) fun b X sc hC ok e hc => ?_
    cases e with
    | Call fn es ks p =>
      cases fn with
      | Name x p2 =>
        cases ks with
        | cons _ _ => exact absurd hc Bool.false_ne_true
        | nil =>
          have q := eCall (p := p2) (pos := p) ok hC ih hc
          exact ⟨q, ptOf q fun _ => rfl⟩
      | _ => exact absurd hc Bool.false_ne_true
    | _ => exact absurd hc Bool.false_ne_true
  | callP f a ih =>
    refine Sn.mk0 rfl rfl rfl (fun _ _ _ _ => rfl) fun b X sc hC ok e hc => ?_
    cases e with
    | Call fn es ks p =>
      cases fn with
      | Name x p2 =>
        cases ks with
        | cons _ _ => exact absurd hc Bool.false_ne_true
        | nil =>
          have q := eCallP (p := p2) (pos := p) ok hC ih hc
          exact ⟨q, ptOf q fun _ => rfl⟩
      | _ => exact absurd hc Bool.false_ne_true
    | _ => exact absurd hc Bool.false_ne_true
  | bi c a ih =>
    refine Sn.mk0 rfl rfl rfl (fun _ _ _ _ => rfl) fun b X sc hC ok e hc => ?_
    cases e with
    | Call fn es ks p =>
      cases fn with
      | Name x p2 =>
        cases es with
        | nil => exact absurd hc Bool.false_ne_true
        | cons e es =>
          cases ks with
          | cons _ _ => exact absurd hc Bool.false_ne_true
          | nil =>
            have q := eBi (p := p2) (pos := p) ok hC ih hc
            exact ⟨q, ptOf q fun _ => rfl⟩
      | _ => exact absurd hc Bool.false_ne_true
    | _ => exact absurd hc Bool.false_ne_true
  | len a ih =>
    refine Sn.mk0 rfl rfl rfl (fun _ _ _ _ => rfl) fun b X sc hC ok e hc => ?_
    cases e with
    | Call fn es ks p =>
      cases fn with
      | Name x p2 =>
        cases es with
        | nil => exact absurd hc Bool.false_ne_true
        | cons e es =>
          cases es with
          | cons _ _ => exact absurd hc Bool.false_ne_true
          | nil =>
            cases ks with
            | cons _ _ => exact absurd hc Bool.false_ne_true
            | nil =>
              have h : (decide (x = "len") && glB sc x && plainE e && chk fns N a sc [e]) = true := hc
              simp only [Bool.and_eq_true, decide_eq_true_eq] at h
              have q := eLen (p := p2) (pos := p) ok h.1.1.1 h.1.1.2 h.1.2 (pkE ok hC ih h.2)
              exact ⟨q, ptOf q fun _ => rfl⟩
      | _ => exact absurd hc Bool.false_ne_true
    | _ => exact absurd hc Bool.false_ne_true
  | lsc a ih =>
    refine Sn.mk0 rfl rfl rfl (fun _ _ _ _ => rfl) fun b X sc hC ok e hc => ?_
    cases e with
    | Call fn es ks p =>
      cases fn with
      | Name x p2 =>
        cases es with
        | nil => exact absurd hc Bool.false_ne_true
        | cons e es =>
          cases es with
          | cons _ _ => exact absurd hc Bool.false_ne_true
          | nil =>
            cases ks with
            | cons _ _ => exact absurd hc Bool.false_ne_true
            | nil =>
              have h : (decide (x = "list") && glB sc x && plainE e && chk fns N a sc [e]) = true := hc
              simp only [Bool.and_eq_true, decide_eq_true_eq] at h
              have q := eLsc (p := p2) (pos := p) ok h.1.1.1 h.1.1.2 h.1.2 (pkE ok hC ih h.2)
              exact ⟨q, ptOf q fun _ => rfl⟩
      | _ => exact absurd hc Bool.false_ne_true
    | _ => exact absurd hc Bool.false_ne_true
  | isi t a ih =>
    refine Sn.mk0 rfl rfl rfl (fun _ _ _ _ => rfl) fun b X sc hC ok e hc => ?_
    cases e with
    | Call fn es ks p =>
      cases fn with
      | Name x p2 =>
        cases es with
        | nil => exact absurd hc Bool.false_ne_true
        | cons e es =>
          cases es with
          | nil => exact absurd hc Bool.false_ne_true
          | cons g es =>
            cases es with
            | cons _ _ => cases g <;> exact absurd hc Bool.false_ne_true
            | nil =>
              cases g with
              | Name y p3 =>
                cases ks with
                | cons _ _ => exact absurd hc Bool.false_ne_true
                | nil =>
                  have h : (decide (x = "isinstance") && glB sc x && decide (tyName t = y) && glB sc y && plainE e && chk fns N a sc [e]) = true := hc
                  simp only [Bool.and_eq_true, decide_eq_true_eq] at h
                  obtain ⟨⟨⟨⟨⟨g1, g2⟩, g3⟩, g4⟩, g5⟩, g6⟩ := h
                  have q := eIsi (p := p2) (p2 := p3) (pos := p) ok g1 g2 g3 g4 g5 (pkE ok hC ih g6)
                  exact ⟨q, ptOf q fun _ => rfl⟩
              | _ => exact absurd hc Bool.false_ne_true
      | _ => exact absurd hc Bool.false_ne_true
    | _ => exact absurd hc Bool.false_ne_true
  | isx c j => exact Sn.mk0 rfl rfl rfl (fun _ _ _ _ => rfl) fun b X sc hC ok e hc => absurd hc Bool.false_ne_true
  | itv a ih =>
    refine Sn.mkI rfl rfl (fun _ _ => rfl) fun b X sc hC ok e tg hc => ?_
    have h : (plainE e && chk fns N a sc [e]) = true := hc
    rw [Bool.and_eq_true] at h
    exact iSeqGo (ih.e b X sc hC ok e h.2)
  | rng1 a ih =>
    refine Sn.mkI rfl rfl (fun _ _ => rfl) fun b X sc hC ok e tg hc => ?_
    cases e with
    | Call fn es ks p =>
      cases fn with
      | Name x p2 =>
        cases es with
        | nil => exact absurd hc Bool.false_ne_true
        | cons e es =>
          cases es with
          | cons _ _ => exact absurd hc Bool.false_ne_true
          | nil =>
            cases ks with
            | cons _ _ => exact absurd hc Bool.false_ne_true
            | nil =>
              have h : (decide (x = "range") && glB sc x && plainE e && chk fns N a sc [e]) = true := hc
              simp only [Bool.and_eq_true, decide_eq_true_eq] at h
              exact iRng1Go ok (ih.e b X sc hC ok e h.2) h.1.1.1 h.1.1.2 h.1.2
      | _ => exact absurd hc Bool.false_ne_true
    | _ => exact absurd hc Bool.false_ne_true
  | rng2 a c iha ihb =>
    refine Sn.mkI rfl rfl (fun _ _ => rfl) fun b X sc hC ok e tg hc => ?_
    cases e with
    | Call fn es ks p =>
      cases fn with
      | Name x p2 =>
        cases es with
        | nil => exact absurd hc Bool.false_ne_true
        | cons e es =>
          cases es with
          | nil => exact absurd hc Bool.false_ne_true
          | cons f es =>
            cases es with
            | cons _ _ => exact absurd hc Bool.false_ne_true
            | nil =>
              cases ks with
              | cons _ _ => exact absurd hc Bool.false_ne_true
              | nil =>
                have h : (decide (x = "range") && glB sc x && plainE e && plainE f && chk fns N a sc [e] && chk fns N c sc [f]) = true := hc
                simp only [Bool.and_eq_true, decide_eq_true_eq] at h
                obtain ⟨⟨⟨⟨⟨g1, g2⟩, g3⟩, g4⟩, g5⟩, g6⟩ := h
                exact iRng2Go ok (iha.e b X sc hC ok e g5) (ihb.e b X sc hC ok f g6) g1 g2 g3 g4
      | _ => exact absurd hc Bool.false_ne_true
    | _ => exact absurd hc Bool.false_ne_true
  | rngd a c iha ihb =>
    refine Sn.mkI rfl rfl (fun _ _ => rfl) fun b X sc hC ok e tg hc => ?_
    cases e with
    | Call fn es ks p =>
      cases fn with
      | Name x p2 =>
        cases es with
        | nil => exact absurd hc Bool.false_ne_true
        | cons e es =>
          cases es with
          | nil => exact absurd hc Bool.false_ne_true
          | cons f es =>
            cases es with
            | nil => exact absurd hc Bool.false_ne_true
            | cons g es =>
              cases es with
              | cons _ _ =>
                cases g with
                | UnaryOp o v p3 =>
                  cases o with
                  | USub =>
                    cases v with
                    | Constant q n p4 => cases q <;> exact absurd hc Bool.false_ne_true
                    | _ => exact absurd hc Bool.false_ne_true
                  | _ => exact absurd hc Bool.false_ne_true
                | _ => exact absurd hc Bool.false_ne_true
              | nil =>
                cases g with
                | UnaryOp o v p3 =>
                  cases o with
                  | USub =>
                    cases v with
                    | Constant q n p4 =>
                      cases q with
                      | int z =>
                        cases ks with
                        | cons _ _ => exact absurd hc Bool.false_ne_true
                        | nil =>
                          have h : (decide (x = "range") && glB sc x && plainE e && plainE f && decide (z = 1) && chk fns N a sc [e] && chk fns N c sc [f]) = true := hc
                          simp only [Bool.and_eq_true, decide_eq_true_eq] at h
                          obtain ⟨⟨⟨⟨⟨⟨g1, g2⟩, g3⟩, g4⟩, rfl⟩, g5⟩, g6⟩ := h
                          exact iRngdGo ok (iha.e b X sc hC ok e g5) (ihb.e b X sc hC ok f g6) g1 g2 g3 g4
                      | _ => exact absurd hc Bool.false_ne_true
                    | _ => exact absurd hc Bool.false_ne_true
                  | _ => exact absurd hc Bool.false_ne_true
                | _ => exact absurd hc Bool.false_ne_true
      | _ => exact absurd hc Bool.false_ne_true
    | _ => exact absurd hc Bool.false_ne_true
  | enm a ih =>
    refine Sn.mkI rfl rfl (fun _ _ => rfl) fun b X sc hC ok e tg hc => ?_
    cases e with
    | Call fn es ks p =>
      cases fn with
      | Name x p2 =>
        cases es with
        | nil => exact absurd hc Bool.false_ne_true
        | cons e es =>
          cases es with
          | cons _ _ => exact absurd hc Bool.false_ne_true
          | nil =>
            cases ks with
            | cons _ _ => exact absurd hc Bool.false_ne_true
            | nil =>
              have h : (decide (x = "enumerate") && glB sc x && plainE e && isTup tg && chk fns N a sc [e]) = true := hc
              simp only [Bool.and_eq_true, decide_eq_true_eq] at h
              exact iEnmGo ok (ih.e b X sc hC ok e h.2) h.1.1.1.1 h.1.1.1.2 h.1.1.2 h.1.2
      | _ => exact absurd hc Bool.false_ne_true
    | _ => exact absurd hc Bool.false_ne_true
  | rvd a ih =>
    refine Sn.mkI rfl rfl (fun _ _ => rfl) fun b X sc hC ok e tg hc => ?_
    cases e with
    | Call fn es ks p =>
      cases fn with
      | Name x p2 =>
        cases es with
        | nil => exact absurd hc Bool.false_ne_true
        | cons e es =>
          cases es with
          | cons _ _ => exact absurd hc Bool.false_ne_true
          | nil =>
            cases ks with
            | cons _ _ => exact absurd hc Bool.false_ne_true
            | nil =>
              have h : (decide (x = "reversed") && glB sc x && plainE e && chk fns N a sc [e]) = true := hc
              simp only [Bool.and_eq_true, decide_eq_true_eq] at h
              exact iRevGo ok (ih.e b X sc hC ok e h.2) h.1.1.1 h.1.1.2 h.1.2
      | _ => exact absurd hc Bool.false_ne_true
    | _ => exact absurd hc Bool.false_ne_true
  | zip a c iha ihb =>
    refine Sn.mkI rfl rfl (fun _ _ => rfl) fun b X sc hC ok e tg hc => ?_
    cases e with
    | Call fn es ks p =>
      cases fn with
      | Name x p2 =>
        rcases es with _ | ⟨e, _ | ⟨f, _ | ⟨_, _⟩⟩⟩
        · exact absurd hc Bool.false_ne_true
        · exact absurd hc Bool.false_ne_true
        · cases ks with
          | cons _ _ => exact absurd hc Bool.false_ne_true
          | nil =>
            have h : (decide (x = "zip") && glB sc x && plainE e && plainE f && isTup tg && chk fns N a sc [e] && chk fns N c sc [f]) = true := hc
            simp only [Bool.and_eq_true, decide_eq_true_eq] at h
            obtain ⟨⟨⟨⟨⟨⟨h1, h2⟩, h3⟩, h4⟩, h5⟩, h6⟩, h7⟩ := h
            exact iZipGo ok (iha.e b X sc hC ok e h6) (ihb.e b X sc hC ok f h7) h1 h2 h3 h4 h5
        · exact absurd hc Bool.false_ne_true
      | _ => exact absurd hc Bool.false_ne_true
    | _ => exact absurd hc Bool.false_ne_true
  | lc t it c elt ih1 ih2 ih3 =>
    refine Sn.mk0 rfl rfl rfl (fun _ _ _ _ => rfl) fun b X sc hC ok e hc => ?_
    cases e with
    | ListComp e gs scope p =>
      cases gs with
      | nil => exact absurd hc Bool.false_ne_true
      | cons g gs =>
        obtain ⟨tg, iter, ifs, as⟩ := g
        cases gs with
        | cons _ _ => exact absurd hc Bool.false_ne_true
        | nil =>
          have h : (decide (as = 0) && plainE iter && isIt it && chk fns N it sc [iter, tg] && tgB (blB scope sc) N t tg && blkC N sc scope (tgOwn t tg) && ifsB (isNil c) ifs (fun f => chk fns N c (relS scope sc) [f]) && chk fns N elt (relS scope sc) [e]) = true := hc
          simp only [Bool.and_eq_true, decide_eq_true_eq] at h
          obtain ⟨⟨⟨⟨⟨⟨⟨rfl, g1⟩, g2⟩, g3⟩, g4⟩, g5⟩, g6⟩, g7⟩ := h
          have q := eLc (p := p) ok hC ih1 ih2 ih3 g2 g3 g4 g5 g6 g7 g1
          exact ⟨q, ptOf q fun _ => rfl⟩
    | _ => exact absurd hc Bool.false_ne_true
  | inn neg a c iha ihb =>
    refine Sn.mk0 rfl rfl rfl (fun _ _ _ _ => rfl) fun b X sc hC ok e hc => ?_
    cases e with
    | Compare l os rs p =>
      rcases os with _ | ⟨o, _ | ⟨_, _⟩⟩
      · exact absurd hc Bool.false_ne_true
      · rcases rs with _ | ⟨r, _ | ⟨_, _⟩⟩
        · exact absurd hc Bool.false_ne_true
        · have h : (decide (o = (if neg = true then .NotIn else .In)) && noSet r && chk fns N a sc [l] && chk fns N c sc [r]) = true := hc
          simp only [Bool.and_eq_true, decide_eq_true_eq] at h
          obtain ⟨⟨⟨rfl, h1⟩, h2⟩, h3⟩ := h
          exact eInn ok h1 (pkE ok hC iha h2) (pkE ok hC ihb h3)
        · exact absurd hc Bool.false_ne_true
      · exact absurd hc Bool.false_ne_true
    | _ => exact absurd hc Bool.false_ne_true
  | cmp2 o o' a c d iha ihb ihc =>
    refine Sn.mk0 rfl rfl rfl (fun _ _ _ _ => rfl) fun b X sc hC ok e hc => ?_
    cases e with
    | Compare l os rs p =>
      rcases os with _ | ⟨q, _ | ⟨q', _ | ⟨_, _⟩⟩⟩
      · exact absurd hc Bool.false_ne_true
      · exact absurd hc Bool.false_ne_true
      · rcases rs with _ | ⟨m, _ | ⟨r, _ | ⟨_, _⟩⟩⟩
        · exact absurd hc Bool.false_ne_true
        · exact absurd hc Bool.false_ne_true
        · have h : (decide (o = q) && decide (o' = q') && decide (o' ≠ .In) && decide (o' ≠ .NotIn) && chk fns N a sc [l] && chk fns N c sc [m] && chk fns N d sc [r]) = true := hc
          simp only [Bool.and_eq_true, decide_eq_true_eq] at h
          obtain ⟨⟨⟨⟨⟨⟨rfl, rfl⟩, h1⟩, h2⟩, h3⟩, h4⟩, h5⟩ := h
          exact eCmp2 ok h1 h2 (iha.e b X sc hC ok l h3) (ihb.e b X sc hC ok m h4) (ihc.e b X sc hC ok r h5)
        · exact absurd hc Bool.false_ne_true
      · exact absurd hc Bool.false_ne_true
    | _ => exact absurd hc Bool.false_ne_true
  | cnt a c iha ihb =>
    refine Sn.mk0 rfl rfl rfl (fun _ _ _ _ => rfl) fun b X sc hC ok e hc => ?_
    cases e with
    | Call fn es ks p =>
      cases fn with
      | Attribute o m q =>
        rcases es with _ | ⟨e, _ | ⟨_, _⟩⟩
        · exact absurd hc Bool.false_ne_true
        · cases ks with
          | cons _ _ => exact absurd hc Bool.false_ne_true
          | nil =>
            have h : (decide (m = "count") && (q.endLine == p.line) && plainE e && noAttr o && chk fns N a sc [o] && chk fns N c sc [e]) = true := hc
            simp only [Bool.and_eq_true, decide_eq_true_eq] at h
            obtain ⟨⟨⟨⟨⟨rfl, h1⟩, h2⟩, h3⟩, h4⟩, h5⟩ := h
            have z := eCnt (p := p) (q := q) h3 h1 h2 (pkE ok hC iha h4) (ihb.e b X sc hC ok e h5)
            exact ⟨z, ptOf z fun _ => rfl⟩
        · exact absurd hc Bool.false_ne_true
      | _ => exact absurd hc Bool.false_ne_true
    | _ => exact absurd hc Bool.false_ne_true
  | idx a c iha ihb =>
    refine Sn.mk0 rfl rfl rfl (fun _ _ _ _ => rfl) fun b X sc hC ok e hc => ?_
    cases e with
    | Call fn es ks p =>
      cases fn with
      | Attribute o m q =>
        rcases es with _ | ⟨e, _ | ⟨_, _⟩⟩
        · exact absurd hc Bool.false_ne_true
        · cases ks with
          | cons _ _ => exact absurd hc Bool.false_ne_true
          | nil =>
            have h : (decide (m = "index") && (q.endLine == p.line) && plainE e && noAttr o && chk fns N a sc [o] && chk fns N c sc [e]) = true := hc
            simp only [Bool.and_eq_true, decide_eq_true_eq] at h
            obtain ⟨⟨⟨⟨⟨rfl, h1⟩, h2⟩, h3⟩, h4⟩, h5⟩ := h
            have z := eIdx ok (p := p) (q := q) h3 h1 h2 (pkE ok hC iha h4) (ihb.e b X sc hC ok e h5)
            exact ⟨z, ptOf z fun _ => rfl⟩
        · exact absurd hc Bool.false_ne_true
      | _ => exact absurd hc Bool.false_ne_true
    | _ => exact absurd hc Bool.false_ne_true
  | dsp kvs a iha =>
    refine Sn.mk0 rfl rfl rfl (fun _ _ _ _ => rfl) fun b X sc hC ok e hc => ?_
    cases e with
    | Subscript o e p =>
      cases o with
      | Dict ks vs p2 =>
        have h : (dspB kvs ks vs && ndB (kvs.map (·.1)) && decide (kvs.length ≤ 15) && !kvs.isEmpty && plainE e && chk fns N a sc [e]) = true := hc
        simp only [Bool.and_eq_true, decide_eq_true_eq, Bool.not_eq_true'] at h
        obtain ⟨⟨⟨⟨⟨h1, h2⟩, h3⟩, h4⟩, h5⟩, h6⟩ := h
        have z := eDsp ok (p := p) (p2 := p2) h1 h2 h3 (fun z => by rw [z] at h4; cases h4) h5 (iha.e b X sc hC ok e h6)
        exact ⟨z, ptOf z fun _ => rfl⟩
      | _ => exact absurd hc Bool.false_ne_true
    | _ => exact absurd hc Bool.false_ne_true
  | rvr a ih =>
    refine Sn.mkI rfl rfl (fun _ _ => rfl) fun b X sc hC ok e tg hc => ?_
    cases e with
    | Call fn es ks p =>
      cases fn with
      | Name x p2 =>
        rcases es with _ | ⟨e, _ | ⟨_, _⟩⟩
        · exact absurd hc Bool.false_ne_true
        · cases e with
          | Call fn2 es2 ks2 p3 =>
            cases fn2 with
            | Name y p4 =>
              rcases es2 with _ | ⟨e2, _ | ⟨_, _⟩⟩
              · exact absurd hc (by cases ks2 <;> cases ks <;> exact Bool.false_ne_true)
              · cases ks2 with
                | cons _ _ => exact absurd hc (by cases ks <;> exact Bool.false_ne_true)
                | nil =>
                  cases ks with
                  | cons _ _ => exact absurd hc Bool.false_ne_true
                  | nil =>
                    have h : (decide (x = "reversed") && glB sc x && decide (y = "range") && glB sc y && plainE e2 && chk fns N a sc [e2]) = true := hc
                    simp only [Bool.and_eq_true, decide_eq_true_eq] at h
                    obtain ⟨⟨⟨⟨⟨h1, h2⟩, h3⟩, h4⟩, h5⟩, h6⟩ := h
                    exact iRvrGo ok (ih.e b X sc hC ok e2 h6) h1 h2 h3 h4 h5
              · exact absurd hc (by cases ks2 <;> cases ks <;> exact Bool.false_ne_true)
            | _ => exact absurd hc (by cases ks <;> exact Bool.false_ne_true)
          | _ => exact absurd hc (by cases ks <;> exact Bool.false_ne_true)
        · exact absurd hc (by
            cases e with
            | Call f2 e2 k2 p3 => cases f2 <;> rcases e2 with _ | ⟨_, _ | ⟨_, _⟩⟩ <;> cases k2 <;> cases ks <;> exact Bool.false_ne_true
            | _ => cases ks <;> exact Bool.false_ne_true)
      | _ => exact absurd hc Bool.false_ne_true
    | _ => exact absurd hc Bool.false_ne_true
  | callL f j a iha =>
    refine Sn.mk0 rfl rfl rfl (fun _ _ _ _ => rfl) fun b X sc hC ok e hc => ?_
    cases e with
    | Call fn es ks p =>
      cases fn with
      | Name x p2 =>
        cases es with
        | nil => exact absurd hc Bool.false_ne_true
        | cons e es =>
          cases e with
          | Name y p3 =>
            cases ks with
            | cons _ _ => exact absurd hc Bool.false_ne_true
            | nil =>
              have z := eCallL (p := p2) (p2 := p3) (pos := p) ok hC iha hc
              exact ⟨z, ptOf z fun _ => rfl⟩
          | _ => exact absurd hc Bool.false_ne_true
      | _ => exact absurd hc Bool.false_ne_true
    | _ => exact absurd hc Bool.false_ne_true
  | lemp j =>
    refine Sn.mk0 rfl rfl rfl (fun _ _ _ _ => rfl) fun b X sc hC ok e hc => ?_
    cases e with
    | Compare l os rs p =>
      cases l with
      | Name x p2 =>
        rcases os with _ | ⟨o, _ | ⟨_, _⟩⟩
        · exact absurd hc Bool.false_ne_true
        · rcases rs with _ | ⟨r, _ | ⟨_, _⟩⟩
          · exact absurd hc (by cases o <;> exact Bool.false_ne_true)
          · cases r with
            | List es p3 =>
              cases es with
              | cons _ _ => exact absurd hc (by cases o <;> exact Bool.false_ne_true)
              | nil =>
                cases o with
                | Eq =>
                  have h : (nmB N j x && visB sc x) = true := hc
                  exact eLemp ok h
                | _ => exact absurd hc Bool.false_ne_true
            | _ => exact absurd hc (by cases o <;> exact Bool.false_ne_true)
          · exact absurd hc (by
              cases r with
              | List es p3 => cases o <;> cases es <;> exact Bool.false_ne_true
              | _ => cases o <;> exact Bool.false_ne_true)
        · exact absurd hc (by
            rcases rs with _ | ⟨r, _ | ⟨_, _⟩⟩
            · cases o <;> exact Bool.false_ne_true
            · cases r with
              | List es p3 => cases o <;> cases es <;> exact Bool.false_ne_true
              | _ => cases o <;> exact Bool.false_ne_true
            · cases r with
              | List es p3 => cases o <;> cases es <;> exact Bool.false_ne_true
              | _ => cases o <;> exact Bool.false_ne_true)
      | _ => exact absurd hc Bool.false_ne_true
    | _ => exact absurd hc Bool.false_ne_true
  | lix j n =>
    refine Sn.mk0 rfl rfl rfl (fun _ _ _ _ => rfl) fun b X sc hC ok e hc => ?_
    cases e with
    | Subscript o ke p =>
      cases o with
      | Name x p2 =>
        cases ke with
        | Constant c m p3 =>
          cases c with
          | int i =>
            have h : (nmB N j x && visB sc x && decide (i = (n : Int))) = true := hc
            rw [Bool.and_eq_true, decide_eq_true_eq] at h
            obtain ⟨h1, rfl⟩ := h
            have z := eLix (X := X) (b := b) (Φ := Φ) (p := p2) (p2 := p3) (p3 := p) (n := m) (m := n) ok h1
            exact ⟨z, ptOf z fun _ => rfl⟩
          | _ => exact absurd hc Bool.false_ne_true
        | _ => exact absurd hc Bool.false_ne_true
      | _ => exact absurd hc Bool.false_ne_true
    | _ => exact absurd hc Bool.false_ne_true
  | callLP f j a iha =>
    refine Sn.mk0 rfl rfl rfl (fun _ _ _ _ => rfl) fun b X sc hC ok e hc => ?_
    cases e with
    | Call fn es ks p =>
      cases fn with
      | Name x p2 =>
        cases es with
        | nil => exact absurd hc Bool.false_ne_true
        | cons e es =>
          cases e with
          | Name y p3 =>
            cases ks with
            | cons _ _ => exact absurd hc Bool.false_ne_true
            | nil =>
              have z := eCallLP (p := p2) (p2 := p3) (pos := p) ok hC iha hc
              exact ⟨z, ptOf z fun _ => rfl⟩
          | _ => exact absurd hc Bool.false_ne_true
      | _ => exact absurd hc Bool.false_ne_true
    | _ => exact absurd hc Bool.false_ne_true
  | lcL t it elt j ih1 ih2 =>
    refine Sn.mk0 rfl rfl rfl (fun _ _ _ _ => rfl) fun b X sc hC ok e hc => ?_
    cases e with
    | ListComp e gs scope p =>
      rcases gs with _ | ⟨⟨tg, iter, ifs, as⟩, _ | ⟨_, _⟩⟩
      · exact absurd hc Bool.false_ne_true
      · cases ifs with
        | cons _ _ => exact absurd hc Bool.false_ne_true
        | nil =>
          have h : (decide (as = 0) && plainE iter && isIt it && chk fns N it sc [iter, tg] && tgB (blB scope sc) N t tg && blkC N sc scope (tgOwn t tg) && !(tgs t).contains j && chk fns N elt (relS scope sc) [e]) = true := hc
          simp only [Bool.and_eq_true, decide_eq_true_eq, Bool.not_eq_true'] at h
          obtain ⟨⟨⟨⟨⟨⟨⟨rfl, g1⟩, g2⟩, g3⟩, g4⟩, g5⟩, g6⟩, g7⟩ := h
          have z := eLcL (p := p) ok hC ih1 ih2 g2 g3 g4 g5 g6 g7 g1
          exact ⟨z, ptOf z fun _ => rfl⟩
      · exact absurd hc (by cases ifs <;> exact Bool.false_ne_true)
    | _ => exact absurd hc Bool.false_ne_true
  | lcK t it elt j ih1 ih2 =>
    refine Sn.mk0 rfl rfl rfl (fun _ _ _ _ => rfl) fun b X sc hC ok e hc => ?_
    cases e with
    | ListComp e gs scope p =>
      rcases gs with _ | ⟨⟨tg, iter, ifs, as⟩, _ | ⟨_, _⟩⟩
      · exact absurd hc Bool.false_ne_true
      · cases ifs with
        | cons _ _ => exact absurd hc Bool.false_ne_true
        | nil =>
          have h : (decide (as = 0) && plainE iter && isIt it && chk fns N it sc [iter, tg] && tgB (blB scope sc) N t tg && blkC N sc scope (tgOwn t tg) && !(tgs t).contains j && chk fns N elt (relS scope sc) [e]) = true := hc
          simp only [Bool.and_eq_true, decide_eq_true_eq, Bool.not_eq_true'] at h
          obtain ⟨⟨⟨⟨⟨⟨⟨rfl, g1⟩, g2⟩, g3⟩, g4⟩, g5⟩, g6⟩, g7⟩ := h
          have z := eLcK (p := p) ok hC ih1 ih2 g2 g3 g4 g5 g6 g7 g1
          exact ⟨z, ptOf z fun _ => rfl⟩
      · exact absurd hc (by cases ifs <;> exact Bool.false_ne_true)
    | _ => exact absurd hc Bool.false_ne_true
  | lpop0 j =>
    refine Sn.mk0 rfl rfl rfl (fun _ _ _ _ => rfl) fun b X sc hC ok e hc => ?_
    cases e with
    | Call fn es ks p =>
      cases fn with
      | Attribute o m q =>
        cases o with
        | Name x p2 =>
          rcases es with _ | ⟨e, _ | ⟨_, _⟩⟩
          · exact absurd hc Bool.false_ne_true
          · cases e with
            | Constant c n p3 =>
              cases c with
              | int i =>
                cases ks with
                | cons _ _ => exact absurd hc Bool.false_ne_true
                | nil =>
                  have h : (decide (m = "pop") && nmB N j x && visB sc x && decide (i = 0) && (q.endLine == p.line)) = true := hc
                  simp only [Bool.and_eq_true, decide_eq_true_eq] at h
                  obtain ⟨⟨⟨⟨rfl, h1⟩, h2⟩, rfl⟩, h3⟩ := h
                  have z := eLpop0 (X := X) (b := b) (Φ := Φ) (p := p2) (p2 := q) (p3 := p) (p4 := p3) (n := n) ok (by rw [h1, h2]; rfl) h3
                  exact ⟨z, ptOf z fun _ => rfl⟩
              | _ => exact absurd hc (by cases ks <;> exact Bool.false_ne_true)
            | _ => exact absurd hc (by cases ks <;> exact Bool.false_ne_true)
          · exact absurd hc (by
              cases e with
              | Constant c n p3 => cases c <;> cases ks <;> exact Bool.false_ne_true
              | _ => cases ks <;> exact Bool.false_ne_true)
        | _ => exact absurd hc Bool.false_ne_true
      | _ => exact absurd hc Bool.false_ne_true
    | _ => exact absurd hc Bool.false_ne_true
  | dget j ki xi ih1 ih2 =>
    refine Sn.mk0 rfl rfl rfl (fun _ _ _ _ => rfl) fun b X sc hC ok e hc => ?_
    cases e with
    | Call fn es ks p =>
      cases fn with
      | Attribute o m q =>
        cases o with
        | Name x p2 =>
          rcases es with _ | ⟨e, _ | ⟨f, _ | ⟨_, _⟩⟩⟩
          · exact absurd hc Bool.false_ne_true
          · exact absurd hc (by cases ks <;> exact Bool.false_ne_true)
          · cases ks with
            | cons _ _ => exact absurd hc Bool.false_ne_true
            | nil =>
              have h : (decide (m = "get") && nmB N j x && visB sc x && (q.endLine == p.line) && plainE e && plainE f && chk fns N ki sc [e] && chk fns N xi sc [f]) = true := hc
              simp only [Bool.and_eq_true, decide_eq_true_eq] at h
              obtain ⟨⟨⟨⟨⟨⟨⟨rfl, h1⟩, h2⟩, h3⟩, h4⟩, h5⟩, h6⟩, h7⟩ := h
              have z := eDget (X := X) (b := b) (Φ := Φ) (p := p) (q := q) (p2 := p2) ok (by rw [h1, h2]; rfl) h3 h4 h5 (ih1.e b X sc hC ok e h6) (ih2.e b X sc hC ok f h7)
              exact ⟨z, ptOf z fun _ => rfl⟩
          · exact absurd hc (by cases ks <;> exact Bool.false_ne_true)
        | _ => exact absurd hc Bool.false_ne_true
      | _ => exact absurd hc Bool.false_ne_true
    | _ => exact absurd hc Bool.false_ne_true
  | dix j ki ih =>
    refine Sn.mk0 rfl rfl rfl (fun _ _ _ _ => rfl) fun b X sc hC ok e hc => ?_
    cases e with
    | Subscript o e p =>
      cases o with
      | Name x p2 =>
        have h : (nmB N j x && visB sc x && plainE e && chk fns N ki sc [e]) = true := hc
        rw [Bool.and_eq_true, Bool.and_eq_true] at h
        obtain ⟨⟨h1, h2⟩, h3⟩ := h
        have z := eDix (X := X) (b := b) (Φ := Φ) (p := p) (p2 := p2) ok h1 h2 (ih.e b X sc hC ok e h3)
        exact ⟨z, ptOf z fun _ => rfl⟩
      | _ => exact absurd hc Bool.false_ne_true
    | _ => exact absurd hc Bool.false_ne_true
  | dsrt j =>
    refine Sn.mk0 rfl rfl rfl (fun _ _ _ _ => rfl) fun b X sc hC ok e hc => ?_
    cases e with
    | Call fn es ks p =>
      cases fn with
      | Name x p2 =>
        rcases es with _ | ⟨e, _ | ⟨_, _⟩⟩
        · exact absurd hc Bool.false_ne_true
        · cases e with
          | Name y p3 =>
            cases ks with
            | cons _ _ => exact absurd hc Bool.false_ne_true
            | nil =>
              have h : (decide (x = "sorted") && glB sc x && nmB N j y && visB sc y) = true := hc
              simp only [Bool.and_eq_true, decide_eq_true_eq] at h
              obtain ⟨⟨⟨rfl, h1⟩, h2⟩, h3⟩ := h
              have z := eDsrt (X := X) (b := b) (Φ := Φ) (p := p2) (p2 := p3) (pos := p) ok rfl h1 (j := j) (y := y) (by rw [h2, h3]; rfl)
              exact ⟨z, ptOf z fun _ => rfl⟩
          | _ => exact absurd hc Bool.false_ne_true
        · exact absurd hc (by cases e <;> exact Bool.false_ne_true)
      | _ => exact absurd hc Bool.false_ne_true
    | _ => exact absurd hc Bool.false_ne_true
  | lit d =>
    refine Sn.mk0 rfl rfl rfl (fun _ _ _ _ => rfl) fun b X sc hC ok e hc => ?_
    have h : (isTup e && litX d e) = true := hc
    rw [Bool.and_eq_true] at h
    have z : PE X e (rdE X.K b (wE Φ (.lit d))) := eLitX d e h.2
    cases e with
    | Tuple es n p => exact ⟨z, ptOf z fun _ => rfl⟩
    | _ => exact absurd h.1 Bool.false_ne_true
  | srt a ih =>
    refine Sn.mk0 rfl rfl rfl (fun _ _ _ _ => rfl) fun b X sc hC ok e hc => ?_
    cases e with
    | Call fn es ks p =>
      cases fn with
      | Name x p2 =>
        rcases es with _ | ⟨e, _ | ⟨_, _⟩⟩
        · exact absurd hc Bool.false_ne_true
        · cases ks with
          | cons _ _ => exact absurd hc Bool.false_ne_true
          | nil =>
            have h : (decide (x = "sorted") && glB sc x && plainE e && chk fns N a sc [e]) = true := hc
            simp only [Bool.and_eq_true, decide_eq_true_eq] at h
            obtain ⟨⟨⟨rfl, h1⟩, h2⟩, h3⟩ := h
            have z := eSrt (X := X) (b := b) (Φ := Φ) (p := p2) (pos := p) ok rfl h1 h2 (ih.e b X sc hC ok e h3)
            exact ⟨z, ptOf z fun _ => rfl⟩
        · exact absurd hc (by cases ks <;> exact Bool.false_ne_true)
      | _ => exact absurd hc Bool.false_ne_true
    | _ => exact absurd hc Bool.false_ne_true
  | lcD t it c elt j ih1 ih2 ih3 =>
    refine Sn.mk0 rfl rfl rfl (fun _ _ _ _ => rfl) fun b X sc hC ok e hc => ?_
    cases e with
    | ListComp e gs scope p =>
      rcases gs with _ | ⟨⟨tg, iter, ifs, as⟩, _ | ⟨_, _⟩⟩
      · exact absurd hc Bool.false_ne_true
      · have h : (decide (as = 0) && plainE iter && isIt it && chk fns N it sc [iter, tg] && tgB (blB scope sc) N t tg && blkC N sc scope (tgOwn t tg) && !(tgs t).contains j && ifsB (isNil c) ifs (fun f => chk fns N c (relS scope sc) [f]) && chk fns N elt (relS scope sc) [e]) = true := hc
        simp only [Bool.and_eq_true, decide_eq_true_eq, Bool.not_eq_true'] at h
        obtain ⟨⟨⟨⟨⟨⟨⟨⟨rfl, g1⟩, g2⟩, g3⟩, g4⟩, g5⟩, g6⟩, g7⟩, g8⟩ := h
        have z := eLcD (p := p) ok hC ih1 ih2 ih3 g2 g3 g4 g5 g6 g7 g8 g1
        exact ⟨z, ptOf z fun _ => rfl⟩
      · exact absurd hc Bool.false_ne_true
    | _ => exact absurd hc Bool.false_ne_true
  | dlc t c elt j ih2 ih3 =>
    refine Sn.mk0 rfl rfl rfl (fun _ _ _ _ => rfl) fun b X sc hC ok e hc => ?_
    cases e with
    | ListComp e gs scope p =>
      rcases gs with _ | ⟨⟨tg, iter, ifs, as⟩, _ | ⟨_, _⟩⟩
      · exact absurd hc Bool.false_ne_true
      · cases iter with
        | Call fn es ks p3 =>
          cases fn with
          | Attribute o m q =>
            cases o with
            | Name y p2 =>
              cases es with
              | cons _ _ => exact absurd hc (by cases ks <;> exact Bool.false_ne_true)
              | nil =>
                cases ks with
                | cons _ _ => exact absurd hc Bool.false_ne_true
                | nil =>
                  have h : (decide (as = 0) && decide (m = "items") && (q.endLine == p3.line) && nmB N j y && visB sc y && isTup tg && tgB (blB scope sc) N t tg && blkC N sc scope (tgOwn t tg) && ifsB (isNil c) ifs (fun f => chk fns N c (relS scope sc) [f]) && chk fns N elt (relS scope sc) [e]) = true := hc
                  simp only [Bool.and_eq_true, decide_eq_true_eq] at h
                  obtain ⟨⟨⟨⟨⟨⟨⟨⟨⟨rfl, rfl⟩, g1⟩, g2⟩, g3⟩, g4⟩, g5⟩, g6⟩, g7⟩, g8⟩ := h
                  have z := eDlc (p := p) (p2 := p2) (p3 := p3) (q := q) ok hC ih2 ih3 (j := j) (y := y) (by rw [g2, g3]; rfl) g1 g4 g5 g6 g7 g8
                  exact ⟨z, ptOf z fun _ => rfl⟩
            | _ => exact absurd hc Bool.false_ne_true
          | _ => exact absurd hc Bool.false_ne_true
        | _ => exact absurd hc Bool.false_ne_true
      · exact absurd hc (by
          cases iter with
          | Call fn es ks p3 =>
            cases fn with
            | Attribute o m q => cases o <;> cases es <;> cases ks <;> exact Bool.false_ne_true
            | _ => exact Bool.false_ne_true
          | _ => exact Bool.false_ne_true)
    | _ => exact absurd hc Bool.false_ne_true
  | gc f d =>
    refine Sn.mk0 rfl rfl rfl (fun _ _ _ _ => rfl) fun b X sc hC ok e hc => ?_
    cases e with
    | Name x p => exact ⟨eGc ok hc, ptOf (eGc ok hc) fun _ => rfl⟩
    | _ => exact absurd hc Bool.false_ne_true
end
end Rc

/-! Statements. -/
namespace Rc
open PySem PySem.Spec PyProof.Rows L2
/-! ### the look at the text -/
def isSq : IS → Bool
  | .nil => true
  | .seq _ _ => true
  | .still _ _ => true
  | .lend _ _ => true
  | _ => false
/-- the store of a comprehension is done within its frame -/
def swB (sc : Scope) (x : Str) (l : Nat) : Expr → Bool
  | .ListComp _ _ scope p => lclB sc x && (l == p.line) && !(scope.names.any fun (n, k) => n == x && (k == .local || k == .cell))
  | _ => false
def cellB (sc : Scope) (x : Str) : Bool := match sc.names.lookup x with
  | some .cell => true
  | _ => false
def isLC : Expr → Bool
  | .ListComp .. => true
  | _ => false
def notTup : Expr → Bool
  | .Tuple vs _ _ => !(vs.length == 2 || vs.length == 3) || vs.all (foldedForSure 8)
  | _ => true
theorem swN {es : List Expr} {v : Expr} {n : Nat} {p : Pos} {env : Env} (h : notTup v = true) : swappedStores [.Tuple es n p] v env = pure none := by
  cases v with
  | Tuple vs m q =>
    have h : (!(vs.length == 2 || vs.length == 3) || vs.all (foldedForSure 8)) = true := h
    unfold swappedStores
    dsimp only
    split
    · rfl
    · rename_i g
      split
      · rfl
      · split
        · rfl
        · split
          · rfl
          · rename_i g2
            exfalso
            rw [Bool.or_eq_true] at h
            rcases h with h | h
            · refine g ?_
              rw [Bool.or_eq_true, Bool.or_eq_true]
              by_cases e : vs.length = es.length
              · rw [e] at h
                exact .inl (.inl h)
              · exact .inl (.inr (by simpa using e))
            · exact g2 h
  | _ => rfl
def noStarB : Expr → Bool
  | .Starred .. => false
  | _ => true
/-- two or three names by as many values, stored from the right -/
def parB (sc : Scope) (xs : List (Str × Pos)) (vs : List Expr) : Bool :=
  (xs.all fun q => lclB sc q.1 && (q.2.line == ((xs.head?.map (·.2.line)).getD 0))) && vs.all noStarB && !(vs.all (foldedForSure 8)) && !(vs.all (constantsAlone 8))
def isDl : IE → Bool
  | .dlc .. => true
  | .lcD .. => true
  | _ => false
def isStr : Expr → Bool
  | .Constant (.str _) _ _ => true
  | _ => false
def isBH : HE → Bool
  | .cst (.bool _) => true
  | .cst _ => false
  | _ => true
section
variable (cls : List Str) (N : List Str) (jo : Option Nat)
def isxB (sc : Scope) (x n : Str) : Bool := decide (x = "isinstance") && glB sc x && (match jo with
  | some j => nmB N j n && visB sc n
  | none => false)
def chkH : HE → Scope → List Expr → Bool
  | .cst c, _, [.Constant k _ _] => litB c k
  | .isx c, sc, [.Call (.Name x _) [.Name n _, .Name y _] [] _] => isxB N jo sc x n && decide (cls[c]? = some y) && glB sc y && !(y == ("__debug__" : Str))
  | .isv, sc, [.Call (.Name x _) [.Name n _, .Name y _] [] _] => isxB N jo sc x n && decide (y = "ValueError") && glB sc y && !cls.isEmpty
  | .bnot a, sc, [.UnaryOp .Not e _] => isBH a && chkH a sc [e]
  | .band a r, sc, [.BoolOp .And (x :: y :: rest) p] => isBH a && isBH r && chkH a sc [x] && chkH r sc [.BoolOp .And (y :: rest) p]
  | .bor a r, sc, [.BoolOp .Or (x :: y :: rest) p] => isBH a && isBH r && chkH a sc [x] && chkH r sc [.BoolOp .Or (y :: rest) p]
  | .bone a, sc, [.BoolOp _ [x] _] => isBH a && chkH a sc [x]
  | _, _, _ => false
/-- the suite: the name of the clause is stored in no place of its own -/
def chkHS : HS → Scope → List Stmt → Bool
  | .nil, _, [] => true
  | .asg j e r, sc, .Assign [.Name x p] v _ :: sts => nmB N j x && locB sc x && noComp v && !(decide (jo = some j)) && chkH cls N jo e sc [v] && chkHS r sc sts
  | .ite c a b r, sc, .If t x y _ :: sts => isBH c && chkH cls N jo c sc [t] && chkHS a sc x && chkHS b sc y && chkHS r sc sts
  | .ret e, sc, [.Return (some v) _] => chkH cls N jo e sc [v]
  | _, _, _ => false
def excB (sc : Scope) (n : Option Str) : Bool := match jo, n with
  | some j, some n => nmB N j n && lclB sc n
  | none, none => true
  | _, _ => false
end
section
variable (fns : List FnI) (cls : List Str) (N : List Str)
def chkS : IS → Scope → List Stmt → Bool
  | .nil, _, [] => true
  | .seq s r, sc, st :: sts => !isSq s && chkS s sc [st] && isSq r && chkS r sc sts
  | .still j r, sc, sts => isSq r && chkS r sc sts
  | .asg j e, sc, [.Assign [.Name x p] v _] => nmB N j x && locB sc x && (if isLC v then (swB sc x p.line v || cellB sc x) && !isDl e else noComp v) && chk fns N e sc [v]
  | .asgT js e, sc, [.Assign [.Tuple es _ _] v _] => tgsB (locB sc) N js es && notTup v && noComp v && chk fns N e sc [v]
  | .par i j a b, sc, [.Assign [.Tuple [.Name x px, .Name y py] _ _] (.Tuple [ea, eb] _ _) _] => nmB N i x && nmB N j y && decide (i ≠ j) && parB sc [(x, px), (y, py)] [ea, eb] &&
      plainE ea && plainE eb && chk fns N a sc [ea] && chk fns N b sc [eb]
  | .setIx j k e, sc, [.Assign [.Subscript (.Name x _) ke _] v _] => nmB N j x && visB sc x && plainE ke && noComp v && chk fns N e sc [v] && chk fns N k sc [ke]
  | .app j e, sc, [.Expr (.Call (.Attribute (.Name x _) m q) [v] [] r) _] => decide (m = "append") && nmB N j x && visB sc x && plainE v && (q.endLine == r.line) && chk fns N e sc [v]
  | .pop j, sc, [.Expr (.Call (.Attribute (.Name x _) m q) [] [] r) _] => decide (m = "pop") && nmB N j x && visB sc x && (q.endLine == r.line)
  | .drop e, sc, [.Expr v _] => noComp v && chk fns N e sc [v]
  | .ret e, sc, [.Return (some v) _] => chk fns N e sc [v]
  | .retN, _, [.Return none _] => true
  | .ite c a b, sc, [.If t x y _] => chk fns N c sc [t] && isSq a && isSq b && chkS a sc x && chkS b sc y
  | .whl c b, sc, [.While t x [] _] => chk fns N c sc [t] && isSq b && chkS b sc x
  | .forr t it b, sc, [.For tg iter x [] _] => isIt it && plainE iter && chk fns N it sc [iter, tg] && tgB (locB sc) N t tg && isSq b && chkS b sc x
  | .raise c, sc, [.Raise (some (.Call (.Name x _) [e] [] _)) none _] => decide (cls[c]? = some x) && glB sc x && !(x == ("__debug__" : Str)) && isStr e
  | .try1 s c j h, sc, [.Try x [.ExceptHandler (some (.Name y _)) n (h0 :: hs) _] [] [] _] => isSq s && chkS s sc x && decide (cls[c]? = some y) && glB sc y && !(y == ("__debug__" : Str)) && excB N j sc n && chkHS cls N j h sc (h0 :: hs)
  | .brk, _, [.Break _] => true
  | .cont, _, [.Continue _] => true
  | .pass, _, [.Pass _] => true
  | .never, _, [_] => true
  | .ins j k e, sc, [.Expr (.Call (.Attribute (.Name x _) m q) [ke, v] [] r) _] => decide (m = "insert") && nmB N j x && visB sc x && plainE ke && plainE v && (q.endLine == r.line) && chk fns N k sc [ke] && chk fns N e sc [v]
  | .popT t j, sc, [.Assign [tg] (.Call (.Attribute (.Name x _) m q) [] [] r) _] => decide (m = "pop") && tgB (locB sc) N t tg && nmB N j x && visB sc x && (q.endLine == r.line)
  | .popI t j k, sc, [.Assign [tg] (.Call (.Attribute (.Name x _) m q) [ke] [] r) _] => decide (m = "pop") && tgB (locB sc) N t tg && nmB N j x && visB sc x && (q.endLine == r.line) && plainE ke && chk fns N k sc [ke]
  | .ext j e, sc, [.Expr (.Call (.Attribute (.Name x _) m q) [v] [] r) _] => decide (m = "extend") && nmB N j x && visB sc x && plainE v && (q.endLine == r.line) && chk fns N e sc [v]
  | .set2 j k l e, sc, [.Assign [.Tuple [.Subscript (.Name x _) ke _, .Subscript (.Name y _) le _] _ _] v _] => nmB N j x && visB sc x && (nmB N j y && visB sc y) && plainE ke && plainE le && noComp v && chk fns N e sc [v] && chk fns N k sc [ke] && chk fns N l sc [le]
  | .aug j o e, sc, [.AugAssign (.Name x _) o' v _] => decide (o = o') && nmB N j x && locB sc x && chk fns N e sc [v]
  | .clr j, sc, [.Expr (.Call (.Attribute (.Name x _) m q) [] [] r) _] => decide (m = "clear") && nmB N j x && visB sc x && (q.endLine == r.line)
  | .clrE e, sc, [.Expr (.Call (.Attribute (.Call f (e1 :: es) ks fp) m q) [] [] r) _] => decide (m = "clear") && (q.endLine == r.line) && chk fns N e sc [.Call f (e1 :: es) ks fp]
  | .lend j r, sc, sts => isSq r && chkS r sc sts
  | .retL e, sc, [.Return (some v) _] => chk fns N e sc [v]
  | .lset j n e, sc, [.Assign [.Subscript (.Name x _) (.Constant (.int i) _ _) _] v _] => nmB N j x && visB sc x && decide (i = (n : Int)) && noComp v && chk fns N e sc [v]
  | .asgN t e, sc, [.Assign [.Tuple es n p] v _] => tgB (locB sc) N t (.Tuple es n p) && notTup v && noComp v && chk fns N e sc [v]
  | .dnew j _, sc, [.Assign [.Name x _] (.Dict [] [] _) _] => nmB N j x && locB sc x
  | .dset j k e, sc, [.Assign [.Subscript (.Name x _) ke _] v _] => nmB N j x && visB sc x && plainE ke && noComp v && chk fns N e sc [v] && chk fns N k sc [ke]
  | .forP t j c e, sc, [.For tg (.Name x _) [.If ce [.Return (some v) _] [] _] [] _] => nmB N j x && visB sc x && !((tgs t).contains j) && tgB (locB sc) N t tg && chk fns N c sc [ce] && chk fns N e sc [v]
  | _, _, _ => false
end
theorem noSw2 {e t : Expr} {l : Nat} {env : Env} (h : noComp e = true) : swapsWithSole [t] e l env = pure false := by
  cases e <;> first | rfl | exact absurd h Bool.false_ne_true
/-! ### readings -/
structure EnOk (K : PySem.W.Frag) (b : Bd) (E : En) (D : Ends) : Prop where
  nx : ∀ σ ε H F, Rep K b.H0 b.F0 F H σ ε → E.nx ε → D.nx σ H
  rt : ∀ v σ ε H F x, Rep K b.H0 b.F0 F H σ ε → VAt K b.H0 F H σ ε x v → E.rt v → D.rt x H
  bk : ∀ σ ε H F, Rep K b.H0 b.F0 F H σ ε → E.bk ε → D.bk σ H
  ct : ∀ σ ε H F, Rep K b.H0 b.F0 F H σ ε → E.ct ε → D.ct σ H
  ex : ∀ c σ ε H F, Rep K b.H0 b.F0 F H σ ε → E.ex c ε → b.W (.ref (b.C c)) none σ H
def rdS (K : PySem.W.Frag) (b : Bd) (T : Ev → En → Prop) : TS := fun D σ H => ∃ ε F E, Rep K b.H0 b.F0 F H σ ε ∧ T ε E ∧ EnOk K b E D
theorem EnOk.toEx {K : PySem.W.Frag} {b : Bd} {E : En} {D : Ends} (h : EnOk K b E D) {σ : St} {H : Hp} : Ex K b E.ex σ H := fun c ε' H' F' _ R q => h.ex c σ ε' H' F' R q
section
variable {X : Cx} {K : PySem.W.Frag} {b : Bd} {E : En} {D : Ends}
theorem EnOk.nx' (h : EnOk K b E D) {nx : Ev → Prop} {nx' : St → Hp → Prop} (q : ∀ σ ε H F, Rep K b.H0 b.F0 F H σ ε → nx ε → nx' σ H) : EnOk K b { E with nx := nx } { D with nx := nx' } := ⟨q, h.rt, h.bk, h.ct, h.ex⟩
theorem psEx {α : Type} {st : Stmt} {t : α → TS} (h : ∀ a, PS X st (t a)) : PS X st (fun D σ H => ∃ a, t a D σ H) := ⟨fun pins s σ H D I ⟨a, w⟩ => (h a).run pins s σ H D I w⟩
theorem pssEx {α : Type} {sts : List Stmt} {t : α → TS} (h : ∀ a, PSs X sts (t a)) : PSs X sts (fun D σ H => ∃ a, t a D σ H) := ⟨fun pins s σ H D I ⟨a, w⟩ => (h a).run pins s σ H D I w⟩
/-- the ground moved up to what stands still now -/
theorem Rep.up {H0 : Zn} {F0 F H : Hp} {σ : St} {ε : Ev} (R : Rep K H0 F0 F H σ ε) : Rep K H0 F F H σ ε := ⟨R.fh, .refl _, R.h0, fun _ _ h => .inl h, R.len, R.dat, R.own, R.uni, R.lnt, R.one, R.ll, R.dcs⟩
theorem Rep.down {H0 : Zn} {F0 F1 F H H1 : Hp} {σ σ1 : St} {ε ε1 : Ev} (R1 : Rep K H0 F0 F1 H1 σ1 ε1) (R : Rep K H0 F1 F H σ ε) : Rep K H0 F0 F H σ ε :=
  ⟨R.fh, R1.ff.trans R.ff, R.h0, fun a o h => (R.fr a o h).elim (R1.fr a o) .inr, R.len, R.dat, R.own, R.uni, R.lnt, R.one, R.ll, R.dcs⟩
theorem EnOk.up {F1 H1 : Hp} {σ1 : St} {ε1 : Ev} (R1 : Rep K b.H0 b.F0 F1 H1 σ1 ε1) (h : EnOk K b E D) : EnOk K { b with F0 := F1 } E D where
  nx := fun σ ε H F R => h.nx σ ε H F (R1.down R)
  rt := fun v σ ε H F x R a => h.rt v σ ε H F x (R1.down R) a
  bk := fun σ ε H F R => h.bk σ ε H F (R1.down R)
  ct := fun σ ε H F R => h.ct σ ε H F (R1.down R)
  ex := fun c σ ε H F R => h.ex c σ ε H F (R1.down R)
end
section
variable {fns : List FnI} {cls : List Str} {N : List Str} {C : Nat → Addr} {Φ : Fs} {k : Nat} {X : Cx} {b : Bd} {sc : Scope}
structure Cks (X : Cx) : Prop where
  pas : PassesOwn (model X.prog X.w) X.A X.env X.xe
  fn : ∀ x, X.fn x = true
  kind : X.env.scope.kind = .function
  stack : X.stack = X.env :: X.outer
  frame : X.env.frame = some X.env.locals
theorem rdGo {e : IE} {Kk : Ev → En → KE} {D : Ends} {σ : St} {H : Hp} {Q : VK} (h : rdS X.K b (fun ε E => wE Φ e ε E.ex (Kk ε E)) D σ H)
    (q : ∀ ε F E, Rep X.K b.H0 b.F0 F H σ ε → EnOk X.K b E D → ∀ v ε' H' F' x, SubZ b.H0 H H' → Sub F F' → Rep X.K b.H0 b.F0 F' H' σ ε' → VAt X.K b.H0 F' H' σ ε' x v → Kk ε E v ε' → Q x H') : rdE X.K b (wE Φ e) σ H Q := by
  obtain ⟨ε, F, E, R, w, en⟩ := h
  exact ⟨ε, F, E.ex, _, R, w, en.toEx, q ε F E R en⟩
theorem sAsg (ok : Cok fns cls N C Φ k X sc b.W) (ks : Cks X) {j : Nat} {x : Str} {e : IE} {v : Expr} {p pos : Pos} (h1 : nmB N j x = true) (h2 : locB sc x = true) (h3 : noComp v = true) (he : PE X v (rdE X.K b (wE Φ e))) :
    PS X (.Assign [.Name x p] v pos) (rdS X.K b (wS Φ (.asg j e))) := by
  obtain ⟨g1, _, _⟩ := nmB_of h1
  refine psImp (ps_set ok.nd (by rw [ok.eN]; exact g1) (by rw [ok.esc]; exact locB_of h2) he (noSw h3) (.inl (ks.fn x))) fun D σ H h => ?_
  refine rdGo h fun ε F E R en v ε' H' F' z s f R' a q => ?_
  cases v with
  | d y => exact en.nx _ _ H' F' (R'.store a j) q
  | own ys => exact en.nx _ _ H' F' (R'.store a j) q
  | _ => exact q.elim
theorem sw_cell {elt : Expr} {gs : List Comprehension} {scope : Scope} {pos py : Pos} {y : Str} {l : Nat} {env : Env} (hy : env.scope.names.lookup y = some .cell) : swapsWith (.ListComp elt gs scope pos) (some (.Name y py)) l env = pure false := by
  have ky : env.kindOf y = some .cell := hy
  unfold swapsWith
  simp only [ky]
  cases env.blockKind == .function <;> rfl
/-- a comprehension that is stored in a cell -/
theorem sAsgC (ok : Cok fns cls N C Φ k X sc b.W) (ks : Cks X) {j : Nat} {x : Str} {e : IE} {v : Expr} {p pos : Pos} (h1 : nmB N j x = true) (h2 : locB sc x = true) (h3 : cellB sc x = true) (hl : isLC v = true) (he : PE X v (rdE X.K b (wE Φ e))) :
    PS X (.Assign [.Name x p] v pos) (rdS X.K b (wS Φ (.asg j e))) := by
  obtain ⟨g1, _, _⟩ := nmB_of h1
  have hc : X.env.scope.names.lookup x = some .cell := by
    rw [ok.esc]
    unfold cellB at h3
    split at h3
    · assumption
    · cases h3
  refine psImp (ps_set ok.nd (by rw [ok.eN]; exact g1) (by rw [ok.esc]; exact locB_of h2) he (by
    cases v with
    | ListComp e' gs scope p' => exact sw_cell hc
    | _ => exact absurd hl Bool.false_ne_true) (.inl (ks.fn x))) fun D σ H h => ?_
  refine rdGo h fun ε F E R en v ε' H' F' z s f R' a q => ?_
  cases v with
  | d y => exact en.nx _ _ H' F' (R'.store a j) q
  | own ys => exact en.nx _ _ H' F' (R'.store a j) q
  | _ => exact q.elim
theorem sAsgT (ok : Cok fns cls N C Φ k X sc b.W) (ks : Cks X) {js : List Nat} {es : List Expr} {e : IE} {v : Expr} {n : Nat} {p pos : Pos} (h1 : tgsB (locB sc) N js es = true) (h2 : notTup v = true) (h3 : noComp v = true) (he : PE X v (rdE X.K b (wE Φ e))) :
    PS X (.Assign [.Tuple es n p] v pos) (rdS X.K b (wS Φ (.asgT js e))) := by
  have hg : PG X (.Tuple es n p) (gTg X.K (.tup js)) := pgTg ok.nd ok.calm (p := locB sc) (fun x hx => ⟨by rw [ok.esc]; exact locB_of hx, .inl (ks.fn x)⟩) (by rw [ok.eN]; exact h1)
  refine psImp (ps_asg (peD he) hg (noSw2 h3) ?_ rfl) fun D σ H h => ?_
  · exact swN h2
  · obtain ⟨ε, F, E, R, w, en⟩ := h
    exact ⟨ε, F, E.ex, _, R, w, en.toEx, fun d ε' H' F' z s f R' a q => tgGo R' a q fun σ' ε2 R2 _ q2 => en.nx σ' ε2 H' F' R2 q2⟩
theorem sRet {e : IE} {v : Expr} {pos : Pos} (he : PE X v (rdE X.K b (wE Φ e))) : PS X (.Return (some v) pos) (rdS X.K b (wS Φ (.ret e))) := by
  refine psImp (ps_ret he) fun D σ H h => rdGo h fun ε F E R en v ε' H' F' z s f R' a q => ?_
  cases v with
  | d y => exact en.rt _ σ ε' H' F' z R' a q
  | own ys => exact en.rt _ σ ε' H' F' z R' a q
  | _ => exact q.elim
theorem sDrop {e : IE} {v : Expr} {pos : Pos} (h3 : noComp v = true) (he : PE X v (rdE X.K b (wE Φ e))) : PS X (.Expr v pos) (rdS X.K b (wS Φ (.drop e))) := by
  refine psImp (ps_expr he (noSw h3)) fun D σ H h => rdGo h fun ε F E R en v ε' H' F' z s f R' a q => ?_
  cases v with
  | d y => exact en.nx σ ε' H' F' R' q
  | own ys => exact en.nx σ ε' H' F' R' q
  | _ => exact q.elim
theorem sIf {c : IE} {s t : IS} {e : Expr} {x y : List Stmt} {pos : Pos} (hc : PT X e (rdT X.K b (wE Φ c))) (h1 : PSs X x (rdS X.K b (wS Φ s))) (h2 : PSs X y (rdS X.K b (wS Φ t))) :
    PS X (.If e x y pos) (rdS X.K b (wS Φ (.ite c s t))) :=
  psImp (ps_if hc h1 h2) fun D σ H ⟨ε, F, E, R, w, en⟩ => by
    refine ⟨ε, F, E.ex, _, R, w, en.toEx, fun d ε' H' F' s f R' q => ?_⟩
    cases d with
    | true => exact ⟨ε', F', E, R', q, en⟩
    | false => exact ⟨ε', F', E, R', q, en⟩
theorem sWhl (ks : Cks X) {c : IE} {s : IS} {e : Expr} {x : List Stmt} {pos : Pos} (hc : PT X e (rdT X.K b (wE Φ c))) (h1 : PSs X x (rdS X.K b (wS Φ s))) :
    PS X (.While e x [] pos) (rdS X.K b (wS Φ (.whl c s))) :=
  psImp (ps_while ks.pas hc h1) fun D σ H ⟨ε, F, E, R, ⟨I, ⟨m0, i0⟩, turn⟩, en⟩ => by
    refine ⟨fun m σ H => ∃ ε F, Rep X.K b.H0 b.F0 F H σ ε ∧ I m ε, ⟨m0, ε, F, R, i0⟩, ?_⟩
    rintro m σ H ⟨ε, F, R, i⟩
    refine ⟨ε, F, E.ex, _, R, turn m ε i, en.toEx, fun d ε' H' F' s f R' q => ?_⟩
    cases d with
    | false => exact en.nx σ ε' H' F' R' q
    | true =>
      refine ⟨fun σ' H' => ∃ ε F, Rep X.K b.H0 b.F0 F H' σ' ε ∧ ∃ m', m' < m ∧ I m' ε, ?_, ε', F', _, R', q, ?_⟩
      · rintro σ' H' ⟨ε, F, R, m', hm, i⟩
        exact ⟨m', hm, ε, F, R, i⟩
      · exact ⟨fun σ ε H F R q => ⟨ε, F, R, q⟩, en.rt, en.nx, fun σ ε H F R q => ⟨ε, F, R, q⟩, en.ex⟩
theorem sFor (ok : Cok fns cls N C Φ k X sc b.W) (ks : Cks X) {t : Tg} {it : IE} {s : IS} {tg iter : Expr} {x : List Stmt} {pos : Pos} (hp : plainE iter = true) (hi : PI X tg iter (rdI X.K b (wE Φ it))) (hg : tgB (locB sc) N t tg = true)
    (h1 : ∀ F0, PSs X x (rdS X.K { b with F0 := F0 } (wS Φ s))) : PS X (.For tg iter x [] pos) (rdS X.K b (wS Φ (.forr t it s))) := by
  have pg : PG X tg (gTg X.K t) := pgTg ok.nd ok.calm (p := locB sc) (fun x hx => ⟨by rw [ok.esc]; exact locB_of hx, .inl (ks.fn x)⟩) (by rw [ok.eN]; exact hg)
  refine psImp (ps_for ks.pas ok.calm hi pg (pssEx h1) (fun _ => noFold hp)) fun D σ H ⟨ε, F, E, R, w, en⟩ => ?_
  refine ⟨ε, F, E.ex, _, R, w, en.toEx, fun ds ε1 H1 F1 J s1 f1 R1 J1 q1 => ?_⟩
  have en1 := en.up R1
  refine ⟨fun i m σ H => m = ds.length - i ∧ i ≤ ds.length ∧ ∃ ε F, Rep X.K b.H0 F1 F H σ ε ∧ forW t (fun ε2 D' => wS Φ s ε2 D') (ds.drop i) ε E, ⟨ds.length, by simp, Nat.zero_le _, ε1, F1, R1.up, q1⟩, ?_⟩
  rintro i m σ H ⟨rfl, hi, ε, F, R, wl⟩
  by_cases hlt : i < ds.length
  · refine .inr ⟨J1.go i H hlt (R.ff.trans R.fh), fun σ H => ∃ ε F, Rep X.K b.H0 F1 F H σ ε ∧ forW t (fun ε2 D' => wS Φ s ε2 D') (ds.drop (i + 1)) ε E,
      fun σ' H' q => ⟨ds.length - (i + 1), by omega, rfl, hlt, q⟩, fun v H2 y => ?_⟩
    obtain ⟨b1, F2, d, b2, b3, b4, b5, b6⟩ := J1.yld i H v H2 F hlt R.ff R.fh y
    have ed : ds.drop i = d :: ds.drop (i + 1) := by
      rw [List.drop_eq_getElem_cons hlt]
      have : ds[i] = d := by
        rw [List.getElem?_eq_getElem hlt] at b5
        exact Option.some.inj b5
      rw [this]
    rw [ed] at wl
    have R2 := R.grow b1 b2 b3 b4
    refine tgGo R2 b6 wl fun σ' ε2 R3 _ q2 => ⟨F1, ε2, F2, _, R3, q2, ?_⟩
    exact ⟨fun σ ε H F R q => ⟨ε, F, R, q⟩, en1.rt, en1.nx, fun σ ε H F R q => ⟨ε, F, R, q⟩, en1.ex⟩
  · have e : i = ds.length := by omega
    subst e
    rw [List.drop_length] at wl
    exact .inl ⟨J1.stop H (R.ff.trans R.fh), en1.nx σ ε H F R wl⟩
/-- a list of the frame's own, by its name -/
theorem ownGo {K : PySem.W.Frag} {H0 : Zn} {F0 F H : Hp} {σ : St} {ε : Ev} {j : Nat} {k : List D → Prop} (R : Rep K H0 F0 F H σ ε) (w : ownAt ε j k) :
    ∃ xs p vs, gv ε j = some (.own xs) ∧ σ[j]? = some (some (.ref p)) ∧ H p = some (.lst vs) ∧ DpAll K F vs xs ∧ k xs := by
  unfold ownAt at w
  split at w
  · rename_i xs hx
    obtain ⟨p, vs, e, h1, h2, h3, h4⟩ := R.own j xs hx
    exact ⟨xs, p, vs, hx, e, h1, h2, w⟩
  · exact w.elim
theorem sSetIx (ok : Cok fns cls N C Φ k X sc b.W) {j : Nat} {x : Str} {kE e : IE} {ke v : Expr} {p p2 pos : Pos} (h1 : (nmB N j x && visB sc x) = true) (h2 : plainE ke = true) (h3 : noComp v = true)
    (he : PE X v (rdE X.K b (wE Φ e))) (hk : PE X ke (rdE X.K b (wE Φ kE))) : PS X (.Assign [.Subscript (.Name x p) ke p2] v pos) (rdS X.K b (wS Φ (.setIx j kE e))) := by
  have pg := pg_sub (pos := p2) (peVar (p := p) ok h1) (peD hk) set_list (by
    intro w
    cases ke <;> first | rfl | exact absurd h2 Bool.false_ne_true)
  refine psImp (ps_asg (peD he) pg (noSw2 h3) rfl rfl) fun D σ H h => ?_
  obtain ⟨ε, F, E, R, w, en⟩ := h
  refine ⟨ε, F, E.ex, _, R, w, en.toEx, fun d ε1 H1 F1 z s1 f1 R1 a1 q1 => ?_⟩
  obtain ⟨xs0, r, vs0, g1, g2, g3, g4, q1⟩ := ownGo R1 q1
  refine ⟨.ref r, g2, ε1, F1, E.ex, _, R1, q1, en.toEx, fun i ε2 H2 F2 y s2 f2 R2 a2 q2 => ?_⟩
  cases i with
  | int n =>
    obtain ⟨xs, r', vs, k1, k2, k3, k4, m, e1, q3⟩ := ownGo R2 q2
    have er : r' = r := by
      rw [k2] at g2
      simpa using g2
    subst er
    refine ⟨r', vs, n, m, rfl, dpInt a2, k3, by rw [daLen k4]; exact e1, ?_⟩
    exact en.nx _ _ _ F2 (R2.change k1 k2 (daSet (dpSub f2 a1) m k4)) q3
  | _ => exact q2.elim
theorem setGo {j : Nat} {kE : IE} {v : D} {z : V} {σ : St} {H F : Hp} {ε : Ev} {Xp : XP} {Kk : Ev → Prop} {P : St → Hp → Prop} (R : Rep X.K b.H0 b.F0 F H σ ε) (d : Dp X.K F z v) (ex : ∀ H' F' σ' ε', Rep X.K b.H0 b.F0 F' H' σ' ε' → Ex X.K b Xp σ' H')
    (w : setW Φ j kE v ε Xp Kk) (kk : ∀ ε' F' H' , Rep X.K b.H0 b.F0 F' H' σ ε' → Sub F F' → Kk ε' → P σ H') : gSub (tVar j) (rdD X.K b (wE Φ kE)) rSetL z σ H P := by
  unfold setW at w
  obtain ⟨xs0, r, vs0, g1, g2, g3, g4, q1⟩ := ownGo R w
  refine ⟨.ref r, g2, ε, F, Xp, _, R, q1, ex _ _ _ _ R, fun i ε2 H2 F2 y s2 f2 R2 a2 q2 => ?_⟩
  cases i with
  | int n =>
    obtain ⟨xs, r', vs, k1, k2, k3, k4, m, e1, q3⟩ := ownGo R2 q2
    have er : r' = r := by
      rw [k2] at g2
      simpa using g2
    subst er
    refine ⟨r', vs, n, m, rfl, dpInt a2, k3, by rw [daLen k4]; exact e1, ?_⟩
    exact kk _ F2 _ (R2.change k1 k2 (daSet (dpSub f2 d) m k4)) f2 q3
  | _ => exact q2.elim
theorem swN2 {a b c d : Expr} {v : Expr} {p1 p2 p3 : Pos} {n : Nat} {env : Env} (h : noComp v = true) : swappedStores [.Tuple [.Subscript a b p1, .Subscript c d p2] n p3] v env = pure none := by
  cases v with
  | Tuple vs m q =>
    unfold swappedStores
    dsimp only
    split
    · rfl
    · split <;> rfl
  | _ => first | rfl | exact absurd h Bool.false_ne_true
theorem sSet2 (ok : Cok fns cls N C Φ k X sc b.W) (ks : Cks X) {j : Nat} {x y : Str} {kE lE e : IE} {ke le v : Expr} {p p2 p3 p4 p5 pos : Pos} {n : Nat} (h1 : (nmB N j x && visB sc x) = true) (h1' : (nmB N j y && visB sc y) = true) (h2 : plainE ke = true) (h2' : plainE le = true) (h3 : noComp v = true)
    (he : PE X v (rdE X.K b (wE Φ e))) (hk : PE X ke (rdE X.K b (wE Φ kE))) (hl : PE X le (rdE X.K b (wE Φ lE))) : PS X (.Assign [.Tuple [.Subscript (.Name x p) ke p2, .Subscript (.Name y p3) le p4] n p5] v pos) (rdS X.K b (wS Φ (.set2 j kE lE e))) := by
  have pg := pg_sub (pos := p2) (peVar (p := p) ok h1) (peD hk) set_list (by
    intro w
    cases ke <;> first | rfl | exact absurd h2 Bool.false_ne_true)
  have pg' := pg_sub (pos := p4) (peVar (p := p3) ok h1') (peD hl) set_list (by
    intro w
    cases le <;> first | rfl | exact absurd h2' Bool.false_ne_true)
  have pt := pg_tup (pos := p5) (k := n) ok.calm (pgs_cons pg (pgs_cons pg' pgs_nil))
  refine psImp (ps_asg (peD he) pt (noSw2 h3) (swN2 h3) rfl) fun D σ H h => ?_
  obtain ⟨ε, F, E, R, w, en⟩ := h
  refine ⟨ε, F, E.ex, _, R, w, en.toEx, fun d ε1 H1 F1 z s1 f1 R1 a1 q1 => ?_⟩
  cases d with
  | tuple ds =>
    rcases ds with _ | ⟨v1, _ | ⟨v2, _ | ⟨_, _⟩⟩⟩
    · exact q1.elim
    · exact q1.elim
    · obtain ⟨a, vs, rfl, r, da⟩ := dpTup a1
      cases da with
      | cons d1 dr =>
        cases dr with
        | cons d2 dn =>
          cases dn
          refine ⟨a, _, rfl, sqtSub R1.fh r, rfl, _, _, rfl, ?_⟩
          refine setGo R1 d1 (fun H' F' σ' ε' R' => en.toEx) q1 fun ε2 F2 H2 R2 f2 q2 => ?_
          refine ⟨_, _, rfl, ?_⟩
          refine setGo R2 (dpSub f2 d2) (fun H' F' σ' ε' R' => en.toEx) q2 fun ε3 F3 H3 R3 f3 q3 => ?_
          exact ⟨rfl, en.nx _ _ _ F3 R3 q3⟩
    · exact q1.elim
  | _ => exact q1.elim
theorem tyLst {K : PySem.W.Frag} {p : Addr} {H : Hp} {vs : List V} (h : H p = some (.lst vs)) : tyV K "list" (.ref p) H := .inl ⟨rfl, _, .inl (.inl h)⟩
theorem sApp (ok : Cok fns cls N C Φ k X sc b.W) {j : Nat} {x : Str} {e : IE} {v : Expr} {p p2 p3 pos : Pos} (h1 : (nmB N j x && visB sc x) = true) (h2 : plainE v = true) (hl : (p2.endLine == p3.line) = true)
    (he : PE X v (rdE X.K b (wE Φ e))) : PS X (.Expr (.Call (.Attribute (.Name x p) "append" p2) [v] [] p3) pos) (rdS X.K b (wS Φ (.app j e))) := by
  have pe := pe_bm (apos := p2) (cpos := p3) PySem.F.plainAttrs_list PySem.F.slot_list_append PySem.F.type_list_append mt_append (peVar (p := p) ok h1) (pa_cons (peD he) pa_nil (starOf h2)) rfl (by rw [starOf h2]; rfl) hl (starOf h2) rfl
  refine psImp (ps_expr pe rfl) fun D σ H h => ?_
  obtain ⟨ε, F, E, R, w, en⟩ := h
  obtain ⟨xs0, r, vs0, g1, g2, g3, g4, w⟩ := ownGo R w
  refine ⟨.ref r, g2, tyLst g3, ε, F, E.ex, _, R, w, en.toEx, fun d ε1 H1 F1 z s1 f1 R1 a1 q1 => ?_⟩
  obtain ⟨xs, r', vs, k1, k2, k3, k4, q2, q3⟩ := ownGo R1 q1
  have er : r' = r := by
    rw [k2] at g2
    simpa using g2
  subst er
  exact ⟨r', vs, z, rfl, rfl, k3, by rw [daLen k4, line24]; exact q2, en.nx _ _ _ F1 (R1.change k1 k2 (daApp k4 (.cons a1 .nil))) q3⟩
theorem sPop (ok : Cok fns cls N C Φ k X sc b.W) {j : Nat} {x : Str} {p p2 p3 pos : Pos} (h1 : (nmB N j x && visB sc x) = true) (hl : (p2.endLine == p3.line) = true) :
    PS X (.Expr (.Call (.Attribute (.Name x p) "pop" p2) [] [] p3) pos) (rdS X.K b (wS Φ (.pop j))) := by
  have pe := pe_bm0 (apos := p2) (cpos := p3) PySem.F.plainAttrs_list PySem.F.slot_list_pop PySem.F.type_list_pop mt_pop (peVar (p := p) ok h1) rfl hl
  refine psImp (ps_expr pe rfl) fun D σ H h => ?_
  obtain ⟨ε, F, E, R, w, en⟩ := h
  obtain ⟨xs, r, vs, g1, g2, g3, g4, w1, w2⟩ := ownGo R w
  have hl := daLen g4
  have hp : 0 < vs.length := by
    rw [hl]
    exact List.length_pos_iff.mpr w1
  exact ⟨.ref r, g2, tyLst g3, r, vs, vs[vs.length - 1]'(by omega), rfl, rfl, g3, List.getElem?_eq_getElem (by omega), en.nx _ _ _ F (R.change g1 g2 (daDropLast g4)) w2⟩
theorem sLc (ok : Cok fns cls N C Φ k X sc b.W) (hC : b.C = C) (ks : Cks X) {j : Nat} {y : Str} {t : Tg} {itE cE eE : IE}
    {tg iter e : Expr} {ifs : List Expr} {scope : Scope} {p py spos : Pos} (hj : nmB N j y = true) (hs : swB sc y py.line (.ListComp e [⟨tg, iter, ifs, 0⟩] scope p) = true)
    (h1 : isIt itE = true) (h2 : chk fns N itE sc [iter, tg] = true) (h3 : tgB (blB scope sc) N t tg = true) (h4 : blkC N sc scope (tgOwn t tg) = true)
    (h5 : ifsB (isNil cE) ifs (fun f => chk fns N cE (relS scope sc) [f]) = true) (h6 : chk fns N eE (relS scope sc) [e] = true) (h7 : plainE iter = true) :
    PS X (.Assign [.Name y py] (.ListComp e [⟨tg, iter, ifs, 0⟩] scope p) spos) (rdS X.K b (wS Φ (.asg j (.lc t itE cE eE)))) := by
  obtain ⟨q1, q2, q3, q4, q5⟩ := lcParts ok hC (snAll itE) (snAll cE) (snAll eE) h1 h2 h3 h4 h5 h6
  obtain ⟨g1, _, _⟩ := nmB_of hj
  have hs' : (lclB sc y && (py.line == p.line) && !(scope.names.any fun (n, k) => n == y && (k == .local || k == .cell))) = true := hs
  simp only [Bool.and_eq_true, Bool.not_eq_true'] at hs'
  obtain ⟨⟨s1, s2⟩, s3⟩ := hs'
  have hl : X.env.scope.names.lookup y = some .local := by rw [ok.esc]; exact lclB_of s1
  have hk := ks.kind
  refine psImp (ps_setLc ok.calm ok.nd (by rw [ok.eN]; exact g1) hl (sw_true hk hl s2 s3) q1 q2 q3 q4 q5 (fun x => noFold h7)) fun D σ H h => ?_
  rw [tgOwn_ix h3]
  refine lcGo (rdGo h fun ε F E R en v ε' H' F' z s f R' a q => ?_)
  cases v with
  | d y => exact en.nx _ _ H' F' (R'.store a j) q
  | own ys => exact en.nx _ _ H' F' (R'.store a j) q
  | _ => exact q.elim
theorem parSwap {env : Env} {sc : Scope} (he : env.scope = sc) (hk : env.scope.kind = .function) {x y : Str} {px py pt pt2 : Pos} {kt k2 : Nat} {a c : Expr} (hxy : x ≠ y) (h : parB sc [(x, px), (y, py)] [a, c] = true) :
    swappedStores [.Tuple [.Name x px, .Name y py] kt pt] (.Tuple [a, c] k2 pt2) env = pure (some [x, y]) := by
  unfold parB at h
  simp only [List.all_cons, List.all_nil, Bool.and_true, Bool.and_eq_true, Bool.not_eq_true', List.head?_cons, Option.map_some, Option.getD_some] at h
  obtain ⟨⟨⟨⟨⟨h1, h2⟩, h3, h4⟩, h5, h6⟩, h7⟩, h8⟩ := h
  have kx : env.kindOf x = some .local := by
    show env.scope.names.lookup x = _
    rw [he]; exact lclB_of h1
  have ky : env.kindOf y = some .local := by
    show env.scope.names.lookup y = _
    rw [he]; exact lclB_of h3
  have bk : env.blockKind = .function := by
    unfold Env.blockKind
    rw [hk]; rfl
  have e1 : (y == x) = false := by
    rw [beq_eq_false_iff_ne]
    exact Ne.symm hxy
  have e2 : [x, y].eraseDups = [x, y] := by
    simp [List.eraseDups_cons, e1, List.filter]
  have l2 : (px.line == px.line) = true := h2
  unfold swappedStores
  simp only [bk, List.any_cons, List.any_nil, Bool.or_false]
  rw [if_neg (by simp), if_neg]
  · have fm : ∀ {f : Expr → Option Str}, f (.Name x px) = some x → f (.Name y py) = some y → List.filterMap f [.Name x px, .Name y py] = [x, y] := fun {f} a1 a2 => by
      rw [List.filterMap_cons, a1]
      show x :: List.filterMap f [.Name y py] = _
      rw [List.filterMap_cons, a2]
      rfl
    rw [fm (by simp [kx, Expr.pos]) (by simp [ky, Expr.pos]; simpa using h4), e2]
    rw [if_neg (by simp), if_neg (by simp [h7]), if_neg (by simp [h8])]
  · intro hh
    rw [Bool.or_eq_true] at hh
    rcases hh with hh | hh
    · cases a <;> first | exact absurd hh Bool.false_ne_true | exact absurd h5 Bool.false_ne_true
    · cases c <;> first | exact absurd hh Bool.false_ne_true | exact absurd h6 Bool.false_ne_true
theorem sRaise (ok : Cok fns cls N C Φ k X sc b.W) (hC : b.C = C) {c : Nat} {x : Str} {e : Expr} {p p2 pos : Pos} (h1 : cls[c]? = some x) (h2 : glB sc x = true) (h3 : (x == ("__debug__" : Str)) = false) (h4 : isStr e = true) :
    PS X (.Raise (some (.Call (.Name x p) [e] [] p2)) none pos) (rdS X.K b (wS Φ (.raise c))) := by
  obtain ⟨g1, g2, g3, g4, g5⟩ := ok.exc c x h1
  cases e with
  | Constant q n p3 =>
    cases q with
    | str m =>
      refine psImp (ps_raise ok.calm ok.tk (pmk_own PySem.F.excBase_ValueError g2 g1 g3 (raises_own g4 g5) (glB_of ok h2) h3)) fun D σ H ⟨ε, F, E, R, w, en⟩ => ?_
      have q := en.ex c σ ε H F R w
      rw [hC] at q
      exact q
    | _ => exact absurd h4 Bool.false_ne_true
  | _ => exact absurd h4 Bool.false_ne_true
end
end Rc

/-! try: an except clause's suite, the statement. -/
namespace Rc
open PySem PySem.Spec PyProof.Rows L2
def hV : D → V
  | .bool b => .bl b
  | .int i => .int i
  | .str x => .str x
  | _ => .non
theorem hV_dp {K : PySem.W.Frag} {F : Hp} {c : D} {q : Const} (h : litB c q = true) : Dp K F (hV c) c := by
  cases c <;> first | exact .non | exact .bl _ | exact .int _ | exact .str _ | (cases q <;> exact absurd h Bool.false_ne_true)
section
variable {fns : List FnI} {cls : List Str} {N : List Str} {C : Nat → Addr} {Φ : Fs} {k : Nat} {X : Cx} {b : Bd} {sc : Scope} {jo : Option Nat} {a : Addr} {oe : Obj} {pn : List (Addr × Obj)} {c' : Nat}
/-- the clause's name holds what was caught -/
def Hn (jo : Option Nat) (a : Addr) (σ : St) : Prop := ∀ j, jo = some j → j < σ.length → σ[j]? = some (some (.ref a))
def tHv (jo : Option Nat) (a : Addr) (d : D) : TE := fun σ H Q => Hn jo a σ ∧ Q (hV d) H
def tHt (jo : Option Nat) (a : Addr) (d : Bool) : TT := fun σ H Q => Hn jo a σ ∧ Q d H
theorem isx_run (ok : Cok fns cls N C Φ k X sc b.W) (hne : cls ≠ []) (hz : Zc (.ref (C c')) none oe) (hf : ∃ vs, oe.data = .fields vs) {x n : Str} {e2 : Expr} {p p1 pos : Pos} {v : V} {cv : Value} {r : Bool}
    (h : isxB N jo sc x n = true) (h2 : PE (X.suite a ((a, oe) :: pn)) e2 (tC v)) (pl : plainE e2 = true) (hv : ∀ u, RelV v u → u = cv) (e : PySem.W.kitOne X.K (.ref (C c')) cv = some r) :
    PE (X.suite a ((a, oe) :: pn)) (.Call (.Name x p) [.Name n p1, e2] [] pos) (tHv jo a (.bool r)) := by
  unfold isxB at h
  simp only [Bool.and_eq_true, decide_eq_true_eq] at h
  obtain ⟨⟨rfl, h1⟩, h3⟩ := h
  cases jo with
  | none => exact absurd h3 Bool.false_ne_true
  | some j =>
    have h3' : nmB N j n = true ∧ visB sc n = true := by simpa [Bool.and_eq_true] using h3
    obtain ⟨g1, g2, g3⟩ := nmB_of h3'.1
    have pv : PE (X.suite a ((a, oe) :: pn)) (.Name n p1) (tVar j) := pe_var (by show X.N[j]? = _; rw [ok.eN]; exact g1) (by show Vis X.env.scope n; rw [ok.esc]; exact visB_of h3'.2) g2 g3
    have pv : PE (X.suite a ((a, oe) :: pn)) (.Name n p1) (fun σ H Q => Hn (some j) a σ ∧ Q (.ref a) H) := ⟨fun pins s σ H Q I w => pv.run pins s σ H Q I ⟨.ref a, w.1 j rfl (by
      have e1 : σ.length = X.N.length := I.len
      rw [e1, ok.eN]
      exact (List.getElem?_eq_some_iff.mp g1).1), w.2⟩⟩
    have hg0 : Gl X "isinstance" := glB_of ok h1
    have hg : Gl (X.suite a ((a, oe) :: pn)) "isinstance" := hg0
    refine peImp (pe_callB (call_isE (X := X) (pn := pn) (ok.xf.cc c' hne) hz hf) hg (ok.blt _ (by decide)) (by decide +kernel) (pa_cons pv (pa_cons h2 pa_nil (starOf pl)) (starOf (e := .Name n p1) rfl)) (by decide) (by decide) (starOf (e := .Name n p1) rfl) ?_) fun σ H Q ⟨q1, q2⟩ => ?_
    · rw [starOf pl]; rfl
    · exact ⟨q1, v, cv, r, rfl, hv, e, q2⟩
theorem ptH {e : Expr} {X' : Cx} {d : Bool} (h : PE X' e (tHv jo a (.bool d))) (he : ∀ whole, isTrue e X'.env whole = (do let v ← whole; standAt e.pos; holding [v] (truthy v))) : PT X' e (tHt jo a d) :=
  ptImp (pt_val h he) fun σ H Q ⟨q1, q2⟩ => ⟨q1, d, rfl, q2⟩
theorem hE_b {h : HE} (hb : isBH h = true) : hE c' h = .bool (hB c' h) := by
  cases h with
  | cst c => cases c <;> first | rfl | exact absurd hb Bool.false_ne_true
  | _ => rfl
theorem hOk (ok : Cok fns cls N C Φ k X sc b.W) (hne : cls ≠ []) (hz : Zc (.ref (C c')) none oe) (hf : ∃ vs, oe.data = .fields vs) (h : HE) : ∀ e, chkH cls N jo h sc [e] = true →
    PE (X.suite a ((a, oe) :: pn)) e (tHv jo a (hE c' h)) ∧ (isBH h = true → PT (X.suite a ((a, oe) :: pn)) e (tHt jo a (hB c' h))) ∧
    (∀ op es pos, e = .BoolOp op es pos → PW (X.suite a ((a, oe) :: pn)) e (tHt jo a (hB c' h))) := by
  have fin : ∀ {e : Expr} {h : HE}, isBH h = true → PE (X.suite a ((a, oe) :: pn)) e (tHv jo a (hE c' h)) → PW (X.suite a ((a, oe) :: pn)) e (tHt jo a (hB c' h)) →
      PE (X.suite a ((a, oe) :: pn)) e (tHv jo a (hE c' h)) ∧ (isBH h = true → PT (X.suite a ((a, oe) :: pn)) e (tHt jo a (hB c' h))) ∧
      (∀ op es pos, e = .BoolOp op es pos → PW (X.suite a ((a, oe) :: pn)) e (tHt jo a (hB c' h))) := fun hb h1 h2 => ⟨h1, fun _ => h2.pt, fun _ _ _ _ => h2⟩
  have toB : ∀ {e : Expr} {h : HE}, isBH h = true → PE (X.suite a ((a, oe) :: pn)) e (tHv jo a (hE c' h)) → PE (X.suite a ((a, oe) :: pn)) e (tHv jo a (.bool (hB c' h))) := fun hb q => by
    rw [← hE_b hb]; exact q
  induction h with
  | cst c =>
    intro e hc
    cases e with
    | Constant q n p =>
      have hl : litB c q = true := hc
      have pe : PE (X.suite a ((a, oe) :: pn)) (.Constant q n p) (tHv jo a c) := by
        have go : ∀ (v : V), hV c = v → PE (X.suite a ((a, oe) :: pn)) (.Constant q n p) (tC v) → PE (X.suite a ((a, oe) :: pn)) (.Constant q n p) (tHv jo a c) := fun v hv q => peImp q fun σ H Q ⟨_, q2⟩ => by
          rw [hv] at q2; exact q2
        cases c with
        | none => cases q <;> first | exact go _ rfl pe_non | exact absurd hl Bool.false_ne_true
        | bool x =>
          cases q with
          | bool y => cases (beq_iff_eq.mp hl); exact go _ rfl pe_bl
          | _ => exact absurd hl Bool.false_ne_true
        | int x =>
          cases q with
          | int y => cases (beq_iff_eq.mp hl); exact go _ rfl pe_int
          | _ => exact absurd hl Bool.false_ne_true
        | str x =>
          cases q with
          | str y => cases (of_decide_eq_true hl); exact go _ rfl pe_str
          | _ => exact absurd hl Bool.false_ne_true
        | _ => exact absurd hl Bool.false_ne_true
      refine ⟨pe, fun hb => ?_, fun _ _ _ z => by cases z⟩
      cases c with
      | bool x => exact ptH pe fun _ => rfl
      | _ => exact absurd hb Bool.false_ne_true
    | _ => exact absurd hc Bool.false_ne_true
  | isx c =>
    intro e hc
    cases e with
    | Call f es kws pos =>
      cases f with
      | Name x p =>
        cases es with
        | nil => exact absurd hc Bool.false_ne_true
        | cons e1 es =>
          cases e1 with
          | Name n p1 =>
            cases es with
            | nil => exact absurd hc Bool.false_ne_true
            | cons e2 es =>
              cases e2 with
              | Name y p2 =>
                cases es with
                | cons _ _ => exact absurd hc Bool.false_ne_true
                | nil =>
                  cases kws with
                  | cons _ _ => exact absurd hc Bool.false_ne_true
                  | nil =>
                    have h : (isxB N jo sc x n && decide (cls[c]? = some y) && glB sc y && !(y == ("__debug__" : Str))) = true := hc
                    simp only [Bool.and_eq_true, decide_eq_true_eq, Bool.not_eq_true'] at h
                    obtain ⟨⟨⟨h1, h2⟩, h3⟩, h4⟩ := h
                    have gy0 : Gl X y := glB_of ok h3
                    have gy : Gl (X.suite a ((a, oe) :: pn)) y := gy0
                    have pe := isx_run (p := p) (p1 := p1) (pos := pos) ok hne hz hf h1 (pe_glob (v := .ref (C c)) (pos := p2) gy (ok.exc c y h2).1 rfl h4) rfl (fun u r => r) (ok.xf.is c' c y h2)
                    exact ⟨pe, fun _ => ptH pe fun _ => rfl, fun _ _ _ z => by cases z⟩
              | _ => exact absurd hc Bool.false_ne_true
          | _ => exact absurd hc Bool.false_ne_true
      | _ => exact absurd hc Bool.false_ne_true
    | _ => exact absurd hc Bool.false_ne_true
  | isv =>
    intro e hc
    cases e with
    | Call f es kws pos =>
      cases f with
      | Name x p =>
        cases es with
        | nil => exact absurd hc Bool.false_ne_true
        | cons e1 es =>
          cases e1 with
          | Name n p1 =>
            cases es with
            | nil => exact absurd hc Bool.false_ne_true
            | cons e2 es =>
              cases e2 with
              | Name y p2 =>
                cases es with
                | cons _ _ => exact absurd hc Bool.false_ne_true
                | nil =>
                  cases kws with
                  | cons _ _ => exact absurd hc Bool.false_ne_true
                  | nil =>
                    have h : (isxB N jo sc x n && decide (y = "ValueError") && glB sc y && !cls.isEmpty) = true := hc
                    simp only [Bool.and_eq_true, decide_eq_true_eq, Bool.not_eq_true'] at h
                    obtain ⟨⟨⟨h1, rfl⟩, h3⟩, h4⟩ := h
                    have gy0 : Gl X "ValueError" := glB_of ok h3
                    have gy : Gl (X.suite a ((a, oe) :: pn)) "ValueError" := gy0
                    have pe := isx_run (p := p) (p1 := p1) (pos := pos) ok hne hz hf h1 (pe_bltn (pos := p2) (v := .ty "ValueError") (u := .type "ValueError") gy (ok.blt _ (by decide)) (by decide +kernel) rfl) rfl (fun u r => r) (ok.xf.ve c' hne)
                    exact ⟨pe, fun _ => ptH pe fun _ => rfl, fun _ _ _ z => by cases z⟩
              | _ => exact absurd hc Bool.false_ne_true
          | _ => exact absurd hc Bool.false_ne_true
      | _ => exact absurd hc Bool.false_ne_true
    | _ => exact absurd hc Bool.false_ne_true
  | bnot h ih =>
    intro e hc
    cases e with
    | UnaryOp op e p =>
      cases op with
      | Not =>
        have h2 : (isBH h && chkH cls N jo h sc [e]) = true := hc
        rw [Bool.and_eq_true] at h2
        obtain ⟨g1, g2, g3⟩ := ih e h2.2
        have pt : PT (X.suite a ((a, oe) :: pn)) (.UnaryOp .Not e p) (tHt jo a (hB c' (.bnot h))) := ptImp (pt_not (g2 h2.1)) fun σ H Q q => q
        exact ⟨peImp (pe_not (toB h2.1 g1)) fun σ H Q ⟨q1, q2⟩ => ⟨q1, _, rfl, q2⟩, fun _ => pt, fun _ _ _ z => by cases z⟩
      | _ => exact absurd hc Bool.false_ne_true
    | _ => exact absurd hc Bool.false_ne_true
  | band h r ih1 ih2 =>
    intro e hc
    cases e with
    | BoolOp op es pos =>
      cases op with
      | Or => exact absurd hc (by cases es with
        | nil => exact Bool.false_ne_true
        | cons _ es => cases es <;> exact Bool.false_ne_true)
      | And =>
        cases es with
        | nil => exact absurd hc Bool.false_ne_true
        | cons x es =>
          cases es with
          | nil => exact absurd hc Bool.false_ne_true
          | cons y rest =>
            have h2 : (isBH h && isBH r && chkH cls N jo h sc [x] && chkH cls N jo r sc [.BoolOp .And (y :: rest) pos]) = true := hc
            simp only [Bool.and_eq_true] at h2
            obtain ⟨⟨⟨b1, b2⟩, c1⟩, c2⟩ := h2
            obtain ⟨g1, g2, g3⟩ := ih1 x c1
            obtain ⟨k1, k2, k3⟩ := ih2 _ c2
            refine fin rfl (peImp (pe_and (toB b1 g1) (toB b2 k1)) fun σ H Q ⟨q1, q2⟩ => ⟨q1, _, rfl, ?_⟩) (pwImp (pw_and (g2 b1) (k3 _ _ _ rfl)) fun σ H Q ⟨q1, q2⟩ => ⟨q1, ?_⟩)
            · have q3 : Q (.bl (hB c' h && hB c' r)) H := q2
              cases z : hB c' h with
              | true => rw [z] at q3; exact ⟨q1, q3⟩
              | false => rw [z] at q3; exact q3
            · have q3 : Q (hB c' h && hB c' r) H := q2
              cases z : hB c' h with
              | true => rw [z] at q3; exact ⟨q1, q3⟩
              | false => rw [z] at q3; exact q3
    | _ => exact absurd hc Bool.false_ne_true
  | bor h r ih1 ih2 =>
    intro e hc
    cases e with
    | BoolOp op es pos =>
      cases op with
      | And => exact absurd hc (by cases es with
        | nil => exact Bool.false_ne_true
        | cons _ es => cases es <;> exact Bool.false_ne_true)
      | Or =>
        cases es with
        | nil => exact absurd hc Bool.false_ne_true
        | cons x es =>
          cases es with
          | nil => exact absurd hc Bool.false_ne_true
          | cons y rest =>
            have h2 : (isBH h && isBH r && chkH cls N jo h sc [x] && chkH cls N jo r sc [.BoolOp .Or (y :: rest) pos]) = true := hc
            simp only [Bool.and_eq_true] at h2
            obtain ⟨⟨⟨b1, b2⟩, c1⟩, c2⟩ := h2
            obtain ⟨g1, g2, g3⟩ := ih1 x c1
            obtain ⟨k1, k2, k3⟩ := ih2 _ c2
            refine fin rfl (peImp (pe_or (toB b1 g1) (toB b2 k1)) fun σ H Q ⟨q1, q2⟩ => ⟨q1, _, rfl, ?_⟩) (pwImp (pw_or (g2 b1) (k3 _ _ _ rfl)) fun σ H Q ⟨q1, q2⟩ => ⟨q1, ?_⟩)
            · have q3 : Q (.bl (hB c' h || hB c' r)) H := q2
              cases z : hB c' h with
              | false => rw [z] at q3; exact ⟨q1, q3⟩
              | true => rw [z] at q3; exact q3
            · have q3 : Q (hB c' h || hB c' r) H := q2
              cases z : hB c' h with
              | false => rw [z] at q3; exact ⟨q1, q3⟩
              | true => rw [z] at q3; exact q3
    | _ => exact absurd hc Bool.false_ne_true
  | bone h ih =>
    intro e hc
    cases e with
    | BoolOp op es pos =>
      cases es with
      | nil => cases op <;> exact absurd hc Bool.false_ne_true
      | cons x es =>
        cases es with
        | cons _ _ => cases op <;> exact absurd hc Bool.false_ne_true
        | nil =>
          have h2 : (isBH h && chkH cls N jo h sc [x]) = true := by cases op <;> exact hc
          rw [Bool.and_eq_true] at h2
          obtain ⟨g1, g2, g3⟩ := ih x h2.2
          refine fin rfl (peImp (pe_one (toB h2.1 g1)) fun σ H Q q => q) ?_
          cases op with
          | And => exact pwImp (pw_and1 (g2 h2.1)) fun σ H Q q => q
          | Or => exact pwImp (pw_or1 (g2 h2.1)) fun σ H Q q => q
    | _ => exact absurd hc Bool.false_ne_true
/-! ### the suite -/
/-- how the suite ends -/
structure HnOk (K : PySem.W.Frag) (b : Bd) (jo : Option Nat) (a : Addr) (E : En) (D : Ends) : Prop where
  nx : ∀ σ ε H F, Hn jo a σ → Rep K b.H0 b.F0 F H σ ε → (∀ j, jo = some j → gv ε j = none) → E.nx ε → D.nx σ H
  rt : ∀ v σ ε H F x, Rep K b.H0 b.F0 F H σ ε → VAt K b.H0 F H σ ε x v → E.rt v → D.rt x H
def rdH (K : PySem.W.Frag) (b : Bd) (jo : Option Nat) (a : Addr) (T : Ev → En → Prop) : TS := fun D σ H => ∃ ε F E, Hn jo a σ ∧ Rep K b.H0 b.F0 F H σ ε ∧ (∀ j, jo = some j → gv ε j = none) ∧ T ε E ∧ HnOk K b jo a E D
theorem hE_dp {K : PySem.W.Frag} {F : Hp} {h : HE} {e : Expr} (hc : chkH cls N jo h sc [e] = true) : Dp K F (hV (hE c' h)) (hE c' h) := by
  cases h with
  | cst c =>
    cases e with
    | Constant q n p => exact hV_dp (q := q) hc
    | _ => exact absurd hc Bool.false_ne_true
  | _ => exact .bl _
theorem hsOk (ok : Cok fns cls N C Φ k X sc b.W) (ks : ∀ x, X.fn x = true) (hne : cls ≠ []) (hz : Zc (.ref (C c')) none oe) (hf : ∃ vs, oe.data = .fields vs) (h : HS) : ∀ sts, chkHS cls N jo h sc sts = true →
    PSs (X.suite a ((a, oe) :: pn)) sts (rdH X.K b jo a (hS c' h)) := by
  induction h with
  | nil =>
    intro sts hc
    cases sts with
    | cons _ _ => exact absurd hc Bool.false_ne_true
    | nil => exact pssImp pss_nil fun D σ H ⟨ε, F, E, hn, R, g, w, en⟩ => en.nx σ ε H F hn R g w
  | asg j e r ih =>
    intro sts hc
    cases sts with
    | nil => exact absurd hc Bool.false_ne_true
    | cons st sts =>
      cases st with
      | Assign tgs v pos =>
        cases tgs with
        | nil => exact absurd hc Bool.false_ne_true
        | cons t tgs =>
          cases t with
          | Name x p =>
            cases tgs with
            | cons _ _ => exact absurd hc Bool.false_ne_true
            | nil =>
              have h : (nmB N j x && locB sc x && noComp v && !(decide (jo = some j)) && chkH cls N jo e sc [v] && chkHS cls N jo r sc sts) = true := hc
              simp only [Bool.and_eq_true, Bool.not_eq_true', decide_eq_false_iff_not] at h
              obtain ⟨⟨⟨⟨⟨h1, h2⟩, h3⟩, h4⟩, h5⟩, h6⟩ := h
              obtain ⟨g1, _, _⟩ := nmB_of h1
              have ps := ps_set (X := X.suite a ((a, oe) :: pn)) (pos := pos) (pos' := p) ok.nd (by show X.N[j]? = _; rw [ok.eN]; exact g1) (by show Loc X.env.scope x; rw [ok.esc]; exact locB_of h2) (hOk ok hne hz hf e v h5).1 (noSw h3) (.inl (ks x))
              refine pssImp (pss_cons ps (ih sts h6)) fun D σ H ⟨ε, F, E, hn, R, g, w, en⟩ => ⟨hn, ?_⟩
              refine ⟨_, F, E, fun i hi hl => ?_, R.store (x := .d (hE c' e)) (hE_dp h5) j, fun i hi => ?_, w, en⟩
              · rw [List.getElem?_set_ne (fun z => h4 (by rw [z]; exact hi))]
                exact hn i hi (by rw [List.length_set] at hl; exact hl)
              · rw [gv_pv, if_neg (fun z => h4 (by rw [← z]; exact hi))]
                exact g i hi
          | _ => exact absurd hc Bool.false_ne_true
      | _ => exact absurd hc Bool.false_ne_true
  | ite c s t r ih1 ih2 ih3 =>
    intro sts hc
    cases sts with
    | nil => exact absurd hc Bool.false_ne_true
    | cons st sts =>
      cases st with
      | If e x y pos =>
        have h : (isBH c && chkH cls N jo c sc [e] && chkHS cls N jo s sc x && chkHS cls N jo t sc y && chkHS cls N jo r sc sts) = true := hc
        simp only [Bool.and_eq_true] at h
        obtain ⟨⟨⟨⟨h1, h2⟩, h3⟩, h4⟩, h5⟩ := h
        refine pssImp (pss_cons (ps_if (pos := pos) ((hOk ok hne hz hf c e h2).2.1 h1) (ih1 x h3) (ih2 y h4)) (ih3 sts h5)) fun D σ H ⟨ε, F, E, hn, R, g, w, en⟩ => ⟨hn, ?_⟩
        have w' : (if hB c' c = true then hS c' s ε { E with nx := fun ε1 => hS c' r ε1 E } else hS c' t ε { E with nx := fun ε1 => hS c' r ε1 E }) := w
        have en' : HnOk X.K b jo a { E with nx := fun ε1 => hS c' r ε1 E } { D with nx := fun σ H => rdH X.K b jo a (hS c' r) D σ H } :=
          ⟨fun σ ε H F hn R g q => ⟨ε, F, E, hn, R, g, q, en⟩, en.rt⟩
        cases z : hB c' c with
        | true => rw [z] at w'; exact ⟨ε, F, _, hn, R, g, w', en'⟩
        | false => rw [z] at w'; exact ⟨ε, F, _, hn, R, g, w', en'⟩
      | _ => exact absurd hc Bool.false_ne_true
  | ret e =>
    intro sts hc
    cases sts with
    | nil => exact absurd hc Bool.false_ne_true
    | cons st sts =>
      cases st with
      | Return v pos =>
        cases v with
        | none => cases sts <;> exact absurd hc Bool.false_ne_true
        | some v =>
          cases sts with
          | cons _ _ => exact absurd hc Bool.false_ne_true
          | nil =>
            have h : chkH cls N jo e sc [v] = true := hc
            refine pssImp (pss_one (ps_ret (pos := pos) (hOk ok hne hz hf e v h).1)) fun D σ H ⟨ε, F, E, hn, R, g, w, en⟩ => ⟨hn, ?_⟩
            exact en.rt (.d (hE c' e)) σ ε H F _ R (hE_dp h) w
      | _ => cases sts <;> exact absurd hc Bool.false_ne_true
/-! ### the statement -/
/-- a slot that the names do not tell of may change -/
theorem Rep.slot {K : PySem.W.Frag} {H0 : Zn} {F0 F H : Hp} {σ : St} {ε : Ev} (R : Rep K H0 F0 F H σ ε) {j : Nat} (g : gv ε j = none) (v : Option V) : Rep K H0 F0 F H (σ.set j v) ε where
  fh := R.fh
  ff := R.ff
  h0 := R.h0
  fr := R.fr
  len := by rw [List.length_set]; exact R.len
  dat := fun i x h => by
    have ne : j ≠ i := fun z => by subst z; rw [g] at h; cases h
    rw [List.getElem?_set_ne ne]; exact R.dat i x h
  own := fun i x h => by
    have ne : j ≠ i := fun z => by subst z; rw [g] at h; cases h
    rw [List.getElem?_set_ne ne]; exact R.own i x h
  uni := fun i k xs ys p a b ea eb => by
    have n1 : j ≠ i := fun z => by subst z; rw [g] at a; cases a
    have n2 : j ≠ k := fun z => by subst z; rw [g] at b; cases b
    rw [List.getElem?_set_ne n1] at ea
    rw [List.getElem?_set_ne n2] at eb
    exact R.uni i k xs ys p a b ea eb
  lnt := fun i x h => by
    have ne : j ≠ i := fun z => by subst z; rw [g] at h; cases h
    rw [List.getElem?_set_ne ne]; exact R.lnt i x h
  one := fun i k xs ys p a b ea eb => by
    have n1 : j ≠ i := fun z => by subst z; rw [g] at a; cases a
    have n2 : j ≠ k := fun z => by subst z; rw [g] at b; cases b
    rw [List.getElem?_set_ne n1] at ea
    rw [List.getElem?_set_ne n2] at eb
    exact R.one i k xs ys p a b ea eb
  ll := R.ll
  dcs := R.dcs.sub (fun i w h _ => ⟨h, List.getElem?_set_ne (fun z => by subst z; rw [g] at h; cases h)⟩) (.refl _) fun p o e _ _ f z _ => ⟨e, f, z⟩
theorem gv_hide {ε : Ev} {j : Nat} : gv (pv ε j none) j = none := by
  rw [gv_pv, if_pos rfl]
  split <;> rfl
theorem vatSlot {K : PySem.W.Frag} {H0 : Zn} {F H : Hp} {σ : St} {ε : Ev} {x : V} {v : Val} (h : VAt K H0 F H σ ε x v) {j : Nat} (g : gv ε j = none) (u : Option V) : VAt K H0 F H (σ.set j u) ε x v := by
  cases v with
  | own xs =>
    obtain ⟨p, vs, e, h1, h2, h3, h4, h5⟩ := h
    refine ⟨p, vs, e, h1, h2, h3, h4, fun i ys q z => h5 i ys q ?_⟩
    have ne : j ≠ i := fun z => by subst z; rw [g] at q; cases q
    rw [List.getElem?_set_ne ne] at z; exact z
  | d y => exact h
  | many _ => exact h
  | exc _ => exact h
  | lent _ => exact h
  | two _ _ => exact h
  | twoO _ _ => exact h
  | dI _ => exact h
  | dT _ => exact h
theorem sTry (ok : Cok fns cls N C Φ k X sc b.W) (hC : b.C = C) (ks : Cks X) (hs : X.stack = X.env :: X.outer) (hfr : X.env.frame = some X.env.locals) {s : IS} {c : Nat} {h : HS} {x : List Stmt} {y : Str} {n : Option Str} {h0 : Stmt} {hs' : List Stmt} {p pos' pos : Pos}
    (hb : ∀ (W : WX) (pn : List (Addr × Obj)) (xe : Value → Shared → Prop), Cok fns cls N C Φ k (X.tr pn xe) sc W → Cks (X.tr pn xe) → PSs (X.tr pn xe) x (rdS X.K { b with W := W } (wS Φ s)))
    (h1 : cls[c]? = some y) (h2 : glB sc y = true) (h3 : (y == ("__debug__" : Str)) = false) (h4 : excB N jo sc n = true) (h5 : chkHS cls N jo h sc (h0 :: hs') = true) :
    PS X (.Try x [.ExceptHandler (some (.Name y p)) n (h0 :: hs') pos'] [] [] pos) (rdS X.K b (wS Φ (.try1 s c jo h))) := by
  subst hC
  have hne : cls ≠ [] := fun z => by rw [z] at h1; cases h1
  have hc : Names X y (.ref (b.C c)) := ⟨glB_of ok h2, h3, .inl (ok.exc c y h1).1⟩
  have hb' : ∀ (W : WX) (pn : List (Addr × Obj)) (xe : Value → Shared → Prop), Takes (X.tr pn xe) W → PassesOwn (model X.prog X.w) X.A X.env xe → PSs (X.tr pn xe) x (rdS X.K { b with W := W } (wS Φ s)) := fun W pn xe tk pas =>
    hb W pn xe ⟨ok.room, ok.seer, ok.tree, ok.top, ok.nd, ok.eN, ok.esc, ok.calm, tk, ok.blt, ok.exc, ok.xf, ok.ar, ok.gcon, ok.callee⟩ ⟨pas, ks.fn, ks.kind, ks.stack, ks.frame⟩
  have hsu : ∀ (a : Addr) (oe : Obj) (cls' : Value) (d : Option Addr) (pn : List (Addr × Obj)), Zc cls' d oe → (∃ vs, oe.data = .fields vs) →
      PSs (X.suite a ((a, oe) :: pn)) (h0 :: hs') (fun D σ H => ∃ c', cls' = .ref (b.C c') ∧ d = none ∧ rdH X.K b jo a (hS c' h) D σ H) := fun a oe cls' d pn hz hf => ⟨fun pins s σ H D I ⟨c', e1, e2, w⟩ => by
    subst e1 e2
    exact (hsOk ok ks.fn hne hz hf h _ h5).run pins s σ H D I w⟩
  cases jo with
  | none =>
    cases n with
    | some _ => exact absurd h4 Bool.false_ne_true
    | none =>
      refine psImp (ps_try_only hs hfr hc ok.tk hb' hsu) fun D σ H ⟨ε, F, E, R, w, en⟩ => ⟨ε, F, _, R, w, en.nx, en.rt, en.bk, en.ct, fun c' σ1 ε1 H1 F1 R1 q => ?_⟩
      refine Exists.intro (isS c' c) ⟨ok.xf.ex c' c y h1, fun hq a na => ⟨c', rfl, rfl, ?_⟩, fun hq => ?_⟩
      · have q' : (if isS c' c = true then hS c' h ε1 E else E.ex c' ε1) := q
        rw [if_pos hq] at q'
        exact ⟨ε1, F1, E, fun _ z => (by cases z), R1, fun _ z => (by cases z), q', ⟨fun σ ε H F _ R _ q => en.nx σ ε H F R q, en.rt⟩⟩
      · have q' : (if isS c' c = true then hS c' h ε1 E else E.ex c' ε1) := q
        rw [if_neg (by rw [hq]; exact Bool.false_ne_true)] at q'
        exact en.ex c' σ1 ε1 H1 F1 R1 q'
  | some j =>
    cases n with
    | none => exact absurd h4 Bool.false_ne_true
    | some n =>
      have h4' : (nmB N j n && lclB sc n) = true := h4
      rw [Bool.and_eq_true] at h4'
      obtain ⟨g1, _, _⟩ := nmB_of h4'.1
      refine psImp (ps_try_as (i := j) hs hfr ok.nd (by rw [ok.eN]; exact g1) (by show X.env.scope.names.lookup n = _; rw [ok.esc]; exact lclB_of h4'.2) hc ok.tk hb' hsu) fun D σ H ⟨ε, F, E, R, w, en⟩ => ⟨ε, F, _, R, w, en.nx, en.rt, en.bk, en.ct, fun c' σ1 ε1 H1 F1 R1 q => ?_⟩
      have q' : (if isS c' c = true then hS c' h (pv ε1 j none) E else E.ex c' ε1) := q
      refine Exists.intro (isS c' c) ⟨ok.xf.ex c' c y h1, fun hq a na => ⟨c', rfl, rfl, ?_⟩, fun hq => ?_⟩
      · rw [if_pos hq] at q'
        refine ⟨pv ε1 j none, F1, E, fun i hi hl => ?_, (R1.forget j).slot gv_hide _, fun i hi => ?_, q', ⟨fun σ ε H F hn R g q => en.nx _ ε H F (R.slot (g j rfl) _) q, fun v σ ε H F x R a q => en.rt v σ ε H F x R a q⟩⟩
        · cases hi; rw [List.getElem?_set_self (by rw [List.length_set] at hl; exact hl)]
        · cases hi; exact gv_hide
      · rw [if_neg (by rw [hq]; exact Bool.false_ne_true)] at q'
        exact en.ex c' σ1 ε1 H1 F1 R1 q'
end
end Rc

/-! More statements: insert, pop with a value, extend, name op= e. -/
namespace Rc
open PySem PySem.Spec PyProof.Rows L2
section
variable {fns : List FnI} {cls : List Str} {N : List Str} {C : Nat → Addr} {Φ : Fs} {k : Nat} {X : Cx} {b : Bd} {sc : Scope}
theorem sIns (ok : Cok fns cls N C Φ k X sc b.W) {j : Nat} {x : Str} {kE e : IE} {ke v : Expr} {p p2 p3 pos : Pos} (h1 : (nmB N j x && visB sc x) = true) (h2 : plainE ke = true) (h3 : plainE v = true) (hl : (p2.endLine == p3.line) = true)
    (hk : PE X ke (rdE X.K b (wE Φ kE))) (he : PE X v (rdE X.K b (wE Φ e))) : PS X (.Expr (.Call (.Attribute (.Name x p) "insert" p2) [ke, v] [] p3) pos) (rdS X.K b (wS Φ (.ins j kE e))) := by
  have pe := pe_bm (apos := p2) (cpos := p3) PySem.F.plainAttrs_list PySem.F.slot_list_insert PySem.F.type_list_insert mt_insert (peVar (p := p) ok h1) (pa_cons (peD hk) (pa_cons (peD he) pa_nil (starOf h3)) (starOf h2)) rfl (by rw [starOf h2, starOf h3]; rfl) hl (starOf h2) (by rw [starOf h3]; rfl)
  refine psImp (ps_expr pe rfl) fun D σ H h => ?_
  obtain ⟨ε, F, E, R, w, en⟩ := h
  obtain ⟨xs0, r, vs0, g1, g2, g3, g4, w⟩ := ownGo R w
  refine ⟨.ref r, g2, tyLst g3, ε, F, E.ex, _, R, w, en.toEx, fun i ε1 H1 F1 z s1 f1 R1 a1 q1 => ⟨ε1, F1, E.ex, _, R1, q1, en.toEx, fun d ε2 H2 F2 y s2 f2 R2 a2 q2 => ?_⟩⟩
  cases i with
  | int n =>
    obtain ⟨xs, r', vs, k1, k2, k3, k4, ⟨q3, q4, q5⟩, q6⟩ := ownGo R2 q2
    have er : r' = r := by
      rw [k2] at g2
      simpa using g2
    subst er
    cases dpInt a1
    refine ⟨r', vs, n, y, rfl, rfl, k3, by rw [daLen k4, line24]; exact q5, q3, q4, en.nx _ _ _ F2 (R2.change k1 k2 ?_) q6⟩
    exact daApp (daApp (daTake _ k4) (.cons a2 .nil)) (daDrop _ k4)
  | _ => exact q2.elim
theorem tgOk (ok : Cok fns cls N C Φ k X sc b.W) (ks : Cks X) {t : Tg} {tg : Expr} (h : tgB (locB sc) N t tg = true) : PG X tg (gTg X.K t) :=
  pgTg ok.nd ok.calm (p := locB sc) (fun x hx => ⟨by rw [ok.esc]; exact locB_of hx, .inl (ks.fn x)⟩) (by rw [ok.eN]; exact h)
theorem ae1 {t : Tg} {tg : Expr} {env : Env} {p : Str → Bool} (h : tgB p N t tg = true) : (assignEach [tg] env).map (·.2) = [assign tg env] := by
  cases tg <;> first | rfl | (cases t <;> exact absurd h Bool.false_ne_true)
theorem sPopT (ok : Cok fns cls N C Φ k X sc b.W) (ks : Cks X) {t : Tg} {j : Nat} {x : Str} {tg : Expr} {p p2 p3 pos : Pos} (ht : tgB (locB sc) N t tg = true) (h1 : (nmB N j x && visB sc x) = true) (hl : (p2.endLine == p3.line) = true) :
    PS X (.Assign [tg] (.Call (.Attribute (.Name x p) "pop" p2) [] [] p3) pos) (rdS X.K b (wS Φ (.popT t j))) := by
  have pe := pe_bm0 (apos := p2) (cpos := p3) PySem.F.plainAttrs_list PySem.F.slot_list_pop PySem.F.type_list_pop mt_pop (peVar (p := p) ok h1) rfl hl
  refine psImp (ps_asg pe (tgOk ok ks ht) (noSw2 rfl) (by cases tg <;> rfl) (ae1 ht)) fun D σ H h => ?_
  obtain ⟨ε, F, E, R, w, en⟩ := h
  obtain ⟨xs, r, vs, g1, g2, g3, g4, y, w1, w2⟩ := ownGo R w
  have hl := daLen g4
  rw [← hl] at w1
  obtain ⟨v, v1, v2⟩ := daGet' g4 w1
  refine ⟨.ref r, g2, tyLst g3, r, vs, v, rfl, rfl, g3, v1, ?_⟩
  exact tgGo (R.change g1 g2 (daDropLast g4)) v2 w2 fun σ' ε2 R2 _ q2 => en.nx σ' ε2 _ F R2 q2
theorem daErase {K : PySem.W.Frag} {F : Hp} : ∀ {vs : List V} {ds : List D} (n : Nat), DpAll K F vs ds → DpAll K F (vs.eraseIdx n) (ds.eraseIdx n)
  | _, _, _, .nil => .nil
  | _, _, 0, .cons _ b => b
  | _, _, n + 1, .cons a b => .cons a (daErase n b)
theorem sPopI (ok : Cok fns cls N C Φ k X sc b.W) (ks : Cks X) {t : Tg} {j : Nat} {kE : IE} {x : Str} {tg ke : Expr} {p p2 p3 pos : Pos} (ht : tgB (locB sc) N t tg = true) (h1 : (nmB N j x && visB sc x) = true) (hl : (p2.endLine == p3.line) = true) (hp : plainE ke = true)
    (hk : PE X ke (rdE X.K b (wE Φ kE))) : PS X (.Assign [tg] (.Call (.Attribute (.Name x p) "pop" p2) [ke] [] p3) pos) (rdS X.K b (wS Φ (.popI t j kE))) := by
  have pe := pe_bm (apos := p2) (cpos := p3) PySem.F.plainAttrs_list PySem.F.slot_list_pop PySem.F.type_list_pop mt_popAt (peVar (p := p) ok h1) (pa_cons (peD hk) pa_nil (starOf hp)) rfl (by rw [starOf hp]; rfl) hl (starOf hp) rfl
  refine psImp (ps_asg pe (tgOk ok ks ht) (noSw2 rfl) (by cases tg <;> rfl) (ae1 ht)) fun D σ H h => ?_
  obtain ⟨ε, F, E, R, w, en⟩ := h
  obtain ⟨xs0, r, vs0, g1, g2, g3, g4, w⟩ := ownGo R w
  refine ⟨.ref r, g2, tyLst g3, ε, F, E.ex, _, R, w, en.toEx, fun i ε1 H1 F1 z s1 f1 R1 a1 q1 => ?_⟩
  cases i with
  | int n =>
    obtain ⟨xs, r', vs, k1, k2, k3, k4, ⟨q3, q4⟩, m, y, q5, q6, q7⟩ := ownGo R1 q1
    have er : r' = r := by
      rw [k2] at g2
      simpa using g2
    subst er
    cases dpInt a1
    rw [← daLen k4] at q5
    obtain ⟨v, v1, v2⟩ := daGet' k4 q6
    refine ⟨r', vs, n, m, v, rfl, rfl, k3, q3, q4, q5, v1, ?_⟩
    exact tgGo (R1.change k1 k2 (daErase m k4)) v2 q7 fun σ' ε2 R2 _ q2 => en.nx σ' ε2 _ F1 R2 q2
  | _ => exact q1.elim
theorem sExt (ok : Cok fns cls N C Φ k X sc b.W) {j : Nat} {x : Str} {e : IE} {v : Expr} {p p2 p3 pos : Pos} (h1 : (nmB N j x && visB sc x) = true) (h2 : plainE v = true) (hl : (p2.endLine == p3.line) = true)
    (he : PE X v (rdE X.K b (wE Φ e))) : PS X (.Expr (.Call (.Attribute (.Name x p) "extend" p2) [v] [] p3) pos) (rdS X.K b (wS Φ (.ext j e))) := by
  have pe := pe_bm (apos := p2) (cpos := p3) PySem.F.plainAttrs_list PySem.F.slot_list_extend PySem.F.type_list_extend mt_extend (peVar (p := p) ok h1) (pa_cons he pa_nil (starOf h2)) rfl (by rw [starOf h2]; rfl) hl (starOf h2) rfl
  refine psImp (ps_expr pe rfl) fun D σ H h => ?_
  obtain ⟨ε, F, E, R, w, en⟩ := h
  obtain ⟨xs0, r, vs0, g1, g2, g3, g4, w⟩ := ownGo R w
  refine ⟨.ref r, g2, tyLst g3, ε, F, E.ex, _, R, w, en.toEx, fun d ε1 H1 F1 z s1 f1 R1 a1 q1 => ?_⟩
  cases d with
  | own ys =>
    obtain ⟨xs, r', vs, k1, k2, k3, k4, q2, q3⟩ := ownGo R1 q1
    have er : r' = r := by
      rw [k2] at g2
      simpa using g2
    subst er
    obtain ⟨q, ws, rfl, b1, b2, b3, b4, b5⟩ := a1
    exact ⟨r', q, vs, ws, rfl, rfl, k3, b1, by rw [daLen k4, daLen b2, line24]; exact q2, en.nx _ _ _ F1 (R1.change k1 k2 (daApp k4 b2)) q3⟩
  | _ => exact q1.elim
/-- what x op= y makes -/
def rAug (K : PySem.W.Frag) (o : Operator) : TIp := fun x y H Q => ∃ F d e Qv, Dp K F x d ∧ Dp K F y e ∧ augW o d e Qv ∧ ∀ v z, Dp K F z v → Qv v → Q z H
theorem ipAug (o : Operator) : PIp X o (rAug X.K o) := by
  intro pins s σ H x y v u Q I rx ry ⟨F, d, e, Qv, hx, hy, w, k⟩
  cases o with
  | Add =>
    cases d with
    | int i =>
      cases e with
      | int j =>
        cases dpInt hx; cases dpInt hy
        exact ip_add pins s σ H _ _ v u Q I rx ry ⟨i, j, rfl, rfl, k _ _ (Dp.int _) w⟩
      | _ => exact w.elim
    | str i =>
      cases e with
      | str j =>
        cases dpStr hx; cases dpStr hy
        obtain ⟨t, rfl⟩ := rx
        obtain ⟨t', rfl⟩ := ry
        exact PyProof.Rows.iadd_str (fun t2 tk => ⟨.str (i ++ j), H, I.tok _, ⟨t2, rfl⟩, k _ _ (Dp.str _) w.2⟩) (by rw [line24]; exact w.1)
      | _ => exact w.elim
    | _ => exact w.elim
  | Sub =>
    cases d with
    | int i =>
      cases e with
      | int j =>
        cases dpInt hx; cases dpInt hy
        exact ip_sub pins s σ H _ _ v u Q I rx ry ⟨i, j, rfl, rfl, k _ _ (Dp.int _) w⟩
      | _ => exact w.elim
    | _ => exact w.elim
  | Mult =>
    cases d with
    | int i =>
      cases e with
      | int j =>
        cases dpInt hx; cases dpInt hy
        obtain ⟨t, rfl⟩ := rx
        obtain ⟨t', rfl⟩ := ry
        exact PyProof.Rows.imul_int ⟨.int _, H, I.tok _, ⟨_, rfl⟩, k _ _ (Dp.int _) w.2⟩ (mulOk_ok w.1)
      | _ => exact w.elim
    | _ => exact w.elim
  | _ => exact w.elim
theorem sAug (ok : Cok fns cls N C Φ k X sc b.W) (ks : Cks X) {j : Nat} {o : Operator} {x : Str} {e : IE} {v : Expr} {p pos : Pos} (h1 : nmB N j x = true) (h2 : locB sc x = true) (he : PE X v (rdE X.K b (wE Φ e))) :
    PS X (.AugAssign (.Name x p) o v pos) (rdS X.K b (wS Φ (.aug j o e))) := by
  obtain ⟨g1, _, _⟩ := nmB_of h1
  refine psImp (ps_aug ok.nd (by rw [ok.eN]; exact g1) (by rw [ok.esc]; exact locB_of h2) (peD he) (ipAug o) (.inl (ks.fn x))) fun D σ H ⟨ε, F, E, R, w, en⟩ => ?_
  obtain ⟨d0, e0, w⟩ := w
  obtain ⟨v0, a0, _⟩ := R.dat j d0 e0
  refine ⟨v0, a0, ε, F, E.ex, _, R, w, en.toEx, fun d ε' H' F' z s f R' a q => ?_⟩
  obtain ⟨d1, e1, q⟩ := q
  obtain ⟨v1, a1, b1⟩ := R'.dat j d1 e1
  rw [a0] at a1
  cases a1
  exact ⟨F', d1, d, _, b1, a, q, fun y z hz hy => en.nx _ _ H' F' (R'.store (x := .d y) hz j) hy⟩
theorem sClr (ok : Cok fns cls N C Φ k X sc b.W) {j : Nat} {x : Str} {p p2 p3 pos : Pos} (h1 : (nmB N j x && visB sc x) = true) (hl : (p2.endLine == p3.line) = true) :
    PS X (.Expr (.Call (.Attribute (.Name x p) "clear" p2) [] [] p3) pos) (rdS X.K b (wS Φ (.clr j))) := by
  have pe := pe_bm0 (apos := p2) (cpos := p3) PySem.F.plainAttrs_list PySem.F.slot_list_clear PySem.F.type_list_clear mt_clear (peVar (p := p) ok h1) rfl hl
  refine psImp (ps_expr pe rfl) fun D σ H h => ?_
  obtain ⟨ε, F, E, R, w, en⟩ := h
  obtain ⟨xs, r, vs, g1, g2, g3, g4, w2⟩ := ownGo R w
  exact ⟨.ref r, g2, tyLst g3, r, vs, rfl, rfl, g3, en.nx _ _ _ F (R.change g1 g2 .nil) w2⟩
/-- nobody's list is changed -/
theorem Rep.loose {K : PySem.W.Frag} {H0 : Zn} {F0 F H : Hp} {σ : St} {ε : Ev} (R : Rep K H0 F0 F H σ ε) {p : Addr} (o : HO) (h1 : F p = none) (h2 : H0.no p) (h3 : Off σ ε p) (nd : ∀ q o, H q = some o → (∀ vs, o ≠ .lst vs) → q ≠ p) : Rep K H0 F0 F (upd H p o) σ ε where
  fh := R.fh.upd h1
  ff := R.ff
  h0 := R.h0.upd h2.1
  fr := R.fr
  len := R.len
  dat := R.dat
  own := fun j xs h => by
    obtain ⟨q, vs, e, g1, g2, g3, g4⟩ := R.own j xs h
    have ne : q ≠ p := fun z => by subst z; exact h3 j xs h e
    exact ⟨q, vs, e, by rw [upd_ne ne]; exact g1, g2, g3, g4⟩
  uni := R.uni
  lnt := fun j xs h => by
    obtain ⟨q, vs, e, g1, g2, g3, g4⟩ := R.lnt j xs h
    have ne : q ≠ p := fun z => by subst z; exact h2.2 g4
    exact ⟨q, vs, e, by rw [upd_ne ne]; exact g1, g2, g3, g4⟩
  one := R.one
  ll := fun a h => by
    have ne : a ≠ p := fun z => by subst z; exact h2.2 h
    obtain ⟨⟨o, g1⟩, g2⟩ := R.ll a h
    exact ⟨⟨o, by rw [upd_ne ne]; exact g1⟩, g2⟩
  dcs := R.dcs.sub (fun i w h _ => ⟨h, rfl⟩) (.refl _) fun q o e n1 n2 f z _ => ⟨by rw [upd_ne (nd q o e n1)]; exact e, f, z⟩
theorem sClrE (ok : Cok fns cls N C Φ k X sc b.W) {e : IE} {f e1 : Expr} {es : List Expr} {kws : List Keyword} {fp p2 p3 pos : Pos} (hl : (p2.endLine == p3.line) = true) (he : PE X (.Call f (e1 :: es) kws fp) (rdE X.K b (wE Φ e))) :
    PS X (.Expr (.Call (.Attribute (.Call f (e1 :: es) kws fp) "clear" p2) [] [] p3) pos) (rdS X.K b (wS Φ (.clrE e))) := by
  have pe := pe_bm0 (apos := p2) (cpos := p3) PySem.F.plainAttrs_list PySem.F.slot_list_clear PySem.F.type_list_clear mt_clear he (by cases f <;> rfl) hl
  refine psImp (ps_expr pe rfl) fun D σ H h => ?_
  obtain ⟨ε, F, E, R, w, en⟩ := h
  refine ⟨ε, F, E.ex, _, R, w, en.toEx, fun v ε1 H1 F1 x s1 f1 R1 a1 q1 => ?_⟩
  cases v with
  | own xs =>
    obtain ⟨p, vs, rfl, b1, b2, b3, b4, b5⟩ := a1
    exact ⟨tyLst b1, p, vs, rfl, rfl, b1, en.nx _ _ _ F1 (R1.loose _ b3 b4 b5 fun q o e n1 z => n1 _ (by rw [z, b1] at e; exact (Option.some.inj e).symm)) q1⟩
  | _ => exact q1.elim
theorem setAll_other : ∀ {js : List Nat} {ds : List D} {ε : Ev} {j : Nat}, j ∉ js → gv (setAll js ds ε) j = gv ε j
  | [], _, _, _, _ => rfl
  | _ :: _, [], _, _, _ => rfl
  | i :: js, x :: xs, ε, j, h => by
    have e : setAll (i :: js) (x :: xs) ε = setAll js xs (pv ε i (some (.d x))) := rfl
    rw [e, setAll_other (fun z => h (List.mem_cons_of_mem _ z)), gv_pv, if_neg (fun z => h (by rw [z]; exact List.mem_cons_self ..))]
theorem sForP (ok : Cok fns cls N C Φ k X sc b.W) (ks : Cks X) {t : Tg} {j : Nat} {c e : IE} {tg ce v : Expr} {x : Str} {p p2 p3 pos : Pos} (h1 : (nmB N j x && visB sc x) = true) (hj : (tgs t).contains j = false) (hg : tgB (locB sc) N t tg = true)
    (hc : PT X ce (rdT X.K b (wE Φ c))) (he : PE X v (rdE X.K b (wE Φ e))) : PS X (.For tg (.Name x p) [.If ce [.Return (some v) p2] [] p3] [] pos) (rdS X.K b (wS Φ (.forP t j c e))) := by
  have hi : PI X tg (.Name x p) _ := pi_seq (peVar (p := p) ok h1)
  have bd : PSs X [.If ce [.Return (some v) p2] [] p3] _ := pss_one (ps_if hc (pss_one (ps_ret he)) pss_nil)
  refine psImp (ps_for ks.pas ok.calm hi (tgOk ok ks hg) bd (fun _ => noFold rfl)) fun D σ H ⟨ε, F, E, R, w, en⟩ => ?_
  obtain ⟨xs, r, vs, g1, g2, g3, g4, w⟩ := ownGo R w
  have hl := daLen g4
  have hjt : ∀ i ∈ tgs t, j ≠ i := fun i hi z => by
    rw [← z] at hi
    have := List.contains_iff_mem.mpr hi
    rw [hj] at this
    cases this
  refine ⟨.ref r, g2, r, vs, rfl, .inl ⟨.inl (.inl g3), ?_⟩⟩
  refine ⟨fun i m σ H => m = xs.length - i ∧ i ≤ xs.length ∧ σ[j]? = some (some (.ref r)) ∧ ∃ ε F, Rep X.K b.H0 b.F0 F H σ ε ∧ gv ε j = some (.own xs) ∧ forPW t j xs (fun ε1 k => wE Φ c ε1 E.ex (kB k)) (fun ε1 => wE Φ e ε1 E.ex (kV fun v _ => E.rt v)) E.nx (xs.drop i) ε, ⟨xs.length, by simp, Nat.zero_le _, g2, ε, F, R, g1, w⟩, ?_⟩
  rintro i m σ H ⟨rfl, hi, gs, ε, F, R, g1, wl⟩
  obtain ⟨r', vs', e1, e2, e3, e4, e5⟩ := R.own j xs g1
  have er : r' = r := by
    rw [gs] at e1
    simpa using e1.symm
  subst er
  have hl2 := daLen e3
  by_cases hlt : i < xs.length
  · refine .inr ⟨⟨vs', vs'[i]'(by omega), .inl (.inl e2), List.getElem?_eq_getElem (by omega)⟩, fun σ H => σ[j]? = some (some (.ref r')) ∧ ∃ ε F, Rep X.K b.H0 b.F0 F H σ ε ∧ gv ε j = some (.own xs) ∧ forPW t j xs (fun ε1 k => wE Φ c ε1 E.ex (kB k)) (fun ε1 => wE Φ e ε1 E.ex (kV fun v _ => E.rt v)) E.nx (xs.drop (i + 1)) ε,
      fun σ' H' q => ⟨xs.length - (i + 1), by omega, rfl, hlt, q⟩, fun v H2 y => ?_⟩
    obtain ⟨rfl, y⟩ := y
    obtain ⟨z, k1, k2⟩ := daGet e3 (y vs' (.inl (.inl e2)))
    have ed : xs.drop i = z :: xs.drop (i + 1) := by
      rw [List.drop_eq_getElem_cons hlt]
      rw [List.getElem?_eq_getElem hlt] at k1
      rw [Option.some.inj k1]
    rw [ed] at wl
    refine tgGo R k2 wl fun σ' ε2 R2 st q2 => ?_
    have gs2 : σ'[j]? = some (some (.ref r')) := by
      have w1 := wipe_get (σ := σ') (vs := tgs t) (i := j)
      have w2 := wipe_get (σ := σ) (vs := tgs t) (i := j)
      rw [if_neg (fun z => hjt j z rfl)] at w1 w2
      rw [← w1, st, w2]
      exact gs
    refine ⟨ε2, F, E.ex, _, R2, q2, en.toEx, fun d ε' H' F' s f R' q => ?_⟩
    cases d with
    | true =>
      have q' : wE Φ e ε' E.ex (kV fun v _ => E.rt v) := q
      refine ⟨ε', F', E.ex, _, R', q', en.toEx, fun v ε3 H3 F3 x s3 f3 R3 a3 q3 => ?_⟩
      cases v with
      | d y => exact en.rt _ σ' ε3 H3 F3 x R3 a3 q3
      | own ys => exact en.rt _ σ' ε3 H3 F3 x R3 a3 q3
      | _ => exact q3.elim
    | false =>
      have q' : gv ε' j = some (.own xs) ∧ forPW t j xs (fun ε1 k => wE Φ c ε1 E.ex (kB k)) (fun ε1 => wE Φ e ε1 E.ex (kV fun v _ => E.rt v)) E.nx (xs.drop (i + 1)) ε' := q
      exact ⟨gs2, ε', F', R', q'.1, q'.2⟩
  · have e : i = xs.length := by omega
    subst e
    rw [List.drop_length] at wl
    exact .inl ⟨⟨vs', .inl (.inl e2), by omega⟩, en.nx σ ε H F R wl⟩
end
end Rc

/-! Statements about a list that is lent; targets within targets. -/
namespace Rc
open PySem PySem.Spec PyProof.Rows L2
/-- one more list is lent -/
def Zn.add (Z : Zn) (p : Addr) : Zn := ⟨Z.h, fun a => Z.l a ∨ a = p⟩
/-- a frame's own list is lent from here on -/
theorem Rep.lend {K : PySem.W.Frag} {H0 : Zn} {F0 F H : Hp} {σ : St} {ε : Ev} (R : Rep K H0 F0 F H σ ε) {j : Nat} {xs : List D} {p : Addr} (h : gv ε j = some (.own xs)) (e : σ[j]? = some (some (.ref p))) :
    Rep K (H0.add p) F0 F H σ (pv ε j (some (.lent xs))) := by
  obtain ⟨p', vs, e', h1, h2, h3, h4⟩ := R.own j xs h
  have : p' = p := by rw [e'] at e; simpa using e
  subst this
  refine ⟨R.fh, R.ff, fun a o n q => R.h0 a o (fun z => n (.inl z)) q, R.fr, by rw [pv_len]; exact R.len, fun i y q => ?_, fun i zs q => ?_, fun i k as bs r a b ea eb => ?_, fun i zs q => ?_, fun i k as bs r a b ea eb => ?_, fun a q => ?_,
    R.dcs.sub (fun i v h c => ⟨(dcGv (fun _ z => by cases z; rfl) i v h c).1, rfl⟩) (.refl _) fun q o e n1 _ f z _ => ⟨e, f, z.1, fun w => w.elim z.2 fun w => n1 vs (by rw [w, h1] at e; exact (Option.some.inj e).symm)⟩⟩
  · rw [gv_pv] at q
    split at q
    · split at q <;> cases q
    · exact R.dat i y q
  · rw [gv_pv] at q
    split at q
    · split at q <;> cases q
    · rename_i hi
      obtain ⟨r, us, g1, g2, g3, g4, g5⟩ := R.own i zs q
      exact ⟨r, us, g1, g2, g3, g4, g5.1, fun z => z.elim g5.2 fun z => hi (R.uni i j zs xs r q h g1 (by rw [z]; exact e))⟩
  · rw [gv_pv] at a b
    split at a
    · split at a <;> cases a
    · split at b
      · split at b <;> cases b
      · exact R.uni i k as bs r a b ea eb
  · rw [gv_pv] at q
    split at q
    · rename_i hi
      subst hi
      split at q
      · cases q; exact ⟨p', vs, e, h1, h2, h3, .inr rfl⟩
      · cases q
    · obtain ⟨r, us, g1, g2, g3, g4, g5⟩ := R.lnt i zs q
      exact ⟨r, us, g1, g2, g3, g4, .inl g5⟩
  · rw [gv_pv] at a b
    split at a
    · rename_i hi
      subst hi
      split at b
      · rename_i hk; exact hk.symm
      · obtain ⟨r', us, g1, g2, g3, g4, g5⟩ := R.lnt k bs b
        rw [eb] at g1
        rw [ea] at e
        exact absurd (by have x1 : r = r' := by simpa using g1
                         have x2 : r = p' := by simpa using e
                         rw [← x2, x1]; exact g5) h4.2
    · split at b
      · rename_i hk
        subst hk
        obtain ⟨r', us, g1, g2, g3, g4, g5⟩ := R.lnt i as a
        rw [ea] at g1
        rw [eb] at e
        exact absurd (by have x1 : r = r' := by simpa using g1
                         have x2 : r = p' := by simpa using e
                         rw [← x2, x1]; exact g5) h4.2
      · exact R.one i k as bs r a b ea eb
  · rcases q with q | q
    · exact R.ll a q
    · subst q
      exact ⟨⟨_, h1⟩, h3⟩
theorem gv_unlend : ∀ (ε : Ev) (i : Nat) (v : Val), gv (unlend ε) i = some v → gv ε i = some v ∧ ∀ xs, v ≠ .lent xs
  | [], i, v, h => by
    have h : gv [] i = some v := h
    cases i <;> cases h
  | o :: r, 0, v, h => by
    cases o with
    | none => cases h
    | some w =>
      cases w with
      | lent _ => cases h
      | _ =>
        refine ⟨h, fun xs e => ?_⟩
        subst e
        cases h
  | o :: r, i + 1, v, h => by
    have h' : gv (unlend r) i = some v := by
      cases o with
      | none => exact h
      | some w => cases w <;> exact h
    exact gv_unlend r i v h'
theorem unlend_len : ∀ ε : Ev, (unlend ε).length = ε.length
  | [] => rfl
  | o :: r => by
    cases o with
    | none => show (unlend r).length + 1 = _; rw [unlend_len r]; rfl
    | some w => cases w <;> (show (unlend r).length + 1 = _; rw [unlend_len r]; rfl)
/-- and taken back -/
theorem Rep.back {K : PySem.W.Frag} {H0 : Zn} {F0 F H : Hp} {σ : St} {ε : Ev} {p : Addr} (R : Rep K (H0.add p) F0 F H σ ε) (np : H0.h p = none) : Rep K H0 F0 F H σ (unlend ε) := by
  refine ⟨R.fh, R.ff, fun a o n q => R.h0 a o (fun z => ?_) q, R.fr, by rw [unlend_len]; exact R.len, fun i y q => R.dat i y (gv_unlend ε i _ q).1, fun i zs q => ?_, fun i k as bs r a b => R.uni i k as bs r (gv_unlend ε i _ a).1 (gv_unlend ε k _ b).1, fun i zs q => absurd rfl ((gv_unlend ε i _ q).2 zs), fun i k as bs r a => absurd rfl ((gv_unlend ε i _ a).2 as), fun a q => R.ll a (.inl q),
    R.dcs.sub (fun i v h c => ⟨(gv_unlend ε i _ h).1, rfl⟩) (.refl _) fun q o e n1 _ f z _ => ⟨e, f, z.1, fun w => z.2 (.inl w)⟩⟩
  · rcases z with z | z
    · exact n z
    · subst z
      rw [np] at q; cases q
  · obtain ⟨r, us, g1, g2, g3, g4, g5⟩ := R.own i zs (gv_unlend ε i _ q).1
    exact ⟨r, us, g1, g2, g3, g4, g5.1, fun z => g5.2 (.inl z)⟩
section
variable {fns : List FnI} {cls : List Str} {N : List Str} {C : Nat → Addr} {Φ : Fs} {k : Nat} {X : Cx} {b : Bd} {sc : Scope}
theorem sLset (ok : Cok fns cls N C Φ k X sc b.W) {j n : Nat} {x : Str} {e : IE} {v : Expr} {p p2 p3 pos : Pos} {m : Nat} (h1 : (nmB N j x && visB sc x) = true) (h3 : noComp v = true)
    (he : PE X v (rdE X.K b (wE Φ e))) : PS X (.Assign [.Subscript (.Name x p) (.Constant (.int (n : Int)) m p3) p2] v pos) (rdS X.K b (wS Φ (.lset j n e))) := by
  have hz : PE X (.Constant (.int (n : Int)) m p3) (rdE X.K b (wE Φ (.cst (.int (n : Int))))) := eCst (by show ((n : Int) == (n : Int)) = true; exact beq_self_eq_true _)
  have pg := pg_sub (pos := p2) (peVar (p := p) ok h1) (peD hz) set_list (by intro w; rfl)
  refine psImp (ps_asg (peD he) pg (noSw2 h3) rfl rfl) fun D σ H h => ?_
  obtain ⟨ε, F, E, R, w, en⟩ := h
  refine ⟨ε, F, E.ex, _, R, w, en.toEx, fun d ε1 H1 F1 z s1 f1 R1 a1 q1 => ?_⟩
  obtain ⟨xs, r, vs, g1, g2, g3, g4, g5, g6, hn, q1⟩ := lentGo R1 q1
  refine ⟨.ref r, g2, ε1, F1, E.ex, fun d e => d = .int n ∧ e = ε1, R1, ⟨rfl, rfl⟩, en.toEx, fun i ε2 H2 F2 y s2 f2 R2 a2 q2 => ?_⟩
  obtain ⟨rfl, rfl⟩ := q2
  obtain ⟨r', us, k2, k3, k4, k5, k6⟩ := R2.lnt j _ g1
  obtain rfl := refEq k2 g2
  refine ⟨r', us, n, n, rfl, dpInt a2, k3, ?_, ?_⟩
  · rw [daLen k4]
    unfold L2.ixN
    simp only [show ¬ ((n : Int) < 0) by omega, if_false, show (0 : Int) ≤ n by omega, show (n : Int) < xs.length by omega, and_self, if_true]
    simp
  · exact en.nx _ _ _ F2 (R2.lentTo g1 k2 (fun a o ne q => by rw [upd_ne ne]; exact q) (.refl F2) (R2.fh.upd k5) .refl upd_same (daSet (dpSub f2 a1) n k4) k5) q1
theorem sLcL (ok : Cok fns cls N C Φ k X sc b.W) (hC : b.C = C) (ks : Cks X) {j l : Nat} {y : Str} {t : Tg} {itE eE : IE}
    {tg iter e : Expr} {scope : Scope} {p py spos : Pos} (hj : nmB N j y = true) (hs : swB sc y py.line (.ListComp e [⟨tg, iter, [], 0⟩] scope p) = true)
    (h1 : isIt itE = true) (h2 : chk fns N itE sc [iter, tg] = true) (h3 : tgB (blB scope sc) N t tg = true) (h4 : blkC N sc scope (tgOwn t tg) = true)
    (hl0 : (tgs t).contains l = false) (h6 : chk fns N eE (relS scope sc) [e] = true) (h7 : plainE iter = true) :
    PS X (.Assign [.Name y py] (.ListComp e [⟨tg, iter, [], 0⟩] scope p) spos) (rdS X.K b (wS Φ (.asg j (.lcL t itE eE l)))) := by
  obtain ⟨q1, q2, q3, q4, q5⟩ := lclParts ok hC (snAll itE) (snAll eE) h1 h2 h3 h4 h6
  obtain ⟨g1, _, _⟩ := nmB_of hj
  have hs' : (lclB sc y && (py.line == p.line) && !(scope.names.any fun (n, k) => n == y && (k == .local || k == .cell))) = true := hs
  simp only [Bool.and_eq_true, Bool.not_eq_true'] at hs'
  obtain ⟨⟨s1, s2⟩, s3⟩ := hs'
  have hl : X.env.scope.names.lookup y = some .local := by rw [ok.esc]; exact lclB_of s1
  have hk := ks.kind
  refine psImp (ps_setLc ok.calm ok.nd (by rw [ok.eN]; exact g1) hl (sw_true hk hl s2 s3) q1 q2 q3 q4 q5 (fun x => noFold h7)) fun D σ H h => ?_
  rw [tgOwn_ix h3]
  refine lclGo (rdGo h fun ε F E R en v ε' H' F' z s f R' a q => ?_) (fun z => by rw [List.contains_iff_mem.mpr z] at hl0; cases hl0)
  cases v with
  | d y => exact en.nx _ _ H' F' (R'.store a j) q
  | own ys => exact en.nx _ _ H' F' (R'.store a j) q
  | _ => exact q.elim
theorem sLcK (ok : Cok fns cls N C Φ k X sc b.W) (hC : b.C = C) (ks : Cks X) {j l : Nat} {y : Str} {t : Tg} {itE eE : IE}
    {tg iter e : Expr} {scope : Scope} {p py spos : Pos} (hj : nmB N j y = true) (hs : swB sc y py.line (.ListComp e [⟨tg, iter, [], 0⟩] scope p) = true)
    (h1 : isIt itE = true) (h2 : chk fns N itE sc [iter, tg] = true) (h3 : tgB (blB scope sc) N t tg = true) (h4 : blkC N sc scope (tgOwn t tg) = true)
    (hl0 : (tgs t).contains l = false) (h6 : chk fns N eE (relS scope sc) [e] = true) (h7 : plainE iter = true) :
    PS X (.Assign [.Name y py] (.ListComp e [⟨tg, iter, [], 0⟩] scope p) spos) (rdS X.K b (wS Φ (.asg j (.lcK t itE eE l)))) := by
  obtain ⟨q1, q2, q3, q4, q5⟩ := lclParts ok hC (snAll itE) (snAll eE) h1 h2 h3 h4 h6
  obtain ⟨g1, _, _⟩ := nmB_of hj
  have hs' : (lclB sc y && (py.line == p.line) && !(scope.names.any fun (n, k) => n == y && (k == .local || k == .cell))) = true := hs
  simp only [Bool.and_eq_true, Bool.not_eq_true'] at hs'
  obtain ⟨⟨s1, s2⟩, s3⟩ := hs'
  have hl : X.env.scope.names.lookup y = some .local := by rw [ok.esc]; exact lclB_of s1
  have hk := ks.kind
  refine psImp (ps_setLc ok.calm ok.nd (by rw [ok.eN]; exact g1) hl (sw_true hk hl s2 s3) q1 q2 q3 q4 q5 (fun x => noFold h7)) fun D σ H h => ?_
  rw [tgOwn_ix h3]
  refine lckGo (rdGo h fun ε F E R en v ε' H' F' z s f R' a q => ?_) (fun z => by rw [List.contains_iff_mem.mpr z] at hl0; cases hl0)
  cases v with
  | d y => exact en.nx _ _ H' F' (R'.store a j) q
  | own ys => exact en.nx _ _ H' F' (R'.store a j) q
  | _ => exact q.elim
theorem sAsgN (ok : Cok fns cls N C Φ k X sc b.W) (ks : Cks X) {t : Tg} {es : List Expr} {e : IE} {v : Expr} {n : Nat} {p pos : Pos} (h1 : tgB (locB sc) N t (.Tuple es n p) = true) (h2 : notTup v = true) (h3 : noComp v = true) (he : PE X v (rdE X.K b (wE Φ e))) :
    PS X (.Assign [.Tuple es n p] v pos) (rdS X.K b (wS Φ (.asgN t e))) := by
  refine psImp (ps_asg (peD he) (tgOk ok ks h1) (noSw2 h3) (swN h2) rfl) fun D σ H h => ?_
  obtain ⟨ε, F, E, R, w, en⟩ := h
  exact ⟨ε, F, E.ex, _, R, w, en.toEx, fun d ε' H' F' z s f R' a q => tgGo R' a q fun σ' ε2 R2 _ q2 => en.nx σ' ε2 H' F' R2 q2⟩
theorem sRetL {e : IE} {v : Expr} {pos : Pos} (he : PE X v (rdE X.K b (wE Φ e))) : PS X (.Return (some v) pos) (rdS X.K b (wS Φ (.retL e))) := by
  refine psImp (ps_ret he) fun D σ H ⟨ε, F, E, R, w, en⟩ => ⟨ε, F, E.ex, _, R, w, en.toEx, fun v ε' H' F' z s f R' a q => ?_⟩
  cases v with
  | d y =>
    obtain ⟨xs, r, vs, g1, g2, g3, g4, g5, g6, q⟩ := lentGo R' q
    exact en.rt (.two y xs) σ ε' H' F' z R' ⟨a, r, vs, g3, g4, g5, g6⟩ q
  | own ys =>
    obtain ⟨xs, r, vs, g1, g2, g3, g4, g5, g6, q⟩ := lentGo R' q
    obtain ⟨p', us, e', h1, h2, h3, h4, _⟩ := a
    exact en.rt (.twoO ys xs) σ ε' H' F' z R' ⟨⟨p', us, e', h1, h2, h3, h4⟩, r, vs, g3, g4, g5, g6⟩ q
  | _ => exact q.elim
/-- the ends of what is done with a list that is lent -/
theorem EnOk.lend {b : Bd} {K : PySem.W.Frag} {E : En} {D : Ends} (h : EnOk K b E D) {p : Addr} (np : b.H0.h p = none) :
    EnOk K { b with H0 := b.H0.add p } { nx := fun e => E.nx (unlend e), rt := fun v => noTwo v = true ∧ E.rt v, bk := fun e => E.bk (unlend e), ct := fun e => E.ct (unlend e), ex := fun c e => E.ex c (unlend e) } D where
  nx := fun σ ε H F R q => h.nx σ _ H F (R.back np) q
  rt := fun v σ ε H F x R a q => by
    refine h.rt v σ _ H F x (R.back np) ?_ q.2
    cases v with
    | d y => exact a
    | own ys =>
      obtain ⟨r, vs, e, g1, g2, g3, g4, g5⟩ := a
      exact ⟨r, vs, e, g1, g2, g3, ⟨g4.1, fun z => g4.2 (.inl z)⟩, fun i zs q z => g5 i zs (gv_unlend ε i _ q).1 z⟩
    | two y ys => exact absurd q.1 Bool.false_ne_true
    | twoO y ys => exact absurd q.1 Bool.false_ne_true
    | many _ => exact a
    | exc _ => exact a
    | lent _ => exact a
    | dI _ => exact a
    | dT _ => exact a
  bk := fun σ ε H F R q => h.bk σ _ H F (R.back np) q
  ct := fun σ ε H F R q => h.ct σ _ H F (R.back np) q
  ex := fun c σ ε H F R q => h.ex c σ _ H F (R.back np) q
end
/-! ### dicts -/
/-- {}, its keys to be tuples of whole numbers -/
def tDNewX : TE := fun _ H Q => ∀ p, H p = none → Q (.ref p) (upd H p (.ext (TbAt p [])))
theorem pe_dnewX {X : Cx} {pos : Pos} : PE X (.Dict [] [] pos) tDNewX := ⟨fun pins s σ H Q I h =>
  wpAny_Dict_empty ⟨.ref s.heap.objs.size, _, I.laid (a := s.heap.objs.size) (o := .ext (TbAt s.heap.objs.size [])) (t' := s.toks) (fun _ _ q => Heap.get?_push_of_some _ q) (Nat.le_refl _)
    ⟨⟨_, #[], 0, Heap.get?_push_size _ rfl, ⟨rfl, rfl, rfl⟩, rfl, rfl, List.nodup_nil, Nat.zero_le _, beq_eq_false_iff_ne.mpr (Ne.symm (Nat.ne_of_lt I.big))⟩, ⟨_, Heap.get?_push_size _ rfl⟩, fun h1 h2 φ st => by
      obtain ⟨o, es, ep, ho, r⟩ := φ
      exact ⟨o, es, ep, st o ho, r⟩⟩, rfl, h _ (I.hok.fresh (Nat.le_refl _))⟩⟩
def sGPut (K : PySem.W.Frag) (td ty tv : TE) : TS := fun D σ H => tv σ H fun v H1 => td σ H1 fun x H2 => ty σ H2 fun y H3 => ∃ a F u d dz, ∃ G : Val → Prop, x = .ref a ∧ Sub F H3 ∧ DcAt K F H3 a u ∧ Dp K F y d ∧ Dp K F v dz ∧ dPutW u d dz G ∧
  ∀ v' o, G v' → isDc v' = true → DcAt K F (upd H3 a o) a v' → D.nx σ (upd H3 a o)
theorem ps_gput {X : Cx} {o i value : Expr} {pos pos' : Pos} {td ty tv : TE} (hu : X.A.units + 1 < cLine) (ho : PE X o td) (hi : PE X i ty) (hv : PE X value tv) (hs : swapsWith value (some (.Subscript o i pos')) pos.line X.env = pure false) :
    PS X (.Assign [.Subscript o i pos'] value pos) (sGPut X.K td ty tv) := by
  refine ⟨fun pins s σ H D I h => ?_⟩
  refine wpAny_Assign_Subscript (thn (hv.run pins s σ H _ I h) fun r s1 ⟨v, H1, I1, rv, q1⟩ => thn (ho.run pins s1 σ H1 _ I1 q1) fun u s2 ⟨x, H2, I2, rx, q2⟩ => thn (hi.run pins s2 σ H2 _ I2 q2) fun iv s3 ⟨y, H3, I3, ry, a, F, u', d, dz, G, ex, sb, da, dy, dv, w, q3⟩ => ?_) hs
  subst ex
  obtain rfl : u = Value.ref a := rx
  exact gt_put hu I3 sb da dy dv w ry rv fun v' o s4 g c dd I4 => ⟨σ, _, I4, q3 v' o g c dd⟩
section
variable {fns : List FnI} {cls : List Str} {N : List Str} {C : Nat → Addr} {Φ : Fs} {k : Nat} {X : Cx} {b : Bd} {sc : Scope}
theorem sDnew (ok : Cok fns cls N C Φ k X sc b.W) (ks : Cks X) {j : Nat} {t : Bool} {x : Str} {p p2 pos : Pos} (h1 : nmB N j x = true) (h2 : locB sc x = true) : PS X (.Assign [.Name x p] (.Dict [] [] p2) pos) (rdS X.K b (wS Φ (.dnew j t))) := by
  obtain ⟨g1, _, _⟩ := nmB_of h1
  cases t with
  | true =>
    refine psImp (ps_set ok.nd (by rw [ok.eN]; exact g1) (by rw [ok.esc]; exact locB_of h2) pe_dnewX (noSw rfl) (.inl (ks.fn x))) fun D σ H ⟨ε, F, E, R, w, en⟩ => ?_
    exact fun r hr => en.nx _ _ _ F (R.dcNew (v := .dT []) rfl hr ⟨[], upd_same, .nil⟩) w
  | false =>
    refine psImp (ps_set ok.nd (by rw [ok.eN]; exact g1) (by rw [ok.esc]; exact locB_of h2) pe_dnewK (noSw rfl) (.inl (ks.fn x))) fun D σ H ⟨ε, F, E, R, w, en⟩ => ?_
    exact fun r hr => en.nx _ _ _ F (R.dcNew (v := .dI []) rfl hr ⟨[], upd_same, .nil⟩) w
theorem sDset (ok : Cok fns cls N C Φ k X sc b.W) {j : Nat} {x : Str} {ki ei : IE} {ke v : Expr} {p p2 pos : Pos} (h1 : (nmB N j x && visB sc x) = true) (h3 : noComp v = true)
    (he : PE X v (rdE X.K b (wE Φ ei))) (hk : PE X ke (rdE X.K b (wE Φ ki))) : PS X (.Assign [.Subscript (.Name x p) ke p2] v pos) (rdS X.K b (wS Φ (.dset j ki ei))) := by
  refine psImp (ps_gput (by have := ok.room.un; omega) (peVar (p := p) ok h1) (peD hk) (peD he) (noSw h3)) fun D σ H ⟨ε, F, E, R, w, en⟩ => ?_
  refine ⟨ε, F, E.ex, _, R, w, en.toEx, fun d1 ε1 H1 F1 z1 s1 f1 R1 a1 q1 => ?_⟩
  obtain ⟨v0, r, g0, gd, g2, g3, g5, g6, q1⟩ := dictGo R1 q1
  refine ⟨.ref r, g2, ε1, F1, E.ex, _, R1, q1, en.toEx, fun d2 ε2 H2 F2 z2 s2 f2 R2 a2 q2 => ?_⟩
  obtain ⟨u, r', k0, kd, k2, k3, k5, k6, q2⟩ := dictGo R2 q2
  obtain rfl := refEq k2 g2
  refine ⟨r', F2, u, d2, d1, _, rfl, R2.fh, k3, a2, dpSub f2 a1, q2, fun v' o g c dd => ?_⟩
  exact en.nx _ _ _ F2 (R2.dcPut k0 kd k2 c dd) g
end
end Rc

/-! All statements; a def; all defs. -/
namespace Rc
open PySem PySem.Spec PyProof.Rows L2
section
variable {fns : List FnI} {cls : List Str} {N : List Str} {C : Nat → Addr} {Φ : Fs} {k : Nat} {X : Cx} {b : Bd} {sc : Scope}
theorem sPar (ok : Cok fns cls N C Φ k X sc b.W) (ks : Cks X) {i j : Nat} {a c : IE} {x y : Str} {ea ec : Expr} {px py pt pt2 pos : Pos} {kt k2 : Nat} (h1 : nmB N i x = true) (h2 : nmB N j y = true) (hij : i ≠ j)
    (hp : parB sc [(x, px), (y, py)] [ea, ec] = true) (p1 : plainE ea = true) (p2 : plainE ec = true) (he : PE X ea (rdE X.K b (wE Φ a))) (hc : PE X ec (rdE X.K b (wE Φ c))) :
    PS X (.Assign [.Tuple [.Name x px, .Name y py] kt pt] (.Tuple [ea, ec] k2 pt2) pos) (rdS X.K b (wS Φ (.par i j a c))) := by
  obtain ⟨g1, _, _⟩ := nmB_of h1
  obtain ⟨g2, _, _⟩ := nmB_of h2
  rw [← ok.eN] at g1 g2
  have hxy : x ≠ y := fun e => hij (nodup_ix ok.nd g1 (e ▸ g2))
  have hl : lclB sc x = true ∧ lclB sc y = true := by
    have q := hp
    unfold parB at q
    simp only [List.all_cons, List.all_nil, Bool.and_true, Bool.and_eq_true] at q
    exact ⟨q.1.1.1.1.1, q.1.1.1.2.1⟩
  have ha : PA X [ea, ec] (tCons (rdD X.K b (wE Φ a)) (tCons (rdD X.K b (wE Φ c)) tNil)) := pa_cons (peD he) (pa_cons (peD hc) pa_nil (starOf p2)) (starOf p1)
  refine psImp (ps_par ok.calm ok.nd g1 g2 hij (by rw [ok.esc]; exact lclB_of hl.1) (by rw [ok.esc]; exact lclB_of hl.2) ha (parSwap ok.esc ks.kind hxy hp)) fun D σ H ⟨ε, F, E, R, w, en⟩ => ?_
  refine ⟨ε, F, E.ex, _, R, w, en.toEx, fun d ε1 H1 F1 u s1 f1 R1 a1 q1 => ⟨ε1, F1, E.ex, _, R1, q1, en.toEx, fun e ε2 H2 F2 v s2 f2 R2 a2 q2 => ⟨u, v, rfl, ?_⟩⟩⟩
  exact en.nx _ _ H2 F2 ((R2.store (x := .d d) (dpSub f2 a1) i).store (x := .d e) a2 j) q2
/-- statements hold what they mean -/
theorem snS (i : IS) : ∀ (b : Bd) (X : Cx) (sc : Scope), b.C = C → Cok fns cls N C Φ k X sc b.W → Cks X →
    (isSq i = false → ∀ st, chkS fns cls N i sc [st] = true → PS X st (rdS X.K b (wS Φ i))) ∧
    (isSq i = true → ∀ sts, chkS fns cls N i sc sts = true → PSs X sts (rdS X.K b (wS Φ i))) := by
  induction i with
  | nil =>
    refine fun b X sc hC ok ks => ⟨fun h => absurd h.symm Bool.false_ne_true, fun _ sts hc => ?_⟩
    cases sts with
    | cons _ _ => exact absurd hc Bool.false_ne_true
    | nil => exact pssImp pss_nil fun D σ H ⟨ε, F, E, R, w, en⟩ => en.nx σ ε H F R w
  | seq s r ih1 ih2 =>
    refine fun b X sc hC ok ks => ⟨fun h => absurd h.symm Bool.false_ne_true, fun _ sts hc => ?_⟩
    cases sts with
    | nil => exact absurd hc Bool.false_ne_true
    | cons st sts =>
      have h : (!isSq s && chkS fns cls N s sc [st] && isSq r && chkS fns cls N r sc sts) = true := hc
      simp only [Bool.and_eq_true, Bool.not_eq_true'] at h
      obtain ⟨⟨⟨h1, h2⟩, h3⟩, h4⟩ := h
      exact pssImp (pss_cons ((ih1 b X sc hC ok ks).1 h1 st h2) ((ih2 b X sc hC ok ks).2 h3 sts h4)) fun D σ H ⟨ε, F, E, R, w, en⟩ =>
        ⟨ε, F, _, R, w, en.nx' fun σ ε H F R q => ⟨ε, F, E, R, q, en⟩⟩
  | still j r ih =>
    refine fun b X sc hC ok ks => ⟨fun h => absurd h.symm Bool.false_ne_true, fun _ sts hc => ?_⟩
    have h : (isSq r && chkS fns cls N r sc sts) = true := hc
    rw [Bool.and_eq_true] at h
    refine pssImp ((ih b X sc hC ok ks).2 h.1 sts h.2) fun D σ H ⟨ε, F, E, R, w, en⟩ => ?_
    have w' : wE Φ (.var j) ε (fun _ _ => False) (fun _ ε1 => wS Φ r ε1 E) := w
    unfold wE at w'
    split at w'
    · exact ⟨ε, F, E, R, w', en⟩
    · rename_i ys hy
      obtain ⟨v, F', e1, f1, R1, d1⟩ := R.still hy
      exact ⟨_, F', E, R1, w', en⟩
    · exact w'.elim
  | asg j e =>
    refine fun b X sc hC ok ks => ⟨fun _ st hc => ?_, fun h => absurd h Bool.false_ne_true⟩
    cases st with
    | Assign tgs v pos =>
      cases tgs with
      | nil => exact absurd hc Bool.false_ne_true
      | cons t tgs =>
        cases t with
        | Name x p =>
          cases tgs with
          | cons _ _ => exact absurd hc Bool.false_ne_true
          | nil =>
            have h : (nmB N j x && locB sc x && (if isLC v then (swB sc x p.line v || cellB sc x) && !isDl e else noComp v) && chk fns N e sc [v]) = true := hc
            simp only [Bool.and_eq_true] at h
            obtain ⟨⟨⟨h1, h2⟩, h3⟩, h4⟩ := h
            by_cases hl : isLC v = true
            · rw [if_pos hl, Bool.and_eq_true] at h3
              obtain ⟨h3, hdl⟩ := h3
              by_cases hce : cellB sc x = true
              · exact sAsgC ok ks h1 h2 hce hl ((snAll e).e b X sc hC ok v h4)
              rw [Bool.not_eq_true] at hce
              rw [hce, Bool.or_false] at h3
              cases v with
              | ListComp e' gs scope p' =>
                cases e with
                | lc t it c elt =>
                  cases gs with
                  | nil => exact absurd h4 Bool.false_ne_true
                  | cons g gs =>
                    obtain ⟨tg, iter, ifs, as⟩ := g
                    cases gs with
                    | cons _ _ => exact absurd h4 Bool.false_ne_true
                    | nil =>
                      have h : (decide (as = 0) && plainE iter && isIt it && chk fns N it sc [iter, tg] && tgB (blB scope sc) N t tg && blkC N sc scope (tgOwn t tg) && ifsB (isNil c) ifs (fun f => chk fns N c (relS scope sc) [f]) && chk fns N elt (relS scope sc) [e']) = true := h4
                      simp only [Bool.and_eq_true, decide_eq_true_eq] at h
                      obtain ⟨⟨⟨⟨⟨⟨⟨rfl, g1⟩, g2⟩, g3⟩, g4⟩, g5⟩, g6⟩, g7⟩ := h
                      exact sLc ok hC ks h1 h3 g2 g3 g4 g5 g6 g7 g1
                | lcL t it elt l =>
                  rcases gs with _ | ⟨⟨tg, iter, ifs, as⟩, _ | ⟨_, _⟩⟩
                  · exact absurd h4 Bool.false_ne_true
                  · cases ifs with
                    | cons _ _ => exact absurd h4 Bool.false_ne_true
                    | nil =>
                      have h : (decide (as = 0) && plainE iter && isIt it && chk fns N it sc [iter, tg] && tgB (blB scope sc) N t tg && blkC N sc scope (tgOwn t tg) && !(tgs t).contains l && chk fns N elt (relS scope sc) [e']) = true := h4
                      simp only [Bool.and_eq_true, decide_eq_true_eq, Bool.not_eq_true'] at h
                      obtain ⟨⟨⟨⟨⟨⟨⟨rfl, g1⟩, g2⟩, g3⟩, g4⟩, g5⟩, g6⟩, g7⟩ := h
                      exact sLcL ok hC ks h1 h3 g2 g3 g4 g5 g6 g7 g1
                  · exact absurd h4 (by cases ifs <;> exact Bool.false_ne_true)
                | lcK t it elt l =>
                  rcases gs with _ | ⟨⟨tg, iter, ifs, as⟩, _ | ⟨_, _⟩⟩
                  · exact absurd h4 Bool.false_ne_true
                  · cases ifs with
                    | cons _ _ => exact absurd h4 Bool.false_ne_true
                    | nil =>
                      have h : (decide (as = 0) && plainE iter && isIt it && chk fns N it sc [iter, tg] && tgB (blB scope sc) N t tg && blkC N sc scope (tgOwn t tg) && !(tgs t).contains l && chk fns N elt (relS scope sc) [e']) = true := h4
                      simp only [Bool.and_eq_true, decide_eq_true_eq, Bool.not_eq_true'] at h
                      obtain ⟨⟨⟨⟨⟨⟨⟨rfl, g1⟩, g2⟩, g3⟩, g4⟩, g5⟩, g6⟩, g7⟩ := h
                      exact sLcK ok hC ks h1 h3 g2 g3 g4 g5 g6 g7 g1
                  · exact absurd h4 (by cases ifs <;> exact Bool.false_ne_true)
                | dlc _ _ _ _ => exact absurd hdl Bool.false_ne_true
                | lcD _ _ _ _ _ => exact absurd hdl Bool.false_ne_true
                | _ => exact absurd h4 Bool.false_ne_true
              | _ => exact absurd hl Bool.false_ne_true
            · rw [if_neg hl] at h3
              exact sAsg ok ks h1 h2 h3 ((snAll e).e b X sc hC ok v h4)
        | _ => exact absurd hc Bool.false_ne_true
    | _ => exact absurd hc Bool.false_ne_true
  | asgT js e =>
    refine fun b X sc hC ok ks => ⟨fun _ st hc => ?_, fun h => absurd h Bool.false_ne_true⟩
    cases st with
    | Assign tgs v pos =>
      cases tgs with
      | nil => exact absurd hc Bool.false_ne_true
      | cons t tgs =>
        cases t with
        | Tuple es n p =>
          cases tgs with
          | cons _ _ => exact absurd hc Bool.false_ne_true
          | nil =>
            have h : (tgsB (locB sc) N js es && notTup v && noComp v && chk fns N e sc [v]) = true := hc
            simp only [Bool.and_eq_true] at h
            exact sAsgT ok ks h.1.1.1 h.1.1.2 h.1.2 ((snAll e).e b X sc hC ok v h.2)
        | _ => exact absurd hc Bool.false_ne_true
    | _ => exact absurd hc Bool.false_ne_true
  | par i j a c =>
    refine fun b X sc hC ok ks => ⟨fun _ st hc => ?_, fun h => absurd h Bool.false_ne_true⟩
    have no : ∀ {q : Prop}, False → q := fun z => z.elim
    cases st with
    | Assign tgs v pos =>
      cases tgs with
      | nil => exact absurd hc Bool.false_ne_true
      | cons t tgs =>
        cases t with
        | Tuple ts n p =>
          cases ts with
          | nil => exact absurd hc Bool.false_ne_true
          | cons t1 ts =>
            cases t1 with
            | Name x px =>
              cases ts with
              | nil => exact absurd hc Bool.false_ne_true
              | cons t2 ts =>
                cases t2 with
                | Name y py =>
                  cases ts with
                  | cons _ _ => exact absurd hc Bool.false_ne_true
                  | nil =>
                    cases tgs with
                    | cons _ _ => exact absurd hc Bool.false_ne_true
                    | nil =>
                      cases v with
                      | Tuple vs n2 p2 =>
                        cases vs with
                        | nil => exact absurd hc Bool.false_ne_true
                        | cons ea vs =>
                          cases vs with
                          | nil => exact absurd hc Bool.false_ne_true
                          | cons ec vs =>
                            cases vs with
                            | cons _ _ => exact absurd hc Bool.false_ne_true
                            | nil =>
                              have h : (nmB N i x && nmB N j y && decide (i ≠ j) && parB sc [(x, px), (y, py)] [ea, ec] && plainE ea && plainE ec && chk fns N a sc [ea] && chk fns N c sc [ec]) = true := hc
                              simp only [Bool.and_eq_true, decide_eq_true_eq] at h
                              obtain ⟨⟨⟨⟨⟨⟨⟨h1, h2⟩, h3⟩, h4⟩, h5⟩, h6⟩, h7⟩, h8⟩ := h
                              exact sPar ok ks h1 h2 h3 h4 h5 h6 ((snAll a).e b X sc hC ok ea h7) ((snAll c).e b X sc hC ok ec h8)
                      | _ => exact absurd hc Bool.false_ne_true
                | _ => exact absurd hc Bool.false_ne_true
            | _ => exact absurd hc Bool.false_ne_true
        | _ => exact absurd hc Bool.false_ne_true
    | _ => exact absurd hc Bool.false_ne_true
  | par3 i j l a c d => exact fun b X sc hC ok ks => ⟨fun _ st hc => absurd hc Bool.false_ne_true, fun h => absurd h Bool.false_ne_true⟩
  | dnew j t =>
    refine fun b X sc hC ok ks => ⟨fun _ st hc => ?_, fun h => absurd h Bool.false_ne_true⟩
    cases st with
    | Assign tgs v pos =>
      rcases tgs with _ | ⟨tg, _ | ⟨_, _⟩⟩
      · exact absurd hc Bool.false_ne_true
      · cases tg with
        | Name x p =>
          cases v with
          | Dict ks vs p2 =>
            cases ks with
            | cons _ _ => exact absurd hc Bool.false_ne_true
            | nil =>
              cases vs with
              | cons _ _ => exact absurd hc Bool.false_ne_true
              | nil =>
                have h : (nmB N j x && locB sc x) = true := hc
                rw [Bool.and_eq_true] at h
                exact sDnew ok ks h.1 h.2
          | _ => exact absurd hc Bool.false_ne_true
        | _ => exact absurd hc Bool.false_ne_true
      · exact absurd hc (by cases tg <;> exact Bool.false_ne_true)
    | _ => exact absurd hc Bool.false_ne_true
  | dset j kE e =>
    refine fun b X sc hC ok ks => ⟨fun _ st hc => ?_, fun h => absurd h Bool.false_ne_true⟩
    cases st with
    | Assign tgs v pos =>
      cases tgs with
      | nil => exact absurd hc Bool.false_ne_true
      | cons t tgs =>
        cases t with
        | Subscript o ke p =>
          cases o with
          | Name x p2 =>
            cases tgs with
            | cons _ _ => exact absurd hc Bool.false_ne_true
            | nil =>
              have h : (nmB N j x && visB sc x && plainE ke && noComp v && chk fns N e sc [v] && chk fns N kE sc [ke]) = true := hc
              rw [Bool.and_eq_true, Bool.and_eq_true, Bool.and_eq_true, Bool.and_eq_true] at h
              obtain ⟨⟨⟨⟨h1, h2⟩, h3⟩, h4⟩, h5⟩ := h
              exact sDset ok h1 h3 ((snAll e).e b X sc hC ok v h4) ((snAll kE).e b X sc hC ok ke h5)
          | _ => exact absurd hc Bool.false_ne_true
        | _ => exact absurd hc Bool.false_ne_true
    | _ => exact absurd hc Bool.false_ne_true
  | setIx j kE e =>
    refine fun b X sc hC ok ks => ⟨fun _ st hc => ?_, fun h => absurd h Bool.false_ne_true⟩
    cases st with
    | Assign tgs v pos =>
      cases tgs with
      | nil => exact absurd hc Bool.false_ne_true
      | cons t tgs =>
        cases t with
        | Subscript o ke p =>
          cases o with
          | Name x p2 =>
            cases tgs with
            | cons _ _ => exact absurd hc Bool.false_ne_true
            | nil =>
              have h : (nmB N j x && visB sc x && plainE ke && noComp v && chk fns N e sc [v] && chk fns N kE sc [ke]) = true := hc
              rw [Bool.and_eq_true, Bool.and_eq_true, Bool.and_eq_true, Bool.and_eq_true] at h
              obtain ⟨⟨⟨⟨h1, h2⟩, h3⟩, h4⟩, h5⟩ := h
              exact sSetIx ok h1 h2 h3 ((snAll e).e b X sc hC ok v h4) ((snAll kE).e b X sc hC ok ke h5)
          | _ => exact absurd hc Bool.false_ne_true
        | _ => exact absurd hc Bool.false_ne_true
    | _ => exact absurd hc Bool.false_ne_true
  | app j e =>
    refine fun b X sc hC ok ks => ⟨fun _ st hc => ?_, fun h => absurd h Bool.false_ne_true⟩
    cases st with
    | Expr v pos =>
      cases v with
      | Call f es kws p =>
        cases f with
        | Attribute o m q =>
          cases o with
          | Name x p2 =>
            cases es with
            | nil => exact absurd hc Bool.false_ne_true
            | cons v es =>
              cases es with
              | cons _ _ => exact absurd hc Bool.false_ne_true
              | nil =>
                cases kws with
                | cons _ _ => exact absurd hc Bool.false_ne_true
                | nil =>
                  have h : (decide (m = "append") && nmB N j x && visB sc x && plainE v && (q.endLine == p.line) && chk fns N e sc [v]) = true := hc
                  simp only [Bool.and_eq_true, decide_eq_true_eq] at h
                  obtain ⟨⟨⟨⟨⟨rfl, h1⟩, h2⟩, h3⟩, h4⟩, h5⟩ := h
                  exact sApp ok (by rw [h1, h2]; rfl) h3 h4 ((snAll e).e b X sc hC ok v h5)
          | _ => exact absurd hc Bool.false_ne_true
        | _ => exact absurd hc Bool.false_ne_true
      | _ => exact absurd hc Bool.false_ne_true
    | _ => exact absurd hc Bool.false_ne_true
  | pop j =>
    refine fun b X sc hC ok ks => ⟨fun _ st hc => ?_, fun h => absurd h Bool.false_ne_true⟩
    cases st with
    | Expr v pos =>
      cases v with
      | Call f es kws p =>
        cases f with
        | Attribute o m q =>
          cases o with
          | Name x p2 =>
            cases es with
            | cons _ _ => exact absurd hc Bool.false_ne_true
            | nil =>
              cases kws with
              | cons _ _ => exact absurd hc Bool.false_ne_true
              | nil =>
                have h : (decide (m = "pop") && nmB N j x && visB sc x && (q.endLine == p.line)) = true := hc
                simp only [Bool.and_eq_true, decide_eq_true_eq] at h
                obtain ⟨⟨⟨rfl, h1⟩, h2⟩, h3⟩ := h
                exact sPop ok (by rw [h1, h2]; rfl) h3
          | _ => exact absurd hc Bool.false_ne_true
        | _ => exact absurd hc Bool.false_ne_true
      | _ => exact absurd hc Bool.false_ne_true
    | _ => exact absurd hc Bool.false_ne_true
  | popT t j =>
    refine fun b X sc hC ok ks => ⟨fun _ st hc => ?_, fun h => absurd h Bool.false_ne_true⟩
    cases st with
    | Assign tgs v pos =>
      rcases tgs with _ | ⟨tg, _ | ⟨_, _⟩⟩
      · exact absurd hc Bool.false_ne_true
      · cases v with
        | Call f es kws p =>
          cases f with
          | Attribute o m q =>
            cases o with
            | Name x p2 =>
              cases es with
              | cons _ _ => exact absurd hc (by cases kws <;> exact Bool.false_ne_true)
              | nil =>
                cases kws with
                | cons _ _ => exact absurd hc Bool.false_ne_true
                | nil =>
                  have h : (decide (m = "pop") && tgB (locB sc) N t tg && nmB N j x && visB sc x && (q.endLine == p.line)) = true := hc
                  simp only [Bool.and_eq_true, decide_eq_true_eq] at h
                  obtain ⟨⟨⟨⟨rfl, h0⟩, h1⟩, h2⟩, h3⟩ := h
                  exact sPopT ok ks h0 (by rw [h1, h2]; rfl) h3
            | _ => exact absurd hc Bool.false_ne_true
          | _ => exact absurd hc Bool.false_ne_true
        | _ => exact absurd hc Bool.false_ne_true
      · exact absurd hc Bool.false_ne_true
    | _ => exact absurd hc Bool.false_ne_true
  | popI t j kE =>
    refine fun b X sc hC ok ks => ⟨fun _ st hc => ?_, fun h => absurd h Bool.false_ne_true⟩
    cases st with
    | Assign tgs v pos =>
      rcases tgs with _ | ⟨tg, _ | ⟨_, _⟩⟩
      · exact absurd hc Bool.false_ne_true
      · cases v with
        | Call f es kws p =>
          cases f with
          | Attribute o m q =>
            cases o with
            | Name x p2 =>
              rcases es with _ | ⟨ke, _ | ⟨_, _⟩⟩
              · exact absurd hc Bool.false_ne_true
              · cases kws with
                | cons _ _ => exact absurd hc Bool.false_ne_true
                | nil =>
                  have h : (decide (m = "pop") && tgB (locB sc) N t tg && nmB N j x && visB sc x && (q.endLine == p.line) && plainE ke && chk fns N kE sc [ke]) = true := hc
                  simp only [Bool.and_eq_true, decide_eq_true_eq] at h
                  obtain ⟨⟨⟨⟨⟨⟨rfl, h0⟩, h1⟩, h2⟩, h3⟩, h4⟩, h5⟩ := h
                  exact sPopI ok ks h0 (by rw [h1, h2]; rfl) h3 h4 ((snAll kE).e b X sc hC ok ke h5)
              · exact absurd hc Bool.false_ne_true
            | _ => exact absurd hc Bool.false_ne_true
          | _ => exact absurd hc Bool.false_ne_true
        | _ => exact absurd hc Bool.false_ne_true
      · exact absurd hc Bool.false_ne_true
    | _ => exact absurd hc Bool.false_ne_true
  | set2 j kE lE e =>
    refine fun b X sc hC ok ks => ⟨fun _ st hc => ?_, fun h => absurd h Bool.false_ne_true⟩
    have no : ∀ {q : Prop}, False → q := fun z => z.elim
    cases st with
    | Assign tgs v pos =>
      rcases tgs with _ | ⟨tg, tgs⟩
      · exact absurd hc Bool.false_ne_true
      · cases tg with
        | Tuple es n p5 =>
          rcases es with _ | ⟨e1, _ | ⟨e2, _ | ⟨_, _⟩⟩⟩
          · exact absurd hc Bool.false_ne_true
          · cases e1 with
            | Subscript o ke p2 => cases o <;> exact absurd hc Bool.false_ne_true
            | _ => exact absurd hc Bool.false_ne_true
          · cases e1 with
            | Subscript o ke p2 =>
              cases o with
              | Name x p =>
                cases e2 with
                | Subscript o2 le p4 =>
                  cases o2 with
                  | Name y p3 =>
                    cases tgs with
                    | cons _ _ => exact absurd hc Bool.false_ne_true
                    | nil =>
                      have h : (nmB N j x && visB sc x && (nmB N j y && visB sc y) && plainE ke && plainE le && noComp v && chk fns N e sc [v] && chk fns N kE sc [ke] && chk fns N lE sc [le]) = true := hc
                      rw [Bool.and_eq_true, Bool.and_eq_true, Bool.and_eq_true, Bool.and_eq_true, Bool.and_eq_true, Bool.and_eq_true, Bool.and_eq_true] at h
                      obtain ⟨⟨⟨⟨⟨⟨⟨h1, h1'⟩, h2⟩, h2'⟩, h3⟩, h4⟩, h5⟩, h6⟩ := h
                      exact sSet2 ok ks h1 h1' h2 h2' h3 ((snAll e).e b X sc hC ok v h4) ((snAll kE).e b X sc hC ok ke h5) ((snAll lE).e b X sc hC ok le h6)
                  | _ => exact absurd hc Bool.false_ne_true
                | _ => exact absurd hc Bool.false_ne_true
              | _ => exact absurd hc Bool.false_ne_true
            | _ => exact absurd hc Bool.false_ne_true
          · cases e1 with
            | Subscript o ke p2 => cases o <;> cases e2 <;> first | exact absurd hc Bool.false_ne_true | (rename_i o2 _ _; cases o2 <;> exact absurd hc Bool.false_ne_true)
            | _ => exact absurd hc Bool.false_ne_true
        | _ => exact absurd hc Bool.false_ne_true
    | _ => exact absurd hc Bool.false_ne_true
  | ins j kE e =>
    refine fun b X sc hC ok ks => ⟨fun _ st hc => ?_, fun h => absurd h Bool.false_ne_true⟩
    cases st with
    | Expr v pos =>
      cases v with
      | Call f es kws p =>
        cases f with
        | Attribute o m q =>
          cases o with
          | Name x p2 =>
            rcases es with _ | ⟨ke, _ | ⟨v, _ | ⟨_, _⟩⟩⟩
            · exact absurd hc Bool.false_ne_true
            · exact absurd hc Bool.false_ne_true
            · cases kws with
              | cons _ _ => exact absurd hc Bool.false_ne_true
              | nil =>
                have h : (decide (m = "insert") && nmB N j x && visB sc x && plainE ke && plainE v && (q.endLine == p.line) && chk fns N kE sc [ke] && chk fns N e sc [v]) = true := hc
                simp only [Bool.and_eq_true, decide_eq_true_eq] at h
                obtain ⟨⟨⟨⟨⟨⟨⟨rfl, h1⟩, h2⟩, h3⟩, h4⟩, h5⟩, h6⟩, h7⟩ := h
                exact sIns ok (by rw [h1, h2]; rfl) h3 h4 h5 ((snAll kE).e b X sc hC ok ke h6) ((snAll e).e b X sc hC ok v h7)
            · exact absurd hc Bool.false_ne_true
          | _ => exact absurd hc Bool.false_ne_true
        | _ => exact absurd hc Bool.false_ne_true
      | _ => exact absurd hc Bool.false_ne_true
    | _ => exact absurd hc Bool.false_ne_true
  | ext j e =>
    refine fun b X sc hC ok ks => ⟨fun _ st hc => ?_, fun h => absurd h Bool.false_ne_true⟩
    cases st with
    | Expr v pos =>
      cases v with
      | Call f es kws p =>
        cases f with
        | Attribute o m q =>
          cases o with
          | Name x p2 =>
            rcases es with _ | ⟨v, _ | ⟨_, _⟩⟩
            · exact absurd hc Bool.false_ne_true
            · cases kws with
              | cons _ _ => exact absurd hc Bool.false_ne_true
              | nil =>
                have h : (decide (m = "extend") && nmB N j x && visB sc x && plainE v && (q.endLine == p.line) && chk fns N e sc [v]) = true := hc
                simp only [Bool.and_eq_true, decide_eq_true_eq] at h
                obtain ⟨⟨⟨⟨⟨rfl, h1⟩, h2⟩, h3⟩, h4⟩, h5⟩ := h
                exact sExt ok (by rw [h1, h2]; rfl) h3 h4 ((snAll e).e b X sc hC ok v h5)
            · exact absurd hc Bool.false_ne_true
          | _ => exact absurd hc Bool.false_ne_true
        | _ => exact absurd hc Bool.false_ne_true
      | _ => exact absurd hc Bool.false_ne_true
    | _ => exact absurd hc Bool.false_ne_true
  | aug j o e =>
    refine fun b X sc hC ok ks => ⟨fun _ st hc => ?_, fun h => absurd h Bool.false_ne_true⟩
    cases st with
    | AugAssign t o' v pos =>
      cases t with
      | Name x p =>
        have h : (decide (o = o') && nmB N j x && locB sc x && chk fns N e sc [v]) = true := hc
        simp only [Bool.and_eq_true, decide_eq_true_eq] at h
        obtain ⟨⟨⟨rfl, h1⟩, h2⟩, h3⟩ := h
        exact sAug ok ks h1 h2 ((snAll e).e b X sc hC ok v h3)
      | _ => exact absurd hc Bool.false_ne_true
    | _ => exact absurd hc Bool.false_ne_true
  | clr j =>
    refine fun b X sc hC ok ks => ⟨fun _ st hc => ?_, fun h => absurd h Bool.false_ne_true⟩
    cases st with
    | Expr v pos =>
      cases v with
      | Call f es kws p =>
        cases f with
        | Attribute o m q =>
          cases o with
          | Name x p2 =>
            cases es with
            | cons _ _ => exact absurd hc Bool.false_ne_true
            | nil =>
              cases kws with
              | cons _ _ => exact absurd hc Bool.false_ne_true
              | nil =>
                have h : (decide (m = "clear") && nmB N j x && visB sc x && (q.endLine == p.line)) = true := hc
                simp only [Bool.and_eq_true, decide_eq_true_eq] at h
                obtain ⟨⟨⟨rfl, h1⟩, h2⟩, h3⟩ := h
                exact sClr ok (by rw [h1, h2]; rfl) h3
          | _ => exact absurd hc Bool.false_ne_true
        | _ => exact absurd hc Bool.false_ne_true
      | _ => exact absurd hc Bool.false_ne_true
    | _ => exact absurd hc Bool.false_ne_true
  | clrE e =>
    refine fun b X sc hC ok ks => ⟨fun _ st hc => ?_, fun h => absurd h Bool.false_ne_true⟩
    cases st with
    | Expr v pos =>
      cases v with
      | Call f es kws p =>
        cases f with
        | Attribute o m q =>
          cases o with
          | Call f2 es2 kws2 fp =>
            cases es2 with
            | nil => exact absurd hc Bool.false_ne_true
            | cons e1 es2 =>
              cases es with
              | cons _ _ => exact absurd hc Bool.false_ne_true
              | nil =>
                cases kws with
                | cons _ _ => exact absurd hc Bool.false_ne_true
                | nil =>
                  have h : (decide (m = "clear") && (q.endLine == p.line) && chk fns N e sc [.Call f2 (e1 :: es2) kws2 fp]) = true := hc
                  simp only [Bool.and_eq_true, decide_eq_true_eq] at h
                  obtain ⟨⟨rfl, h1⟩, h2⟩ := h
                  exact sClrE ok h1 ((snAll e).e b X sc hC ok _ h2)
          | _ => exact absurd hc Bool.false_ne_true
        | _ => exact absurd hc Bool.false_ne_true
      | _ => exact absurd hc Bool.false_ne_true
    | _ => exact absurd hc Bool.false_ne_true
  | forP t j c e =>
    refine fun b X sc hC ok ks => ⟨fun _ st hc => ?_, fun h => absurd h Bool.false_ne_true⟩
    cases st with
    | For tg iter bd els pos =>
      cases iter with
      | Name x p =>
        rcases bd with _ | ⟨s0, _ | ⟨_, _⟩⟩
        · exact absurd hc Bool.false_ne_true
        · cases s0 with
          | If ce th el p3 =>
            rcases th with _ | ⟨r0, _ | ⟨_, _⟩⟩
            · exact absurd hc Bool.false_ne_true
            · cases r0 with
              | Return v p2 =>
                cases v with
                | none => exact absurd hc Bool.false_ne_true
                | some v =>
                  cases el with
                  | cons _ _ => exact absurd hc Bool.false_ne_true
                  | nil =>
                    cases els with
                    | cons _ _ => exact absurd hc Bool.false_ne_true
                    | nil =>
                      have h : (nmB N j x && visB sc x && !((tgs t).contains j) && tgB (locB sc) N t tg && chk fns N c sc [ce] && chk fns N e sc [v]) = true := hc
                      simp only [Bool.and_eq_true, Bool.not_eq_true'] at h
                      obtain ⟨⟨⟨⟨⟨h1, h2⟩, h3⟩, h4⟩, h5⟩, h6⟩ := h
                      exact sForP ok ks (by rw [h1, h2]; rfl) h3 h4 ((snAll c).t b X sc hC ok ce h5) ((snAll e).e b X sc hC ok v h6)
              | _ => exact absurd hc Bool.false_ne_true
            · cases r0 <;> first | exact absurd hc Bool.false_ne_true | (rename_i o _; cases o <;> exact absurd hc Bool.false_ne_true)
          | _ => exact absurd hc Bool.false_ne_true
        · cases s0 with
          | If ce th el p3 =>
            rcases th with _ | ⟨r0, _ | ⟨_, _⟩⟩
            · exact absurd hc Bool.false_ne_true
            · cases r0 with
              | Return v p2 => cases v <;> cases el <;> exact absurd hc Bool.false_ne_true
              | _ => exact absurd hc Bool.false_ne_true
            · cases r0 with
              | Return v p2 => cases v <;> exact absurd hc Bool.false_ne_true
              | _ => exact absurd hc Bool.false_ne_true
          | _ => exact absurd hc Bool.false_ne_true
      | _ => exact absurd hc Bool.false_ne_true
    | _ => exact absurd hc Bool.false_ne_true
  | lend j r ih =>
    refine fun b X sc hC ok ks => ⟨fun h => absurd h.symm Bool.false_ne_true, fun _ sts hc => ?_⟩
    have h : (isSq r && chkS fns cls N r sc sts) = true := hc
    rw [Bool.and_eq_true] at h
    refine pssImp (pssEx fun p => (ih { b with H0 := b.H0.add p } X sc hC ok ks).2 h.1 sts h.2) fun D σ H ⟨ε, F, E, R, w, en⟩ => ?_
    obtain ⟨xs, p, vs, g1, g2, g3, g4, w⟩ := ownGo R w
    obtain ⟨p', _, e', _, _, _, h4⟩ := R.own j xs g1
    have : p' = p := by rw [e'] at g2; simpa using g2
    subst this
    exact ⟨p', _, F, _, R.lend g1 g2, w, en.lend h4.1⟩
  | lfn r ih => exact fun b X sc hC ok ks => ⟨fun _ st hc => absurd hc Bool.false_ne_true, fun h => absurd h Bool.false_ne_true⟩
  | retL e =>
    refine fun b X sc hC ok ks => ⟨fun _ st hc => ?_, fun h => absurd h Bool.false_ne_true⟩
    cases st with
    | Return v pos =>
      cases v with
      | none => exact absurd hc Bool.false_ne_true
      | some v => exact sRetL ((snAll e).e b X sc hC ok v hc)
    | _ => exact absurd hc Bool.false_ne_true
  | lset j n e =>
    refine fun b X sc hC ok ks => ⟨fun _ st hc => ?_, fun h => absurd h Bool.false_ne_true⟩
    cases st with
    | Assign tgs v pos =>
      rcases tgs with _ | ⟨t, _ | ⟨_, _⟩⟩
      · exact absurd hc Bool.false_ne_true
      · cases t with
        | Subscript o ke p =>
          cases o with
          | Name x p2 =>
            cases ke with
            | Constant c m p3 =>
              cases c with
              | int i =>
                have h : (nmB N j x && visB sc x && decide (i = (n : Int)) && noComp v && chk fns N e sc [v]) = true := hc
                rw [Bool.and_eq_true, Bool.and_eq_true, Bool.and_eq_true, decide_eq_true_eq] at h
                obtain ⟨⟨⟨h1, rfl⟩, h3⟩, h4⟩ := h
                exact sLset ok h1 h3 ((snAll e).e b X sc hC ok v h4)
              | _ => exact absurd hc Bool.false_ne_true
            | _ => exact absurd hc Bool.false_ne_true
          | _ => exact absurd hc Bool.false_ne_true
        | _ => exact absurd hc Bool.false_ne_true
      · exact absurd hc (by
          cases t with
          | Subscript o ke p =>
            cases o with
            | Name x p2 =>
              cases ke with
              | Constant c m p3 => cases c <;> exact Bool.false_ne_true
              | _ => exact Bool.false_ne_true
            | _ => exact Bool.false_ne_true
          | _ => exact Bool.false_ne_true)
    | _ => exact absurd hc Bool.false_ne_true
  | asgN t e =>
    refine fun b X sc hC ok ks => ⟨fun _ st hc => ?_, fun h => absurd h Bool.false_ne_true⟩
    cases st with
    | Assign tgs v pos =>
      rcases tgs with _ | ⟨g, _ | ⟨_, _⟩⟩
      · exact absurd hc Bool.false_ne_true
      · cases g with
        | Tuple es n p =>
          have h : (tgB (locB sc) N t (.Tuple es n p) && notTup v && noComp v && chk fns N e sc [v]) = true := hc
          simp only [Bool.and_eq_true] at h
          exact sAsgN ok ks h.1.1.1 h.1.1.2 h.1.2 ((snAll e).e b X sc hC ok v h.2)
        | _ => exact absurd hc Bool.false_ne_true
      · exact absurd hc (by cases g <;> exact Bool.false_ne_true)
    | _ => exact absurd hc Bool.false_ne_true
  | drop e =>
    refine fun b X sc hC ok ks => ⟨fun _ st hc => ?_, fun h => absurd h Bool.false_ne_true⟩
    cases st with
    | Expr v pos =>
      have h : (noComp v && chk fns N e sc [v]) = true := hc
      rw [Bool.and_eq_true] at h
      exact sDrop h.1 ((snAll e).e b X sc hC ok v h.2)
    | _ => exact absurd hc Bool.false_ne_true
  | ret e =>
    refine fun b X sc hC ok ks => ⟨fun _ st hc => ?_, fun h => absurd h Bool.false_ne_true⟩
    cases st with
    | Return v pos =>
      cases v with
      | none => exact absurd hc Bool.false_ne_true
      | some v => exact sRet ((snAll e).e b X sc hC ok v hc)
    | _ => exact absurd hc Bool.false_ne_true
  | retN =>
    refine fun b X sc hC ok ks => ⟨fun _ st hc => ?_, fun h => absurd h Bool.false_ne_true⟩
    cases st with
    | Return v pos =>
      cases v with
      | some _ => exact absurd hc Bool.false_ne_true
      | none => exact psImp ps_retN fun D σ H ⟨ε, F, E, R, w, en⟩ => en.rt (.d .none) σ ε H F .non R Dp.non w
    | _ => exact absurd hc Bool.false_ne_true
  | ite c s t ih1 ih2 =>
    refine fun b X sc hC ok ks => ⟨fun _ st hc => ?_, fun h => absurd h Bool.false_ne_true⟩
    cases st with
    | If e x y pos =>
      have h : (chk fns N c sc [e] && isSq s && isSq t && chkS fns cls N s sc x && chkS fns cls N t sc y) = true := hc
      simp only [Bool.and_eq_true] at h
      obtain ⟨⟨⟨⟨h1, h2⟩, h3⟩, h4⟩, h5⟩ := h
      exact sIf ((snAll c).t b X sc hC ok e h1) ((ih1 b X sc hC ok ks).2 h2 x h4) ((ih2 b X sc hC ok ks).2 h3 y h5)
    | _ => exact absurd hc Bool.false_ne_true
  | whl c s ih =>
    refine fun b X sc hC ok ks => ⟨fun _ st hc => ?_, fun h => absurd h Bool.false_ne_true⟩
    cases st with
    | While e x y pos =>
      cases y with
      | cons _ _ => exact absurd hc Bool.false_ne_true
      | nil =>
        have h : (chk fns N c sc [e] && isSq s && chkS fns cls N s sc x) = true := hc
        simp only [Bool.and_eq_true] at h
        exact sWhl ks ((snAll c).t b X sc hC ok e h.1.1) ((ih b X sc hC ok ks).2 h.1.2 x h.2)
    | _ => exact absurd hc Bool.false_ne_true
  | forr t it s ih =>
    refine fun b X sc hC ok ks => ⟨fun _ st hc => ?_, fun h => absurd h Bool.false_ne_true⟩
    cases st with
    | For tg iter x y pos =>
      cases y with
      | cons _ _ => exact absurd hc Bool.false_ne_true
      | nil =>
        have h : (isIt it && plainE iter && chk fns N it sc [iter, tg] && tgB (locB sc) N t tg && isSq s && chkS fns cls N s sc x) = true := hc
        simp only [Bool.and_eq_true] at h
        obtain ⟨⟨⟨⟨⟨h1, h2⟩, h3⟩, h4⟩, h5⟩, h6⟩ := h
        exact sFor ok ks h2 ((snAll it).i b X sc hC ok h1 iter tg h3) h4 fun F0 => (ih { b with F0 := F0 } X sc hC ok ks).2 h5 x h6
    | _ => exact absurd hc Bool.false_ne_true
  | raise c =>
    refine fun b X sc hC ok ks => ⟨fun _ st hc => ?_, fun h => absurd h Bool.false_ne_true⟩
    cases st with
    | Raise e q pos =>
      cases e with
      | none => exact absurd hc Bool.false_ne_true
      | some e =>
        cases e with
        | Call f es kws p =>
          cases f with
          | Name x p2 =>
            cases es with
            | nil => exact absurd hc Bool.false_ne_true
            | cons e es =>
              cases es with
              | cons _ _ => exact absurd hc Bool.false_ne_true
              | nil =>
                cases kws with
                | cons _ _ => exact absurd hc Bool.false_ne_true
                | nil =>
                  cases q with
                  | some _ => exact absurd hc Bool.false_ne_true
                  | none =>
                    have h : (decide (cls[c]? = some x) && glB sc x && !(x == ("__debug__" : Str)) && isStr e) = true := hc
                    simp only [Bool.and_eq_true, decide_eq_true_eq, Bool.not_eq_true'] at h
                    exact sRaise ok hC h.1.1.1 h.1.1.2 h.1.2 h.2
          | _ => exact absurd hc Bool.false_ne_true
        | _ => exact absurd hc Bool.false_ne_true
    | _ => exact absurd hc Bool.false_ne_true
  | try1 s c j h ih =>
    refine fun b X sc hC ok ks => ⟨fun _ st hc => ?_, fun h => absurd h Bool.false_ne_true⟩
    have no : ∀ {q : Prop}, False → q := fun z => z.elim
    cases st with
    | Try x hs els fin pos =>
      cases hs with
      | nil => exact absurd hc Bool.false_ne_true
      | cons h1 hs =>
        cases h1 with
        | ExceptHandler ty n su pos' =>
          cases ty with
          | none => cases hs <;> exact absurd hc Bool.false_ne_true
          | some ty =>
            cases ty with
            | Name y p =>
              cases su with
              | nil => cases hs <;> exact absurd hc Bool.false_ne_true
              | cons h0 su =>
                cases hs with
                | cons _ _ => exact absurd hc Bool.false_ne_true
                | nil =>
                  cases els with
                  | cons _ _ => exact absurd hc Bool.false_ne_true
                  | nil =>
                    cases fin with
                    | cons _ _ => exact absurd hc Bool.false_ne_true
                    | nil =>
                      have g : (isSq s && chkS fns cls N s sc x && decide (cls[c]? = some y) && glB sc y && !(y == ("__debug__" : Str)) && excB N j sc n && chkHS cls N j h sc (h0 :: su)) = true := hc
                      simp only [Bool.and_eq_true, decide_eq_true_eq, Bool.not_eq_true'] at g
                      obtain ⟨⟨⟨⟨⟨⟨g1, g2⟩, g3⟩, g4⟩, g5⟩, g6⟩, g7⟩ := g
                      exact sTry ok hC ks ks.stack ks.frame (fun W pn xe ok' ks' => (ih { b with W := W } (X.tr pn xe) sc hC ok' ks').2 g1 x g2) g3 g4 g5 g6 g7
            | _ => cases su <;> cases hs <;> exact absurd hc Bool.false_ne_true
    | _ => exact absurd hc Bool.false_ne_true
  | brk =>
    refine fun b X sc hC ok ks => ⟨fun _ st hc => ?_, fun h => absurd h Bool.false_ne_true⟩
    cases st with
    | Break pos => exact psImp ps_break fun D σ H ⟨ε, F, E, R, w, en⟩ => en.bk σ ε H F R w
    | _ => exact absurd hc Bool.false_ne_true
  | cont =>
    refine fun b X sc hC ok ks => ⟨fun _ st hc => ?_, fun h => absurd h Bool.false_ne_true⟩
    cases st with
    | Continue pos => exact psImp ps_continue fun D σ H ⟨ε, F, E, R, w, en⟩ => en.ct σ ε H F R w
    | _ => exact absurd hc Bool.false_ne_true
  | pass =>
    refine fun b X sc hC ok ks => ⟨fun _ st hc => ?_, fun h => absurd h Bool.false_ne_true⟩
    cases st with
    | Pass pos => exact psImp ps_pass fun D σ H ⟨ε, F, E, R, w, en⟩ => en.nx σ ε H F R w
    | _ => exact absurd hc Bool.false_ne_true
  | never =>
    refine fun b X sc hC ok ks => ⟨fun _ st hc => ?_, fun h => absurd h Bool.false_ne_true⟩
    exact psImp ps_never fun D σ H ⟨ε, F, E, R, w, en⟩ => w.elim
end
/-! ### a def -/
/-- a def's text and its term -/
def bodyOf : IS → IS
  | .lfn r => r
  | i => i
def okF (fns : List FnI) (cls : List Str) (fi : FnI) (st : Stmt) : Bool :=
  decide (fi.np = fi.ps.length) && decide (fi.nn = fi.N.length) && !(defScope st).isGenerator && !(defScope st).isCoroutine && isSq (bodyOf fi.body) && chkS fns cls fi.N (bodyOf fi.body) (defScope st) (defBody st)
theorem ev0_gl : ∀ (ds : List D) (m j : Nat) (v : Val), gv (ds.map (fun x => some (Val.d x)) ++ List.replicate m none) j = some v → ∃ x, v = .d x ∧ ds[j]? = some x := by
  intro ds
  induction ds with
  | nil =>
    intro m
    induction m with
    | zero => intro j v h; cases h
    | succ m ih =>
      intro j v h
      cases j with
      | zero => cases h
      | succ j => exact (ih j v h).elim fun x q => absurd q.2 (by simp)
  | cons y r ih =>
    intro m j v h
    cases j with
    | zero => exact ⟨y, (Option.some.inj h).symm, rfl⟩
    | succ j =>
      obtain ⟨x, e1, e2⟩ := ih m j v h
      exact ⟨x, e1, by simpa using e2⟩
theorem startRepL {K : PySem.W.Frag} {F H : Hp} {N : List Str} {us ws : List V} {ds xs : List D} {p : Addr} (s : Sub F H) (fp : F p = none) (hp : H p = some (.lst ws)) (dx : DpAll K F ws xs) (d : DpAll K F us ds) (hl : us.length + 1 ≤ N.length) :
    Rep K ⟨H, fun a => a = p⟩ F F H (L2.start N (.ref p :: us)) (pv (ev0 N.length (.list xs :: ds)) 0 (some (.lent xs))) := by
  have e0 : pv (ev0 N.length (.list xs :: ds)) 0 (some (.lent xs)) = some (.lent xs) :: (ds.map (fun x => some (Val.d x)) ++ List.replicate (N.length - (ds.length + 1)) none) := rfl
  have ls : (L2.start N (.ref p :: us))[0]? = some (some (.ref p)) := by
    unfold L2.start
    simp
  rw [e0]
  refine ⟨s, .refl _, .refl _, fun a o h => .inl h, ?_, fun j x h => ?_, fun j ys h => ?_, fun i j ys zs r h => ?_, fun j ys h => ?_, fun i j ys zs r h g => ?_, fun a h => ?_, .nil fun j v h => (by
    cases j with
    | zero => cases h; rfl
    | succ j =>
      obtain ⟨y, e, _⟩ := ev0_gl _ _ _ _ (show gv (ds.map (fun x => some (Val.d x)) ++ List.replicate (N.length - (ds.length + 1)) none) j = some v from h)
      subst e; rfl)⟩
  · unfold L2.start
    have e := daLen d
    simp only [List.length_append, List.length_map, List.length_replicate, List.length_cons]
    omega
  · cases j with
    | zero => cases h
    | succ j =>
      obtain ⟨y, e, h2⟩ := ev0_gl _ _ _ _ (show gv (ds.map (fun x => some (Val.d x)) ++ List.replicate (N.length - (ds.length + 1)) none) j = some (.d x) from h)
      cases e
      obtain ⟨v, h3, h4⟩ := daGet' d h2
      refine ⟨v, ?_, h4⟩
      unfold L2.start
      have hj : j < us.length := (List.getElem?_eq_some_iff.mp h3).1
      rw [List.getElem?_append_left (by simpa using hj)]
      simp [h3]
  · cases j with
    | zero => cases h
    | succ j =>
      obtain ⟨y, e, _⟩ := ev0_gl _ _ _ _ (show gv (ds.map (fun x => some (Val.d x)) ++ List.replicate (N.length - (ds.length + 1)) none) j = some (.own ys) from h)
      cases e
  · cases i with
    | zero => cases h
    | succ i =>
      obtain ⟨y, e, _⟩ := ev0_gl _ _ _ _ (show gv (ds.map (fun x => some (Val.d x)) ++ List.replicate (N.length - (ds.length + 1)) none) i = some (.own ys) from h)
      cases e
  · cases j with
    | zero =>
      cases h
      exact ⟨p, ws, ls, hp, dx, fp, rfl⟩
    | succ j =>
      obtain ⟨y, e, _⟩ := ev0_gl _ _ _ _ (show gv (ds.map (fun x => some (Val.d x)) ++ List.replicate (N.length - (ds.length + 1)) none) j = some (.lent ys) from h)
      cases e
  · have z : ∀ {i : Nat} {ys : List D}, gv (some (.lent xs) :: (ds.map (fun x => some (Val.d x)) ++ List.replicate (N.length - (ds.length + 1)) none)) i = some (.lent ys) → i = 0 := fun {i ys} h => by
      cases i with
      | zero => rfl
      | succ i =>
        obtain ⟨y, e, _⟩ := ev0_gl _ _ _ _ (show gv (ds.map (fun x => some (Val.d x)) ++ List.replicate (N.length - (ds.length + 1)) none) i = some (.lent ys) from h)
        cases e
    exact fun _ _ => by rw [z h, z g]
  · cases h
    exact ⟨⟨_, hp⟩, fp⟩
theorem startRep {K : PySem.W.Frag} {F H : Hp} {N : List Str} {vs : List V} {ds : List D} (s : Sub F H) (d : DpAll K F vs ds) (hl : vs.length ≤ N.length) : Rep K (Zn.of H) F F H (L2.start N vs) (ev0 N.length ds) := by
  have gl : ∀ (ds : List D) (m j : Nat) (v : Val), gv (ds.map (fun x => some (Val.d x)) ++ List.replicate m none) j = some v → ∃ x, v = .d x ∧ ds[j]? = some x := by
    intro ds
    induction ds with
    | nil =>
      intro m
      induction m with
      | zero => intro j v h; cases h
      | succ m ih =>
        intro j v h
        cases j with
        | zero => cases h
        | succ j => exact (ih j v h).elim fun x q => absurd q.2 (by simp)
    | cons y r ih =>
      intro m j v h
      cases j with
      | zero => exact ⟨y, (Option.some.inj h).symm, rfl⟩
      | succ j =>
        obtain ⟨x, e1, e2⟩ := ih m j v h
        exact ⟨x, e1, by simpa using e2⟩
  refine ⟨s, .refl _, .refl _, fun a o h => .inl h, ?_, fun j x h => ?_, fun j xs h => ?_, fun i j xs ys p h => ?_, fun j xs h => ?_, fun i j xs ys p h => ?_, fun _ h => h.elim, .nil fun j v h => (by
    obtain ⟨y, e, _⟩ := gl _ _ _ _ h
    subst e; rfl)⟩
  · unfold L2.start ev0
    have e := daLen d
    simp only [List.length_append, List.length_map, List.length_replicate]
    omega
  · obtain ⟨y, e, h2⟩ := gl _ _ _ _ h
    cases e
    obtain ⟨v, h3, h4⟩ := daGet' d h2
    refine ⟨v, ?_, h4⟩
    unfold L2.start
    have hj : j < vs.length := (List.getElem?_eq_some_iff.mp h3).1
    rw [List.getElem?_append_left (by simpa using hj)]
    simp [h3]
  · obtain ⟨y, e, _⟩ := gl _ _ _ _ h
    cases e
  · obtain ⟨y, e, _⟩ := gl _ _ _ _ h
    cases e
  · obtain ⟨y, e, _⟩ := gl _ _ _ _ h
    cases e
  · obtain ⟨y, e, _⟩ := gl _ _ _ _ h
    cases e
section
variable {P : Program} {w : World} {K : PySem.W.Frag} {mg : Str → Option Value} {base : Heap} {fns : List FnI} {cls : List Str} {C : Nat → Addr} {Φ : Fs} {k : Nat}
/-- what is known of the defs that are called -/
def Callees (P : Program) (w : World) (K : PySem.W.Frag) (mg : Str → Option Value) (base : Heap) (fns : List FnI) (C : Nat → Addr) (Φ : Fs) (k : Nat) : Prop :=
  ∀ (i : Nat) (fi : FnI), fns[i]? = some fi → fi.con = none → ∃ f fd, mg fi.name = some (.ref f) ∧ PySem.W.keepIn K (.ref f) = true ∧ Binds K fd fi.ps [] ∧
    FnOk P w K mg base (L2.CX P w) (k + 32) f fd fi.ps (specOf K C fi (Φ i))
theorem fnGo {fi : FnI} {st : Stmt} {f : Addr} {fd : FuncData} {x q : Str} (F : FunD K x q (defArgs st) (defBody st) (defScope st) [] [] f fd) (S : FnScope fi.N fi.ps (defScope st)) (h : okF fns cls fi st = true)
    (ca : Callees P w K mg base fns C Φ k) (ar : ∀ i fi ds Xp Q, fns[i]? = some fi → Φ i ds Xp Q → ds.length = fi.np) (bl : ∀ x ∈ bltNames, mg x = none) (ex : ∀ c x, cls[c]? = some x → ClsAt K mg x (C c)) (xf : ExF K cls C) (gc : ∀ (i : Nat) (fi : FnI) (d : D), fns[i]? = some fi → fi.con = some d → ∃ u v, mg fi.name = some u ∧ RelV v u ∧ ∀ F, Dp K F v d) (sr : base.NoSeer) (tr : P.given.tree = none) :
    FnOk P w K mg base (L2.CX P w) (k + 32 + 1) f fd fi.ps (specOf K C fi (fun ds Xp Q => runB Φ fi ds Xp Q)) := by
  unfold okF at h
  simp only [Bool.and_eq_true, decide_eq_true_eq, Bool.not_eq_true'] at h
  obtain ⟨⟨⟨⟨⟨h1, h2⟩, hg1⟩, hg2⟩, h3⟩, h4⟩ := h
  cases lf : isLfn fi.body with
  | true =>
    rw [specOf_yes lf]
    obtain ⟨r, er⟩ : ∃ r, fi.body = .lfn r := by
      cases e : fi.body with
      | lfn r => exact ⟨r, rfl⟩
      | _ => rw [e] at lf; exact absurd lf Bool.false_ne_true
    rw [er] at h3 h4
    refine F.ok S (fun vs H Q E h => ?_) (fun cdv A outer s H vs Q E hr h => ?_)
    · obtain ⟨F, p, ws, xs, us, ds, Xp, Qp, rfl, _, _, _, _, d, hl, _⟩ := h
      rw [List.length_cons, daLen d, hl, h1]
    · obtain ⟨F, p, ws, xs, us, ds, Xp, Qp, rfl, sb, fp, hp, dx, d, hl, rb, q2, hx, hq⟩ := h
      have hlv : us.length + 1 ≤ fi.N.length := by
        rw [daLen d, hl, h1]
        have e := congrArg List.length S.pre
        rw [List.length_take] at e
        omega
      have rb2 : wS Φ (.lfn r) (ev0 fi.nn (.list xs :: ds)) { nx := fun _ => Qp (.d .none), rt := Qp, ex := fun c _ => Xp c } := by
        have := rb.2
        rw [er] at this
        exact this
      have tz : ∀ {H' : Hp}, SubZ ⟨H, fun a => a = p⟩ H H' → ∀ a o, a ≠ p → H a = some o → H' a = some o := fun t a o ne q => t a o ne q
      refine ⟨_, (snS (Φ := Φ) (k := k) r ⟨C, fun c d _ H => E c d H, ⟨H, fun a => a = p⟩, F⟩ _ (defScope st) rfl ?_ ?_).2 h3 _ h4, ?_⟩
      · exact ⟨hr, sr, tr, ⟨_, _, rfl, hg1, hg2, rfl, rfl⟩, S.nd, rfl, rfl, rfl, takes_of rfl rfl rfl rfl, bl, ex, xf, ar, gc, ca⟩
      · exact ⟨passes_of rfl, fun _ => rfl, S.kind, rfl, rfl⟩
      · refine ⟨pv (ev0 fi.N.length (.list xs :: ds)) 0 (some (.lent xs)), F, { nx := fun _ => False, rt := Qp, ex := fun c _ => Xp c }, startRepL sb fp hp dx d hlv, by rw [← h2]; exact rb2, fun σ ε H' F' R q => q.elim, fun v σ ε H' F' x R a q => ?_, fun _ _ _ _ _ z => z.elim, fun _ _ _ _ _ z => z.elim, fun c σ ε H' F' R q => hx c H' (tz R.h0) (R.ll p rfl).1 q⟩
        cases v with
        | two y ys =>
          obtain ⟨b1, p', ws', b2, b3, b4, b5⟩ := a
          have : p' = p := b5
          subst this
          exact hq.1 y H' F' x ws' ys (tz R.h0) R.ff R.fh R.fr b2 b3 b4 b1 q
        | twoO zs ys =>
          obtain ⟨⟨r, us', e, c1, c2, c3, c4⟩, p', ws', b2, b3, b4, b5⟩ := a
          have : p' = p := b5
          subst this
          subst e
          exact hq.2 zs H' F' r us' ws' ys (tz R.h0) R.ff R.fh R.fr b2 b3 b4 c1 c2 c3 c4.1 q
        | _ => exact absurd (q2 _ q) Bool.noConfusion
  | false =>
  rw [specOf_no lf]
  have eb : bodyOf fi.body = fi.body := by
    cases e : fi.body with
    | lfn r => rw [e] at lf; exact absurd lf.symm Bool.false_ne_true
    | _ => rfl
  rw [eb] at h3 h4
  refine F.ok S (fun vs H Q E h => ?_) (fun cdv A outer s H vs Q E hr h => ?_)
  · obtain ⟨F, ds, Xp, Qp, _, d, hl, _⟩ := h
    rw [daLen d, hl, h1]
  · obtain ⟨F, ds, Xp, Qp, sb, d, hl, rb, hx, hq⟩ := h
    have hlv : vs.length ≤ fi.N.length := by
      rw [daLen d, hl, h1]
      have e := congrArg List.length S.pre
      rw [List.length_take] at e
      omega
    refine ⟨_, (snS (Φ := Φ) (k := k) fi.body ⟨C, fun c d _ H => E c d H, Zn.of H, F⟩ _ (defScope st) rfl ?_ ?_).2 h3 _ h4, ?_⟩
    · exact ⟨hr, sr, tr, ⟨_, _, rfl, hg1, hg2, rfl, rfl⟩, S.nd, rfl, rfl, rfl, takes_of rfl rfl rfl rfl, bl, ex, xf, ar, gc, ca⟩
    · exact ⟨passes_of rfl, fun _ => rfl, S.kind, rfl, rfl⟩
    · refine ⟨ev0 fi.N.length ds, F, { nx := fun _ => Qp (.d .none), rt := Qp, ex := fun c _ => Xp c }, startRep sb d hlv, by rw [← h2]; exact rb.2, fun σ ε H' F' R q => ?_, fun v σ ε H' F' x R a q => ?_, fun _ _ _ _ _ z => z.elim, fun _ _ _ _ _ z => z.elim, fun c σ ε H' F' R q => hx c H' R.h0.same q⟩
      · exact hq (.d .none) H' F' .non R.h0.same R.ff R.fh R.fr Dp.non q
      · refine hq v H' F' x R.h0.same R.ff R.fh R.fr ?_ q
        cases v with
        | d y => exact a
        | own ys =>
          obtain ⟨p, vs, e, g1, g2, g3, g4, _⟩ := a
          exact ⟨p, vs, e, g1, g2, g3, g4.1⟩
        | two y ys =>
          obtain ⟨_, p, _, _, _, _, z⟩ := a
          exact z.elim
        | twoO y ys =>
          obtain ⟨_, p, _, _, _, _, z⟩ := a
          exact z.elim
        | _ => exact a
/-! ### all defs, to any depth -/
structure Tab (K : PySem.W.Frag) (mg : Str → Option Value) (fns : List FnI) (cls : List Str) (C : Nat → Addr) : Prop where
  gc : ∀ (i : Nat) (fi : FnI) (d : D), fns[i]? = some fi → fi.con = some d → ∃ u v, mg fi.name = some u ∧ RelV v u ∧ ∀ F, Dp K F v d
  fn : ∀ (i : Nat) (fi : FnI), fns[i]? = some fi → fi.con = none → ∃ f fd st, mg fi.name = some (.ref f) ∧ FunD K fi.name fi.name (defArgs st) (defBody st) (defScope st) [] [] f fd ∧ Binds K fd fi.ps [] ∧ FnScope fi.N fi.ps (defScope st) ∧ okF fns cls fi st = true
  bl : ∀ x ∈ bltNames, mg x = none
  ex : ∀ (c : Nat) (x : Str), cls[c]? = some x → ClsAt K mg x (C c)
  xf : ExF K cls C
theorem semAr : ∀ (k : Nat) (i : Nat) (fi : FnI) ds Xp Q, fns[i]? = some fi → sem fns k i ds Xp Q → ds.length = fi.np
  | 0, _, _, _, _, _, _, h => h.elim
  | k + 1, i, fi, ds, Xp, Q, e, h => by
    have h' : (match fns[i]? with
      | some fi => runB (sem fns k) fi ds Xp Q
      | none => False) := h
    rw [e] at h'
    exact h'.1
theorem all_ok (T : Tab K mg fns cls C) (sr : base.NoSeer) (tr : P.given.tree = none) : ∀ k, Callees P w K mg base fns C (sem fns k) k
  | 0 => fun i fi e ec => by
    obtain ⟨f, fd, st, h1, h2, h3, h4, h5⟩ := T.fn i fi e ec
    have no : ∀ {vs : List V} {H : Hp} {Q : VK} {E : _}, ¬ specOf K C fi (sem fns 0 i) vs H Q E := fun {vs H Q E} h => by
      unfold specOf at h
      split at h
      · obtain ⟨_, _, _, _, _, _, _, _, _, _, _, _, _, _, _, z, _⟩ := h
        exact z.elim
      · obtain ⟨_, _, _, _, _, _, _, z, _⟩ := h
        exact z.elim
    exact ⟨f, fd, h1, h2.kp, h3, ⟨fun vs H Q E h => absurd h no, fun A outer s H args us vs Q E _ _ _ _ h => absurd h no⟩⟩
  | k + 1 => fun i fi e ec => by
    obtain ⟨f, fd, st, h1, h2, h3, h4, h5⟩ := T.fn i fi e ec
    refine ⟨f, fd, h1, h2.kp, h3, ?_⟩
    have q := fnGo (P := P) (w := w) (base := base) h2 h4 h5 (all_ok T sr tr k) (semAr k) T.bl T.ex T.xf T.gc sr tr
    have e1 : sem fns (k + 1) i = fun ds Xp Q => runB (sem fns k) fi ds Xp Q := by
      funext ds Xp Q
      show (match fns[i]? with
        | some fi => runB (sem fns k) fi ds Xp Q
        | none => False) = _
      rw [e]
    rw [e1]
    exact q
end
end Rc

/-! The end: from a table of terms and a pure law to the row. -/
namespace Rc
open PySem PySem.Spec PyProof.Rows L2
def mkD (fi : FnI) (st : Stmt) : He.DefD := ⟨(fi.name, none), fi.name, fi.name, defArgs st, defBody st, defScope st, [], []⟩
structure DefOk (fns : List FnI) (cls : List Str) (fi : FnI) (st : Stmt) : Prop where
  b : ∀ {K : PySem.W.Frag} {f : Addr} {fd : FuncData}, FunD K fi.name fi.name (defArgs st) (defBody st) (defScope st) [] [] f fd →
    Binds K fd fi.ps [] ∧ ∀ (s : Shared) (us : List Value), us.length = fi.ps.length → BindsTo s fd ⟨us, []⟩ (fi.ps.zip us)
  s : FnScope fi.N fi.ps (defScope st)
  o : okF fns cls fi st = true
inductive AllOk (fns : List FnI) (cls : List Str) : List FnI → List Stmt → Prop where
  | nil {cons : List FnI} : (cons.all fun fi => fi.con.isSome) = true → AllOk fns cls cons []
  | cons {fi st fis sts} : DefOk fns cls fi st → AllOk fns cls fis sts → AllOk fns cls (fi :: fis) (st :: sts)
theorem AllOk.at {fns : List FnI} {cls : List Str} {fis : List FnI} {sts : List Stmt} (h : AllOk fns cls fis sts) : ∀ (i : Nat) (fi : FnI), fis[i]? = some fi → fi.con = none → ∃ st, DefOk fns cls fi st ∧ mkD fi st ∈ List.zipWith mkD fis sts := by
  induction h with
  | nil hc =>
    intro i fi h ec
    have := List.all_eq_true.mp hc fi (List.mem_of_getElem? h)
    rw [ec] at this
    cases this
  | @cons fi st fis sts d r ih =>
    intro i fi2 h ec
    cases i with
    | zero =>
      cases h
      exact ⟨st, d, List.mem_cons_self ..⟩
    | succ i =>
      obtain ⟨st2, d2, m⟩ := ih i fi2 h ec
      exact ⟨st2, d2, List.mem_cons_of_mem _ m⟩
def mkFa (fns : List FnI) (cls : List Str) : List He.Fa := ((fns.filter fun fi => fi.con.isNone).map fun fi => .glo fi.name) ++ (bltNames.map .free ++ (cls.map .glo ++ cls.map .exc))
theorem says_fact {fa : List He.Fa} {fn : List He.DefD} {K : PySem.W.Frag} (c : He.SaysD fa fn K) {f : He.Fa} (h : f ∈ fa) : f.ok K = true := by
  obtain ⟨i, hi, e⟩ := List.mem_iff_getElem.mp h
  exact c.fact i (f := f) (by rw [List.getElem?_eq_getElem hi, e])
theorem says_def {fa : List He.Fa} {fn : List He.DefD} {K : PySem.W.Frag} (c : He.SaysD fa fn K) {d : He.DefD} (h : d ∈ fn) : ∃ fd, FunD K d.name d.qual d.params d.body d.scope (d.dvs K) (d.kws K) (He.fAd K d.at_) fd := by
  obtain ⟨i, hi, e⟩ := List.mem_iff_getElem.mp h
  exact c.def_ i (d := d) (by rw [List.getElem?_eq_getElem hi, e])
def clsA (K : PySem.W.Frag) (cls : List Str) (c : Nat) : Addr := match cls[c]? with
  | some x => He.ga K x
  | none => He.ga K (cls.getD 0 "")
/-- what the error classes say of each other -/
def xF1 (cls : List Str) (K : PySem.W.Frag) (i : Nat) : Bool :=
  (He.eqO (PySem.W.findIn K (.ref (He.ga K (cls.getD i ""))) "__getattribute__") (some (some (.builtin "BaseException.__getattribute__"))) &&
  (He.eqO (PySem.W.findIn K (.ref (He.ga K (cls.getD i ""))) "__getattr__") (some none) &&
  (decide (PySem.W.subIn K (.ref (He.ga K (cls.getD i ""))) (.type "BaseException") = some true) &&
  (PySem.W.hasDictIn K (He.ga K (cls.getD i "")) &&
  (He.eqO (PySem.W.findIn K (.ref (He.ga K (cls.getD i ""))) "__class__") (some (some (.builtin "object.__class__"))) &&
  (He.eqO (PySem.W.specialIn K (.builtin "object.__class__") "__get__") (some (some (.builtin "getset_descriptor.__get__"))) &&
  (decide (PySem.W.takesIn K (.builtin "object.__class__") = some true) &&
  decide (PySem.W.mroIn K (He.ga K (cls.getD i "")) (.type "object") = some true))))))))
def xF2 (cls : List Str) (K : PySem.W.Frag) (i : Nat) : Bool :=
  decide (PySem.W.kitOne K (.ref (He.ga K (cls.getD i ""))) (.type "ValueError") = some true) &&
  (List.range cls.length).all fun j => decide (PySem.W.kitOne K (.ref (He.ga K (cls.getD i ""))) (.ref (He.ga K (cls.getD j ""))) = some (isS i j)) &&
    decide (PySem.W.exmOne K (.ref (He.ga K (cls.getD i ""))) (.ref (He.ga K (cls.getD j ""))) = some (isS i j))
def xF (cls : List Str) (K : PySem.W.Frag) : Bool := (List.range cls.length).all fun i => xF1 cls K i && xF2 cls K i
theorem clsA_lt {K : PySem.W.Frag} {cls : List Str} {c : Nat} (h : c < cls.length) : clsA K cls c = He.ga K (cls.getD c "") := by
  unfold clsA
  rw [List.getElem?_eq_getElem h]
  simp [List.getD, h]
theorem clsA_ge {K : PySem.W.Frag} {cls : List Str} {c : Nat} (h : ¬ c < cls.length) : clsA K cls c = He.ga K (cls.getD 0 "") := by
  unfold clsA
  rw [List.getElem?_eq_none (by omega)]
theorem xF_of {K : PySem.W.Frag} {cls : List Str} (h : xF cls K = true) : ExF K cls (clsA K cls) := by
  have key : ∀ i, i < cls.length → xF1 cls K i = true ∧ xF2 cls K i = true := fun i hi => by
    have := List.all_eq_true.mp h i (List.mem_range.mpr hi)
    simpa [Bool.and_eq_true] using this
  have red : ∀ c', cls ≠ [] → ∃ i, i < cls.length ∧ clsA K cls c' = He.ga K (cls.getD i "") ∧ ∀ c, c < cls.length → isS i c = isS c' c := fun c' hne => by
    have h0 : 0 < cls.length := List.length_pos_iff.mpr hne
    by_cases hl : c' < cls.length
    · exact ⟨c', hl, clsA_lt hl, fun _ _ => rfl⟩
    · refine ⟨0, h0, clsA_ge hl, fun c hc => ?_⟩
      unfold isS
      have : c ≠ c' := by omega
      simp [this]
  have two : ∀ c' c x, cls[c]? = some x → PySem.W.kitOne K (.ref (clsA K cls c')) (.ref (clsA K cls c)) = some (isS c' c) ∧ PySem.W.exmOne K (.ref (clsA K cls c')) (.ref (clsA K cls c)) = some (isS c' c) := fun c' c x e => by
    have hc : c < cls.length := (List.getElem?_eq_some_iff.mp e).1
    have hne : cls ≠ [] := fun z => by rw [z] at hc; cases hc
    obtain ⟨i, hi, e1, e2⟩ := red c' hne
    have q := (key i hi).2
    unfold xF2 at q
    rw [Bool.and_eq_true] at q
    have q2 := List.all_eq_true.mp q.2 c (List.mem_range.mpr hc)
    rw [Bool.and_eq_true] at q2
    rw [e1, clsA_lt hc, ← e2 c hc]
    exact ⟨of_decide_eq_true q2.1, of_decide_eq_true q2.2⟩
  refine ⟨fun c' hne => ?_, fun c' hne => ?_, fun c' c x e => (two c' c x e).1, fun c' c x e => (two c' c x e).2⟩
  · obtain ⟨i, hi, e1, _⟩ := red c' hne
    rw [e1]
    obtain ⟨q1, q⟩ := He.ba (key i hi).1
    obtain ⟨q2, q⟩ := He.ba q
    obtain ⟨q3, q⟩ := He.ba q
    obtain ⟨q4, q⟩ := He.ba q
    obtain ⟨q5, q⟩ := He.ba q
    obtain ⟨q6, q⟩ := He.ba q
    obtain ⟨q7, q8⟩ := He.ba q
    exact ⟨He.eqO_ok q1, He.eqO_ok q2, of_decide_eq_true q3, q4, He.eqO_ok q5, He.eqO_ok q6, of_decide_eq_true q7, of_decide_eq_true q8⟩
  · obtain ⟨i, hi, e1, _⟩ := red c' hne
    rw [e1]
    exact of_decide_eq_true (He.ba (key i hi).2).1
/-! the module's constants -/
mutual
def conV (K : PySem.W.Frag) : D → Value → Bool
  | .none, .none => true
  | .bool a, .bool b => a == b
  | .int a, .int b _ => a == b
  | .str a, .str b _ => decide (a = b)
  | .tuple ds, .ref a => (match K.lookup a with
    | some o => decide (o.cls = .type "tuple") && (match o.data with
      | .seq its _ => decide (its.size ≤ 1000) && conVs K ds its.toList
      | _ => false)
    | none => false)
  | _, _ => false
def conVs (K : PySem.W.Frag) : List D → List Value → Bool
  | [], [] => true
  | d :: r, u :: t => conV K d u && conVs K r t
  | _, _ => false
end
mutual
theorem conV_ok {K : PySem.W.Frag} : ∀ (d : D) (u : Value), conV K d u = true → ∃ v, RelV v u ∧ ∀ F, Dp K F v d
  | .none, u, h => by
    cases u <;> first | exact ⟨.non, rfl, fun _ => .non⟩ | (unfold conV at h; cases h)
  | .bool a, u, h => by
    cases u <;> first | (rename_i b; unfold conV at h; cases (beq_iff_eq.mp h); exact ⟨.bl _, rfl, fun _ => .bl _⟩) | (unfold conV at h; cases h)
  | .int a, u, h => by
    cases u <;> first | (rename_i b t; unfold conV at h; cases (beq_iff_eq.mp h); exact ⟨.int _, ⟨t, rfl⟩, fun _ => .int _⟩) | (unfold conV at h; cases h)
  | .str a, u, h => by
    cases u <;> first | (rename_i b t; unfold conV at h; cases (of_decide_eq_true h); exact ⟨.str _, ⟨t, rfl⟩, fun _ => .str _⟩) | (unfold conV at h; cases h)
  | .list _, u, h => by unfold conV at h; cases h
  | .dict _, u, h => by unfold conV at h; cases h
  | .tuple ds, u, h => by
    cases u with
    | ref a =>
      unfold conV at h
      cases e : K.lookup a with
      | none => rw [e] at h; cases h
      | some o =>
        rw [e] at h
        rw [Bool.and_eq_true] at h
        obtain ⟨h1, h2⟩ := h
        cases e2 : o.data with
        | seq its n =>
          rw [e2] at h2
          rw [Bool.and_eq_true] at h2
          obtain ⟨vs, r, dp⟩ := conVs_ok ds its.toList h2.2
          have sz := of_decide_eq_true h2.1
          exact ⟨.ref a, rfl, fun F => .tup (.inr ⟨o, its, n, e, of_decide_eq_true h1, e2, by rw [line24]; omega, r⟩) (dp F)⟩
        | _ => rw [e2] at h2; cases h2
    | _ => unfold conV at h; cases h
theorem conVs_ok {K : PySem.W.Frag} : ∀ (ds : List D) (us : List Value), conVs K ds us = true → ∃ vs, Vals vs us ∧ ∀ F, DpAll K F vs ds
  | [], us, h => by
    cases us with
    | nil => exact ⟨[], .nil, fun _ => .nil⟩
    | cons _ _ => unfold conVs at h; cases h
  | d :: r, us, h => by
    cases us with
    | nil => unfold conVs at h; cases h
    | cons u t =>
      unfold conVs at h
      rw [Bool.and_eq_true] at h
      obtain ⟨v, r1, d1⟩ := conV_ok d u h.1
      obtain ⟨vs, r2, d2⟩ := conVs_ok r t h.2
      exact ⟨v :: vs, .cons r1 r2, fun F => .cons (d1 F) (d2 F)⟩
end
def conF (K : PySem.W.Frag) (fi : FnI) : Bool := match fi.con with
  | none => true
  | some d => (match PySem.W.nsIn K mainGlobals fi.name with
    | some (some u) => conV K d u
    | _ => false)
theorem conF_ok {K : PySem.W.Frag} {h : Heap} {mg : Str → Option Value} (X : K.In h) (G : h.Ns mainGlobals mg) {fi : FnI} {d : D} (c : conF K fi = true) (e : fi.con = some d) : ∃ u v, mg fi.name = some u ∧ RelV v u ∧ ∀ F, Dp K F v d := by
  unfold conF at c
  rw [e] at c
  cases q : PySem.W.nsIn K mainGlobals fi.name with
  | none => rw [q] at c; cases c
  | some o =>
    cases o with
    | none => rw [q] at c; cases c
    | some u =>
      rw [q] at c
      obtain ⟨v, r, dp⟩ := conV_ok d u c
      exact ⟨u, v, PySem.W.mg_of X G q, r, dp⟩
def xG (fns : List FnI) (cls : List Str) (K : PySem.W.Frag) : Bool := xF cls K && fns.all (conF K)
theorem tab_of {fns : List FnI} {cls : List Str} {sts : List Stmt} {K : PySem.W.Frag} {h : Heap} {mg : Str → Option Value} (A : AllOk fns cls fns sts) (X : K.In h) (G : h.Ns mainGlobals mg)
    (c : He.SaysD (mkFa fns cls) (List.zipWith mkD fns sts) K) (cx : xG fns cls K = true) : Tab K mg fns cls (clsA K cls) := by
  have inFn : ∀ {x : FnI}, x ∈ fns → x.con = none → He.Fa.glo x.name ∈ mkFa fns cls := fun hx ec => List.mem_append_left _ (List.mem_map.mpr ⟨_, List.mem_filter.mpr ⟨hx, by rw [ec]; rfl⟩, rfl⟩)
  unfold xG at cx
  rw [Bool.and_eq_true] at cx
  refine ⟨fun i fi d e ec => conF_ok X G (List.all_eq_true.mp cx.2 fi (List.mem_of_getElem? e)) ec, fun i fi e ec => ?_, fun x hx => ?_, fun i x e => ?_, xF_of cx.1⟩
  · obtain ⟨st, d, m⟩ := A.at i fi e ec
    obtain ⟨fd, F⟩ := says_def c m
    have hm : fi ∈ fns := List.mem_of_getElem? e
    exact ⟨He.ga K fi.name, fd, st, He.glo_ok X G (says_fact c (inFn hm ec)), F, (d.b F).1, d.s, d.o⟩
  · exact He.free_ok X G (says_fact c (List.mem_append_right _ (List.mem_append_left _ (List.mem_map.mpr ⟨_, hx, rfl⟩))))
  · have hm : x ∈ cls := List.mem_of_getElem? e
    have g := He.glo_ok X G (says_fact c (f := .glo x) (List.mem_append_right _ (List.mem_append_right _ (List.mem_append_left _ (List.mem_map.mpr ⟨_, hm, rfl⟩)))))
    obtain ⟨c1, c2, c3, c4⟩ := He.exc_ok (x := x) (says_fact c (List.mem_append_right _ (List.mem_append_right _ (List.mem_append_right _ (List.mem_map.mpr ⟨_, hm, rfl⟩)))))
    have ea : clsA K cls i = He.ga K x := by
      unfold clsA
      rw [e]
    rw [ea]
    exact ⟨g, c1, c2, c3, c4⟩
theorem dpInts {K : PySem.W.Frag} {F : Hp} : ∀ ns : List Int, DpAll K F (ns.map V.int) (ns.map PyData.int)
  | [] => .nil
  | i :: r => .cons (Dp.int i) (dpInts r)
/-- the call of a law's def, at the heap behind the top; the ground that its promise stands on holds what a great division asks for -/
theorem go_law {P : Program} {w : World} {K : PySem.W.Frag} {mg mb : Str → Option Value} {j : Nat} {f p : Addr} {fd : FuncData} {arg : Str} {sp : Sp} {z : Shared} {us : List Value} {ns : List Int}
    (KI : K.In z.heap) (gG : z.heap.Ns mainGlobals mg) (gB : z.heap.Ns builtinsNs mb) (boot : ∀ x : Str, x ≠ "__name__" → mb x = bootBuiltins x) (lim : z.heap.NoLimit) (see : z.heap.NoSeer) (gens : z.gens = #[])
    (at_ : z.heap.get? p = some { cls := .type "list", data := .seq us.toArray }) (are : IntsAre us ns) (few : ns.length ≤ sizeLine) (room : Room j callerA)
    (F : ∀ B : Heap, K.In B → B.Ns mainGlobals mg → B.NoSeer → FnOk P w K mg B (L2.CX P w) j f fd [arg] sp) (bind : ∀ (s : Shared) (u : Value), BindsTo s fd ⟨[u], []⟩ [(arg, u)])
    (pro : ∀ H : Hp, SqL K H p (ns.map V.int) → sp [.ref p] H (fun v _ => v = .bl true) fun _ _ _ => False) :
    codeAny (model P w) callerA (.call (.ref f) ⟨[.ref p], []⟩) (fun r s' => r = .ok (.ret (.bool true)) ∧ OldK z.heap s'.heap ∧ s'.os = z.os ∧ AllBare s'.gens) z := by
  have sizes := are.length
  -- what is tracked: the script alone, or nothing where the module has it
  obtain ⟨H, sq, hok, only, frz, free⟩ : ∃ H : Hp, SqL K H p (ns.map V.int) ∧ HOk P w H z.heap ∧ (∀ c, H c ≠ none → c = p ∧ K.lookup p = none) ∧ (∀ c u, H c = some u → ∃ o xs, u = .frz o (.lst xs)) ∧ (H p = none → (K.lookup p).isSome = true) := by
    cases look : K.lookup p with
    | some o =>
      have same := KI p o look
      rw [at_] at same
      cases same
      refine ⟨fun _ => none, .inr ⟨_, us.toArray, _, look, rfl, rfl, rfl, ?_, ?_⟩, fun c u q => ?_, fun c q => (q rfl).elim, fun c u q => ?_, fun _ => rfl⟩
      · rw [List.size_toArray, sizes]
        exact few
      · simpa using vals_ints are
      · exact absurd (show (none : Option HO) = some u from q) (by simp)
      · exact absurd (show (none : Option HO) = some u from q) (by simp)
    | none =>
      refine ⟨upd (fun _ => none) p (.frz { cls := .type "list", data := .seq us.toArray } (.lst (ns.map V.int))), .inl (.inr ⟨_, upd_same⟩), fun c u q => ?_, fun c q => ?_, fun c u q => ?_, fun q => ?_⟩
      · by_cases e : c = p
        · subst e
          rw [upd_same] at q
          obtain rfl := Option.some.inj q
          refine ⟨at_, ?_, us, _, vals_ints are, at_⟩
          rw [List.length_map]
          exact few
        · rw [upd_ne e] at q
          cases q
      · by_cases e : c = p
        · exact ⟨e, rfl⟩
        · rw [upd_ne e] at q
          exact (q rfl).elim
      · by_cases e : c = p
        · subst e
          rw [upd_same] at q
          exact ⟨_, _, (Option.some.inj q).symm⟩
        · rw [upd_ne e] at q
          cases q
      · rw [upd_same] at q
        cases q
  -- the ground
  have into : ∀ {c : Addr} {o : Obj}, z.heap.get? c = some o → o ≠ { cls := .type "list", data := .seq us.toArray } → (hidT z.heap H).get? c = some o := fun {c o} e ne => by
    refine hidT_get e ?_
    cases q : H c with
    | none => rfl
    | some u =>
      obtain ⟨rfl, _⟩ := only c (by rw [q]; simp)
      rw [at_] at e
      exact (ne (Option.some.inj e).symm).elim
  have names : ∀ {c : Addr} {m : Str → Option Value}, z.heap.Ns c m → (hidT z.heap H).Ns c m := fun {c m} ⟨o, es, ep, e, d, r⟩ => ⟨o, es, ep, into e (fun y => by rw [y] at d; cases d), d, r⟩
  have KB : K.In (hidT z.heap H) := fun c o e => by
    refine hidT_get (KI c o e) ?_
    cases q : H c with
    | none => rfl
    | some u =>
      obtain ⟨rfl, no⟩ := only c (by rw [q]; simp)
      rw [e] at no
      cases no
  have limB : (hidT z.heap H).NoLimit := by
    obtain ⟨mc, l1, l2⟩ := lim
    exact ⟨mc, names l1, l2⟩
  have seeB : (hidT z.heap H).NoSeer := by
    obtain ⟨⟨m1, a1, a2⟩, ⟨m2, b1, b2⟩, ⟨m3, c1, c2⟩, mg', bm, ob, d1, d2, d3, d4, d5⟩ := see
    exact ⟨⟨m1, names a1, a2⟩, ⟨m2, names b1, b2⟩, ⟨m3, names c1, c2⟩, ⟨mg', bm, ob, names d1, d2, into d3 (fun y => by rw [y] at d4; exact absurd (Value.type.inj d4) (by decide)), d4, d5⟩⟩
  have start : Env0 P w K mg (hidT z.heap H) callerA [] z H :=
    { frames := rfl, mod := ⟨KB, names gG, ⟨mb, names gB, boot⟩, limB⟩, bs := fun c o e => of_hidT e, bsz := Nat.le_of_eq (hidT_size _ _), funs := trivial, frf := fun c hc => (List.not_mem_nil hc).elim, hok := hok, bare := .of_eq gens }
  refine codeAny_mono ((F _ KB (names gG) seeB).run callerA [] z H ⟨[.ref p], []⟩ [.ref p] [.ref p] _ _ room start (bind z (.ref p)) (.cons rfl .nil) (pro H sq)) fun r s' h => ?_
  cases r with
  | error e =>
    obtain ⟨_, _, _, _, _, _, _, _, _, _, _, _, no⟩ := h
    exact no.elim
  | ok fl =>
    cases fl with
    | ret u =>
      obtain ⟨v, H', os, bare, un, hok', rel, q⟩ := h
      obtain rfl : v = .bl true := q
      obtain rfl : u = Value.bool true := rel
      refine ⟨rfl, OldK.of_keep fun c o e => ?_, os, bare⟩
      cases q : H c with
      | none => exact un.keep c o e q (fun y => (List.not_mem_nil y).elim) (by simp)
      | some t =>
        obtain ⟨ob, xs, rfl⟩ := frz c t q
        have old := (hok c _ q).1
        have new := (hok' c _ (un.frzs c ob _ q)).1
        rw [e] at old
        obtain rfl := Option.some.inj old
        exact new
    | next => exact False.elim h
    | brk => exact False.elim h
    | cont => exact False.elim h
/-- a law over the small language -/
theorem walk_rc {l : PySem.W.OpenLaw} {n k : Nat} {q : Program} {loose : List Str} {XP : (Str → Option Value) → Heap → Prop} {d : DefRec} {x : Str} {fns : List FnI} {cls : List Str} {sts : List Stmt} {li : Nat} {fi : FnI}
    (hn : l.most = some n) (hn2 : n ≤ sizeLine) (hdf : d.params.defaults = []) (hr : Room (k + 33) callerA) (tr : l.prog.given.tree = none) (im : importsNone q = true)
    (A : AllOk fns cls fns sts) (hli : fns[li]? = some fi) (hname : d.name = fi.name) (hps : fi.ps = [x]) (hnp : fi.np = 1) (hcon : fi.con = none)
    (hp : ∀ ns : List Int, ns.length ≤ n → (∀ z ∈ ns, Builtin.Int.intBits z ≤ 1048576) → sem fns (k + 1) li [.list (ns.map .int)] (fun _ => False) (fun v => v = Val.d (.bool true))) (hlf : isLfn fi.body = false := by rfl) :
    PySem.W.WalkO q loose XP (He.hookX 4 (mkFa fns cls) (List.zipWith mkD fns sts) [] [] (xG fns cls)).says l.row.toRowW d [] (fun f vs => PySem.call f vs) := by
  refine Att.attach_callB hn hdf fun w s₀ s₁ mg mb fa o pm cd doc a vs ns G Y ho hd hcd hmg hobj hints hlen hbits hg => ?_
  obtain ⟨K, KX, cX⟩ := Y
  have c : He.SaysD (mkFa fns cls) (List.zipWith mkD fns sts) K := cX.t.d
  have T : Tab K mg fns cls (clsA K cls) := tab_of A KX G.T.g c cX.more
  obtain ⟨st2, d2, m2⟩ := A.at li fi hli hcon
  obtain ⟨fd2, F2⟩ := says_def c m2
  have h1' := He.glo_ok KX G.T.g (says_fact c (f := .glo fi.name) (List.mem_append_left _ (List.mem_map.mpr ⟨_, List.mem_filter.mpr ⟨List.mem_of_getElem? hli, by rw [hcon]; rfl⟩, rfl⟩)))
  have ea : He.ga K fi.name = fa := by
    have := h1'.symm.trans ((congrArg mg hname.symm).trans hmg)
    cases this
    rfl
  have hb := (d2.b F2).2
  have F3 : FunD K fi.name fi.name (defArgs st2) (defBody st2) (defScope st2) [] [] fa fd2 := ea ▸ F2
  refine go_law (arg := x) (j := k + 32 + 1) (fd := fd2) (sp := spec K (clsA K cls) fi.np (fun ds Xp Q => runB (sem fns k) fi ds Xp Q)) KX G.T.g G.T.b G.T.builtins G.T.nolimit (G.T.seer im) hg hobj hints (Nat.le_trans hlen hn2) hr (fun base _ _ sr => ?_) (fun s u => ?_) (fun H hS => ?_)
  · have g4 := fnGo (P := l.prog) (w := w) (base := base) F3 d2.s d2.o (all_ok (P := l.prog) (w := w) (base := base) T sr tr k) (semAr k) T.bl T.ex T.xf T.gc sr tr
    rw [hps, specOf_no hlf] at g4
    exact g4
  · have := hb s [u] (by rw [hps]; rfl)
    rw [hps] at this
    exact this
  · have hp1 := hp ns hlen hbits
    have e1 : sem fns (k + 1) li [.list (ns.map .int)] (fun _ => False) (fun v => v = Val.d (.bool true)) = runB (sem fns k) fi [.list (ns.map .int)] (fun _ => False) (fun v => v = Val.d (.bool true)) := by
      show (match fns[li]? with
        | some fi => runB (sem fns k) fi [.list (ns.map .int)] (fun _ => False) (fun v => v = Val.d (.bool true))
        | none => False) = _
      rw [hli]
    rw [e1] at hp1
    refine ⟨H, [.list (ns.map .int)], fun _ => False, fun v => v = Val.d (.bool true), .refl _, .cons (Dp.lst hS (dpInts ns)) .nil, ?_, hp1, fun _ _ _ z => z.elim, fun v H' F' x _ _ _ _ vr e => ?_⟩
    · rw [hnp]
      rfl
    · subst e
      exact dpBl vr
end Rc

namespace K65
open PySem PySem.Spec PyProof.Rows L2 Rc
def b_is_whole : IS :=
  (.seq (.ret (.band (.isi .int (.var 0)) (.bone (.bnot (.isi .bool (.var 0)))))) <|
  .nil)
abbrev f_is_whole : FnI := ⟨"is_whole", ["thing"], ["thing"], 1, 1, b_is_whole, none⟩

def c_divisor_1 : IE :=
  (.cmp .Gt (.var 1) (.cst (.int 0)))
def b_divisor_2 : IS :=
  (.seq (.par 0 1 (.var 1) (.bin .Mod (.var 0) (.var 1))) <|
  .nil)
def b_divisor_3 : IS :=
  (.seq (.ret (.mov 0)) <|
  .nil)
def b_divisor : IS :=
  (.seq (.asg 0 (.bi .abs (.cons (.var 0) .nil))) <|
  (.seq (.asg 1 (.bi .abs (.cons (.var 1) .nil))) <|
  (.seq (.whl c_divisor_1 b_divisor_2) <|
  b_divisor_3)))
abbrev f_divisor : FnI := ⟨"divisor", ["one", "other"], ["one", "other"], 2, 2, b_divisor, none⟩

def b_is_fraction : IS :=
  (.seq (.ite (.bor (.bnot (.isi .tuple (.var 0))) (.bone (.cmp .NotEq (.len (.var 0)) (.cst (.int 2)))))
    (.seq (.ret (.cst (.bool false))) <|
    .nil)
    .nil) <|
  (.seq (.ite (.bor (.bnot (.call 0 (.cons (.ix (.var 0) (.cst (.int 0))) .nil))) (.bone (.bnot (.call 0 (.cons (.ix (.var 0) (.cst (.int 1))) .nil)))))
    (.seq (.ret (.cst (.bool false))) <|
    .nil)
    .nil) <|
  (.seq (.ret (.band (.cmp .Gt (.ix (.var 0) (.cst (.int 1))) (.cst (.int 0))) (.bone (.cmp .Eq (.call 1 (.cons (.ix (.var 0) (.cst (.int 0))) (.cons (.ix (.var 0) (.cst (.int 1))) .nil))) (.cst (.int 1)))))) <|
  .nil)))
abbrev f_is_fraction : FnI := ⟨"is_fraction", ["thing"], ["thing"], 1, 1, b_is_fraction, none⟩

def b_fraction_1 : IS :=
  (.seq (.ret (.tup (.cons (.bin .FloorDiv (.var 0) (.var 2)) (.cons (.bin .FloorDiv (.var 1) (.var 2)) .nil)))) <|
  .nil)
def b_fraction : IS :=
  (.seq (.ite (.cmp .Eq (.var 1) (.cst (.int 0)))
    (.seq (.raise 1) <|
    .nil)
    .nil) <|
  (.seq (.asg 2 (.call 1 (.cons (.var 0) (.cons (.var 1) .nil)))) <|
  (.seq (.ite (.cmp .Lt (.var 1) (.cst (.int 0)))
    (.seq (.asg 2 (.bin .Sub (.cst (.int 0)) (.var 2))) <|
    .nil)
    .nil) <|
  b_fraction_1)))
abbrev f_fraction : FnI := ⟨"fraction", ["top", "bottom"], ["top", "bottom", "shared_part"], 2, 3, b_fraction, none⟩

def b_plus : IS :=
  (.seq (.ret (.call 3 (.cons (.bin .Add (.bin .Mult (.ix (.var 0) (.cst (.int 0))) (.ix (.var 1) (.cst (.int 1)))) (.bin .Mult (.ix (.var 1) (.cst (.int 0))) (.ix (.var 0) (.cst (.int 1))))) (.cons (.bin .Mult (.ix (.var 0) (.cst (.int 1))) (.ix (.var 1) (.cst (.int 1)))) .nil)))) <|
  .nil)
abbrev f_plus : FnI := ⟨"plus", ["one", "other"], ["one", "other"], 2, 2, b_plus, none⟩

def b_times : IS :=
  (.seq (.ret (.call 3 (.cons (.bin .Mult (.ix (.var 0) (.cst (.int 0))) (.ix (.var 1) (.cst (.int 0)))) (.cons (.bin .Mult (.ix (.var 0) (.cst (.int 1))) (.ix (.var 1) (.cst (.int 1)))) .nil)))) <|
  .nil)
abbrev f_times : FnI := ⟨"times", ["one", "other"], ["one", "other"], 2, 2, b_times, none⟩

def c_square_out_1 : IE :=
  (.cmp .LtE (.bin .Mult (.var 3) (.var 3)) (.var 2))
def b_square_out_2 : IS :=
  (.seq (.ite (.cmp .Eq (.bin .Mod (.var 2) (.bin .Mult (.var 3) (.var 3))) (.cst (.int 0)))
    (.seq (.asg 2 (.bin .FloorDiv (.var 2) (.bin .Mult (.var 3) (.var 3)))) <|
    (.seq (.asg 1 (.bin .Mult (.var 1) (.var 3))) <|
    .nil))
    (.seq (.asg 3 (.bin .Add (.var 3) (.cst (.int 1)))) <|
    .nil)) <|
  .nil)
def b_square_out_3 : IS :=
  (.seq (.ret (.tup (.cons (.var 1) (.cons (.var 2) .nil)))) <|
  .nil)
def b_square_out : IS :=
  (.seq (.asg 1 (.cst (.int 1))) <|
  (.seq (.asg 2 (.var 0)) <|
  (.seq (.asg 3 (.cst (.int 2))) <|
  (.seq (.whl c_square_out_1 b_square_out_2) <|
  b_square_out_3))))
abbrev f_square_out : FnI := ⟨"square_out", ["d"], ["d", "out", "rest", "step"], 1, 4, b_square_out, none⟩

def b_is_pair : IS :=
  (.seq (.ite (.bor (.bnot (.isi .tuple (.var 0))) (.bor (.cmp .NotEq (.len (.var 0)) (.cst (.int 2))) (.bor (.bnot (.call 0 (.cons (.ix (.var 0) (.cst (.int 0))) .nil))) (.bone (.bnot (.call 2 (.cons (.ix (.var 0) (.cst (.int 1))) .nil)))))))
    (.seq (.ret (.cst (.bool false))) <|
    .nil)
    .nil) <|
  (.seq (.ret (.band (.cmp2 .Lt .LtE (.cst (.int 0)) (.ix (.var 0) (.cst (.int 0))) (.gc 25 (.int 1000000000000))) (.band (.cmp .NotEq (.ix (.ix (.var 0) (.cst (.int 1))) (.cst (.int 0))) (.cst (.int 0))) (.bone (.cmp .Eq (.ix (.call 6 (.cons (.ix (.var 0) (.cst (.int 0))) .nil)) (.cst (.int 0))) (.cst (.int 1))))))) <|
  .nil))
abbrev f_is_pair : FnI := ⟨"is_pair", ["thing"], ["thing"], 1, 1, b_is_pair, none⟩

def e_is_root_sum_1 : IE :=
  (.call 7 (.cons (.var 1) .nil))
def e_is_root_sum_2 : IE :=
  (.ix (.var 1) (.cst (.int 0)))
def e_is_root_sum_3 : IE :=
  (.cmp .Lt (.var 3) (.var 4))
def b_is_root_sum : IS :=
  (.seq (.ite (.bor (.bnot (.isi .tuple (.var 0))) (.bone (.bnot (.bi .all (.cons (.lc (.one 1) (.itv (.var 0)) .nil e_is_root_sum_1) .nil)))))
    (.seq (.ret (.cst (.bool false))) <|
    .nil)
    .nil) <|
  (.seq (.asg 2 (.lc (.one 1) (.itv (.var 0)) .nil e_is_root_sum_2)) <|
  (.seq (.ret (.band (.bi .all (.cons (.lc (.tup [3, 4]) (.zip (.var 2) (.sl (.var 2) (.cst (.int 1)) .nil)) .nil e_is_root_sum_3) .nil)) (.bone (.cmp .LtE (.len (.call 9 (.cons (.var 0) .nil))) (.gc 26 (.int 3)))))) <|
  .nil)))
abbrev f_is_root_sum : FnI := ⟨"is_root_sum", ["thing"], ["thing", "pair", "some", "one", "other"], 1, 5, b_is_root_sum, none⟩

def c_roots_in_1 : IE :=
  (.cmp .Gt (.ix (.var 1) (.cst (.int 0))) (.cst (.int 1)))
def b_roots_in : IS :=
  (.seq (.ret (.lc (.one 1) (.itv (.var 0)) c_roots_in_1 (.var 1))) <|
  .nil)
abbrev f_roots_in : FnI := ⟨"roots_in", ["one"], ["one", "pair"], 1, 2, b_roots_in, none⟩

def b_gathered_1 : IS :=
  (.seq (.dset 1 (.var 2) (.call 4 (.cons (.dget 1 (.var 2) (.gc 27 (.tuple [(.int 0), (.int 1)]))) (.cons (.var 3) .nil)))) <|
  .nil)
def c_gathered_2 : IE :=
  (.cmp .NotEq (.dix 1 (.var 2)) (.gc 27 (.tuple [(.int 0), (.int 1)])))
def e_gathered_3 : IE :=
  (.tup (.cons (.var 2) (.cons (.dix 1 (.var 2)) .nil)))
def e_gathered_4 : IE :=
  (.cmp .Gt (.var 2) (.gc 25 (.int 1000000000000)))
def b_gathered_5 : IS :=
  (.seq (.asg 4 (.bi .tuple (.cons (.lcD (.one 2) (.itv (.dsrt 1)) c_gathered_2 e_gathered_3 1) .nil))) <|
  (.seq (.ite (.bor (.cmp .Gt (.len (.call 9 (.cons (.var 4) .nil))) (.gc 26 (.int 3))) (.bone (.bi .any (.cons (.lc (.tup [2, 3]) (.itv (.var 4)) .nil e_gathered_4) .nil))))
    (.seq (.raise 2) <|
    .nil)
    .nil) <|
  (.seq (.ret (.mov 4)) <|
  .nil)))
def b_gathered : IS :=
  (.seq (.dnew 1 false) <|
  (.seq (.forr (.tup [2, 3]) (.itv (.var 0)) b_gathered_1) <|
  b_gathered_5))
abbrev f_gathered : FnI := ⟨"gathered", ["pairs"], ["pairs", "found", "d", "c", "told"], 1, 5, b_gathered, none⟩

def b_root_sum_1 : IS :=
  (.seq (.asgT [4, 5] (.call 6 (.cons (.var 2) .nil))) <|
  (.seq (.app 1 (.tup (.cons (.var 5) (.cons (.call 5 (.cons (.var 3) (.cons (.tup (.cons (.var 4) (.cons (.cst (.int 1)) .nil))) .nil))) .nil)))) <|
  .nil))
def b_root_sum_2 : IS :=
  (.seq (.ret (.call 10 (.cons (.var 1) .nil))) <|
  .nil)
def b_root_sum : IS :=
  (.seq (.asg 1 (.lst .nil)) <|
  (.seq (.forr (.tup [2, 3]) (.itv (.var 0)) b_root_sum_1) <|
  b_root_sum_2))
abbrev f_root_sum : FnI := ⟨"root_sum", ["terms"], ["terms", "pairs", "d", "c", "out", "rest"], 1, 6, b_root_sum, none⟩

def b_s_plus : IS :=
  (.seq (.ret (.call 10 (.cons (.bin .Add (.var 0) (.var 1)) .nil))) <|
  .nil)
abbrev f_s_plus : FnI := ⟨"s_plus", ["one", "other"], ["one", "other"], 2, 2, b_s_plus, none⟩

def e_s_minus_1 : IE :=
  (.tup (.cons (.var 2) (.cons (.tup (.cons (.neg (.ix (.var 3) (.cst (.int 0)))) (.cons (.ix (.var 3) (.cst (.int 1))) .nil))) .nil)))
def b_s_minus : IS :=
  (.seq (.ret (.call 10 (.cons (.bin .Add (.var 0) (.bi .tuple (.cons (.lc (.tup [2, 3]) (.itv (.var 1)) .nil e_s_minus_1) .nil))) .nil))) <|
  .nil)
abbrev f_s_minus : FnI := ⟨"s_minus", ["one", "other"], ["one", "other", "d", "c"], 2, 4, b_s_minus, none⟩

def b_s_times_1 : IS :=
  (.seq (.asg 7 (.call 1 (.cons (.var 3) (.cons (.var 5) .nil)))) <|
  (.seq (.app 2 (.tup (.cons (.bin .Mult (.bin .FloorDiv (.var 3) (.var 7)) (.bin .FloorDiv (.var 5) (.var 7))) (.cons (.call 5 (.cons (.call 5 (.cons (.var 4) (.cons (.var 6) .nil))) (.cons (.tup (.cons (.var 7) (.cons (.cst (.int 1)) .nil))) .nil))) .nil)))) <|
  .nil))
def b_s_times_2 : IS :=
  (.seq (.forr (.tup [5, 6]) (.itv (.var 1)) b_s_times_1) <|
  .nil)
def b_s_times_3 : IS :=
  (.seq (.ret (.call 10 (.cons (.var 2) .nil))) <|
  .nil)
def b_s_times : IS :=
  (.seq (.asg 2 (.lst .nil)) <|
  (.seq (.forr (.tup [3, 4]) (.itv (.var 0)) b_s_times_2) <|
  b_s_times_3))
abbrev f_s_times : FnI := ⟨"s_times", ["one", "other"], ["one", "other", "pairs", "d", "c", "e", "k", "part"], 2, 8, b_s_times, none⟩

def b__law_cell_at : IS :=
  (.seq (.ite (.cmp .Lt (.var 1) (.len (.var 0)))
    (.seq (.ret (.ix (.var 0) (.var 1))) <|
    .nil)
    .nil) <|
  (.seq (.ret (.cst (.int 0))) <|
  .nil))
abbrev f__law_cell_at : FnI := ⟨"_law_cell_at", ["_law_script", "_law_k"], ["_law_script", "_law_k"], 2, 2, b__law_cell_at, none⟩

def b__law_one_1 : IS :=
  (.seq (.asg 6 (.call 15 (.cons (.var 0) (.cons (.bin .Add (.bin .Add (.var 1) (.cst (.int 1))) (.var 5)) .nil)))) <|
  (.seq (.asg 7 (.ix (.lst (.cons (.cst (.int 4)) (.cons (.cst (.int 30)) (.cons (.bin .Pow (.cst (.int 10)) (.cst (.int 12))) .nil)))) (.bin .Mod (.var 6) (.cst (.int 3))))) <|
  (.seq (.asg 8 (.call 3 (.cons (.bin .Sub (.bin .Mod (.bin .FloorDiv (.var 6) (.cst (.int 3))) (.bin .Add (.bin .Mult (.cst (.int 2)) (.var 7)) (.cst (.int 1)))) (.var 7)) (.cons (.bin .Add (.cst (.int 1)) (.bin .Mod (.bin .FloorDiv (.var 6) (.cst (.int 11))) (.ix (.lst (.cons (.cst (.int 1)) (.cons (.cst (.int 6)) (.cons (.bin .Pow (.cst (.int 10)) (.cst (.int 6))) .nil)))) (.bin .Mod (.var 6) (.cst (.int 3)))))) .nil)))) <|
  (.seq (.app 4 (.tup (.cons (.ix (.var 2) (.bin .Mod (.bin .FloorDiv (.bin .FloorDiv (.var 3) (.cst (.int 4))) (.bin .Add (.cst (.int 1)) (.bin .Mult (.cst (.int 3)) (.var 5)))) (.len (.var 2)))) (.cons (.var 8) .nil)))) <|
  .nil))))
def b__law_one_2 : IS :=
  (.seq (.ret (.call 11 (.cons (.var 4) .nil))) <|
  .nil)
def b__law_one : IS :=
  (.seq (.asg 3 (.call 15 (.cons (.var 0) (.cons (.var 1) .nil)))) <|
  (.seq (.asg 4 (.lst .nil)) <|
  (.seq (.forr (.one 5) (.rng1 (.bin .Mod (.var 3) (.cst (.int 4)))) b__law_one_1) <|
  b__law_one_2)))
abbrev f__law_one : FnI := ⟨"_law_one", ["_law_script", "_law_at", "_law_roots"], ["_law_script", "_law_at", "_law_roots", "_law_cell", "_law_terms", "_law_k", "_law_draw", "_law_size", "_law_c"], 3, 9, b__law_one, none⟩

def c__law_divisor_1 : IE :=
  (.cmp .Gt (.var 1) (.cst (.int 0)))
def b__law_divisor_2 : IS :=
  (.seq (.par 0 1 (.var 1) (.bin .Mod (.var 0) (.var 1))) <|
  .nil)
def b__law_divisor_3 : IS :=
  (.seq (.ret (.mov 0)) <|
  .nil)
def b__law_divisor : IS :=
  (.seq (.whl c__law_divisor_1 b__law_divisor_2) <|
  b__law_divisor_3)
abbrev f__law_divisor : FnI := ⟨"_law_divisor", ["_law_one_here", "_law_other"], ["_law_one_here", "_law_other"], 2, 2, b__law_divisor, none⟩

def b__law_gathered_1 : IS :=
  (.seq (.dset 1 (.var 2) (.call 4 (.cons (.dget 1 (.var 2) (.tup (.cons (.cst (.int 0)) (.cons (.cst (.int 1)) .nil)))) (.cons (.var 3) .nil)))) <|
  .nil)
def c__law_gathered_2 : IE :=
  (.cmp .NotEq (.ix (.dix 1 (.var 2)) (.cst (.int 0))) (.cst (.int 0)))
def e__law_gathered_3 : IE :=
  (.tup (.cons (.var 2) (.cons (.dix 1 (.var 2)) .nil)))
def c__law_gathered_4 : IE :=
  (.cmp .Gt (.ix (.var 5) (.cst (.int 0))) (.cst (.int 1)))
def b__law_gathered_5 : IS :=
  (.seq (.asg 4 (.bi .tuple (.cons (.lcD (.one 2) (.itv (.dsrt 1)) c__law_gathered_2 e__law_gathered_3 1) .nil))) <|
  (.seq (.ite (.cmp .Gt (.len (.lc (.one 5) (.itv (.var 4)) c__law_gathered_4 (.var 5))) (.cst (.int 3)))
    (.seq (.ret (.cst .none)) <|
    .nil)
    .nil) <|
  (.seq (.ret (.mov 4)) <|
  .nil)))
def b__law_gathered : IS :=
  (.seq (.dnew 1 false) <|
  (.seq (.forr (.tup [2, 3]) (.itv (.var 0)) b__law_gathered_1) <|
  b__law_gathered_5))
abbrev f__law_gathered : FnI := ⟨"_law_gathered", ["_law_pairs"], ["_law_pairs", "_law_found", "_law_d", "_law_c", "_law_told", "_law_pair"], 1, 6, b__law_gathered, none⟩

def e__law_due_1 : IE :=
  (.tup (.cons (.var 3) (.cons (.tup (.cons (.neg (.ix (.var 4) (.cst (.int 0)))) (.cons (.ix (.var 4) (.cst (.int 1))) .nil))) .nil)))
def b__law_due_2 : IS :=
  (.seq (.asg 8 (.call 17 (.cons (.var 3) (.cons (.var 6) .nil)))) <|
  (.seq (.app 5 (.tup (.cons (.bin .FloorDiv (.bin .FloorDiv (.bin .Mult (.var 3) (.var 6)) (.var 8)) (.var 8)) (.cons (.call 5 (.cons (.call 5 (.cons (.var 4) (.cons (.var 7) .nil))) (.cons (.tup (.cons (.var 8) (.cons (.cst (.int 1)) .nil))) .nil))) .nil)))) <|
  .nil))
def b__law_due_3 : IS :=
  (.seq (.forr (.tup [6, 7]) (.itv (.var 2)) b__law_due_2) <|
  .nil)
def b__law_due_4 : IS :=
  (.seq (.ret (.call 18 (.cons (.var 5) .nil))) <|
  .nil)
def b__law_due : IS :=
  (.seq (.ite (.cmp .Eq (.var 0) (.cst (.int 0)))
    (.seq (.ret (.call 18 (.cons (.bin .Add (.var 1) (.var 2)) .nil))) <|
    .nil)
    .nil) <|
  (.seq (.ite (.cmp .Eq (.var 0) (.cst (.int 1)))
    (.seq (.ret (.call 18 (.cons (.bin .Add (.var 1) (.bi .tuple (.cons (.lc (.tup [3, 4]) (.itv (.var 2)) .nil e__law_due_1) .nil))) .nil))) <|
    .nil)
    .nil) <|
  (.seq (.asg 5 (.lst .nil)) <|
  (.seq (.forr (.tup [3, 4]) (.itv (.var 1)) b__law_due_3) <|
  b__law_due_4))))
abbrev f__law_due : FnI := ⟨"_law_due", ["_law_deed", "_law_one_here", "_law_other"], ["_law_deed", "_law_one_here", "_law_other", "_law_d", "_law_c", "_law_pairs", "_law_e", "_law_k", "_law_part"], 3, 9, b__law_due, none⟩

def b__law_done_1 : IS :=
  (.seq (.ret (.mov 3)) <|
  .nil)
def b__law_done : IS :=
  (.seq (.asg 3 (.cst .none)) <|
  (.seq (.try1
    (.seq (.ite (.cmp .Eq (.var 0) (.cst (.int 0)))
      (.seq (.asg 3 (.call 12 (.cons (.var 1) (.cons (.var 2) .nil)))) <|
      .nil)
      (.seq (.ite (.cmp .Eq (.var 0) (.cst (.int 1)))
        (.seq (.asg 3 (.call 13 (.cons (.var 1) (.cons (.var 2) .nil)))) <|
        .nil)
        (.seq (.asg 3 (.call 14 (.cons (.var 1) (.cons (.var 2) .nil)))) <|
        .nil)) <|
      .nil)) <|
    .nil) 2 none
    (.asg 3 (.cst .none) .nil)) <|
  b__law_done_1))
abbrev f__law_done : FnI := ⟨"_law_done", ["_law_deed", "_law_one_here", "_law_other"], ["_law_deed", "_law_one_here", "_law_other", "_law_found"], 3, 4, b__law_done, none⟩

def b__law_right_1 : IS :=
  (.seq (.asg 3 (.call 20 (.cons (.var 2) (.cons (.var 0) (.cons (.var 1) .nil))))) <|
  (.seq (.ite (.bor (.cmp .NotEq (.var 3) (.call 19 (.cons (.var 2) (.cons (.var 0) (.cons (.var 1) .nil))))) (.bone (.band (.cmp .IsNot (.var 3) (.cst .none)) (.bone (.bnot (.call 8 (.cons (.var 3) .nil)))))))
    (.seq (.ret (.cst (.bool false))) <|
    .nil)
    .nil) <|
  .nil))
def b__law_right_2 : IS :=
  (.seq (.ret (.band (.cmp .Eq (.call 13 (.cons (.var 0) (.cons (.var 0) .nil))) (.tup .nil)) (.bone (.cmp .Eq (.call 20 (.cons (.cst (.int 0)) (.cons (.var 0) (.cons (.var 1) .nil)))) (.call 20 (.cons (.cst (.int 0)) (.cons (.var 1) (.cons (.var 0) .nil)))))))) <|
  .nil)
def b__law_right : IS :=
  (.seq (.forr (.one 2) (.rng1 (.cst (.int 3))) b__law_right_1) <|
  b__law_right_2)
abbrev f__law_right : FnI := ⟨"_law_right", ["_law_one_here", "_law_other"], ["_law_one_here", "_law_other", "_law_deed", "_law_found"], 2, 4, b__law_right, none⟩

def b__law_laws : IS :=
  (.seq (.asg 3 (.call 20 (.cons (.cst (.int 0)) (.cons (.var 0) (.cons (.var 1) .nil))))) <|
  (.seq (.ite (.cmp .Is (.var 3) (.cst .none))
    (.seq (.ret (.cst (.bool true))) <|
    .nil)
    .nil) <|
  (.seq (.asg 4 (.call 20 (.cons (.cst (.int 2)) (.cons (.var 3) (.cons (.var 2) .nil))))) <|
  (.seq (.asg 5 (.lst (.cons (.call 20 (.cons (.cst (.int 2)) (.cons (.var 0) (.cons (.var 2) .nil)))) (.cons (.call 20 (.cons (.cst (.int 2)) (.cons (.var 1) (.cons (.var 2) .nil)))) .nil)))) <|
  (.seq (.ite (.band (.inn true (.cst .none) (.var 5)) (.band (.cmp .IsNot (.var 4) (.cst .none)) (.bone (.cmp .NotEq (.call 20 (.cons (.cst (.int 0)) (.cons (.ix (.var 5) (.cst (.int 0))) (.cons (.ix (.var 5) (.cst (.int 1))) .nil)))) (.var 4)))))
    (.seq (.ret (.cst (.bool false))) <|
    .nil)
    .nil) <|
  (.seq (.asg 6 (.call 20 (.cons (.cst (.int 1)) (.cons (.var 3) (.cons (.var 1) .nil))))) <|
  (.seq (.ret (.bor (.cmp .Is (.var 6) (.cst .none)) (.bone (.cmp .Eq (.var 6) (.var 0))))) <|
  .nil)))))))
abbrev f__law_laws : FnI := ⟨"_law_laws", ["_law_one_here", "_law_other", "_law_more"], ["_law_one_here", "_law_other", "_law_more", "_law_both", "_law_left", "_law_some", "_law_back"], 3, 7, b__law_laws, none⟩

def b__law_great : IS :=
  (.seq (.asg 1 (.call 11 (.cons (.lst (.cons (.tup (.cons (.ix (.lst (.cons (.cst (.int 9973)) (.cons (.cst (.int 9967)) (.cons (.cst (.int 9949)) .nil)))) (.bin .Mod (.var 0) (.cst (.int 3)))) (.cons (.tup (.cons (.cst (.int 1)) (.cons (.cst (.int 1)) .nil))) .nil))) .nil)) .nil))) <|
  (.seq (.asg 2 (.call 11 (.cons (.lst (.cons (.tup (.cons (.ix (.lst (.cons (.cst (.int 9941)) (.cons (.cst (.int 9931)) (.cons (.cst (.int 9929)) .nil)))) (.bin .Mod (.bin .FloorDiv (.var 0) (.cst (.int 3))) (.cst (.int 3)))) (.cons (.tup (.cons (.cst (.int 1)) (.cons (.bin .Add (.cst (.int 1)) (.bin .Mod (.bin .FloorDiv (.var 0) (.cst (.int 9))) (.cst (.int 9)))) .nil))) .nil))) .nil)) .nil))) <|
  (.seq (.asg 3 (.call 14 (.cons (.var 1) (.cons (.var 2) .nil)))) <|
  (.seq (.asg 4 (.call 11 (.cons (.lst (.cons (.tup (.cons (.ix (.lst (.cons (.cst (.int 9923)) (.cons (.cst (.int 9907)) (.cons (.cst (.int 9901)) .nil)))) (.bin .Mod (.bin .FloorDiv (.var 0) (.cst (.int 81))) (.cst (.int 3)))) (.cons (.tup (.cons (.cst (.int 2)) (.cons (.cst (.int 3)) .nil))) .nil))) .nil)) .nil))) <|
  (.seq (.asg 5 (.call 14 (.cons (.var 3) (.cons (.var 4) .nil)))) <|
  (.seq (.asg 6 (.call 11 (.cons (.lst (.cons (.lit (.tuple [(.int 9887), (.tuple [(.int 1), (.int 1)])])) .nil)) .nil))) <|
  (.seq (.ret (.band (.cmp .Eq (.len (.var 5)) (.cst (.int 1))) (.band (.cmp2 .Lt .Lt (.bin .Pow (.cst (.int 10)) (.cst (.int 11))) (.ix (.ix (.var 5) (.cst (.int 0))) (.cst (.int 0))) (.bin .Pow (.cst (.int 10)) (.cst (.int 12)))) (.bone (.cmp .Is (.call 20 (.cons (.cst (.int 2)) (.cons (.var 5) (.cons (.var 6) .nil)))) (.cst .none)))))) <|
  .nil)))))))
abbrev f__law_great : FnI := ⟨"_law_great", ["_law_cell"], ["_law_cell", "_law_one_here", "_law_other", "_law_both", "_law_last", "_law_all_three", "_law_more"], 1, 7, b__law_great, none⟩

def b_law : IS :=
  (.seq (.asg 1 (.call 15 (.cons (.var 0) (.cons (.cst (.int 0)) .nil)))) <|
  (.seq (.asg 2 (.ix (.lst (.cons (.cst (.int 7)) (.cons (.cst (.int 11)) (.cons (.cst (.int 13)) (.cons (.cst (.int 15)) (.cons (.cst (.int 21)) (.cons (.cst (.int 34)) (.cons (.cst (.int 97)) (.cons (.cst (.int 95)) .nil))))))))) (.bin .Mod (.var 1) (.cst (.int 8))))) <|
  (.seq (.asg 3 (.ix (.lst (.cons (.lst (.cons (.cst (.int 1)) (.cons (.cst (.int 2)) (.cons (.cst (.int 3)) (.cons (.cst (.int 6)) .nil))))) (.cons (.lst (.cons (.cst (.int 1)) (.cons (.cst (.int 2)) (.cons (.cst (.int 8)) (.cons (.cst (.int 18)) .nil))))) (.cons (.lst (.cons (.cst (.int 1)) (.cons (.cst (.int 5)) (.cons (.cst (.int 2)) (.cons (.cst (.int 10)) .nil))))) (.cons (.lst (.cons (.cst (.int 1)) (.cons (.var 2) (.cons (.bin .Mult (.cst (.int 4)) (.var 2)) (.cons (.cst (.int 1)) .nil))))) (.cons (.lst (.cons (.cst (.int 2)) (.cons (.cst (.int 3)) (.cons (.cst (.int 5)) (.cons (.cst (.int 1)) .nil))))) .nil)))))) (.bin .Mod (.bin .FloorDiv (.var 1) (.cst (.int 8))) (.cst (.int 5))))) <|
  (.seq (.asg 4 (.call 16 (.cons (.var 0) (.cons (.cst (.int 1)) (.cons (.var 3) .nil))))) <|
  (.seq (.asg 5 (.call 16 (.cons (.var 0) (.cons (.cst (.int 5)) (.cons (.ix (.lst (.cons (.var 3) (.cons (.var 3) (.cons (.lst (.cons (.cst (.int 1)) (.cons (.cst (.int 3)) (.cons (.cst (.int 7)) (.cons (.cst (.int 10)) .nil))))) .nil)))) (.bin .Mod (.bin .FloorDiv (.var 1) (.cst (.int 1440))) (.cst (.int 3)))) .nil))))) <|
  (.seq (.asg 6 (.call 16 (.cons (.var 0) (.cons (.cst (.int 9)) (.cons (.var 3) .nil))))) <|
  (.seq (.ite (.bor (.bnot (.call 21 (.cons (.var 4) (.cons (.var 5) .nil)))) (.bor (.bnot (.call 21 (.cons (.var 5) (.cons (.var 6) .nil)))) (.bone (.bnot (.call 22 (.cons (.var 4) (.cons (.var 5) (.cons (.var 6) .nil))))))))
    (.seq (.ret (.cst (.bool false))) <|
    .nil)
    .nil) <|
  (.seq (.ite (.band (.cmp .Eq (.bin .Mod (.bin .FloorDiv (.var 1) (.cst (.int 360))) (.cst (.int 4))) (.cst (.int 1))) (.bone (.bnot (.call 23 (.cons (.call 15 (.cons (.var 0) (.cons (.cst (.int 13)) .nil))) .nil)))))
    (.seq (.ret (.cst (.bool false))) <|
    .nil)
    .nil) <|
  (.seq (.asg 7 (.call 11 (.cons (.lst (.cons (.tup (.cons (.var 2) (.cons (.tup (.cons (.cst (.int 1)) (.cons (.cst (.int 1)) .nil))) .nil))) (.cons (.tup (.cons (.cst (.int 2)) (.cons (.tup (.cons (.bin .Sub (.bin .Mod (.bin .FloorDiv (.var 1) (.cst (.int 40))) (.cst (.int 9))) (.cst (.int 4))) (.cons (.cst (.int 1)) .nil))) .nil))) .nil))) .nil))) <|
  (.seq (.asg 8 (.call 11 (.cons (.lst (.cons (.tup (.cons (.var 2) (.cons (.tup (.cons (.cst (.int 1)) (.cons (.cst (.int 1)) .nil))) .nil))) (.cons (.tup (.cons (.cst (.int 2)) (.cons (.tup (.cons (.bin .Sub (.cst (.int 4)) (.bin .Mod (.bin .FloorDiv (.var 1) (.cst (.int 40))) (.cst (.int 9)))) (.cons (.cst (.int 1)) .nil))) .nil))) .nil))) .nil))) <|
  (.seq (.asg 9 (.bin .Mult (.bin .Mult (.bin .Sub (.bin .Mod (.bin .FloorDiv (.var 1) (.cst (.int 40))) (.cst (.int 9))) (.cst (.int 4))) (.bin .Sub (.bin .Mod (.bin .FloorDiv (.var 1) (.cst (.int 40))) (.cst (.int 9))) (.cst (.int 4)))) (.cst (.int 2)))) <|
  (.seq (.ret (.cmp .Eq (.call 14 (.cons (.var 7) (.cons (.var 8) .nil))) (.call 11 (.cons (.lst (.cons (.tup (.cons (.cst (.int 1)) (.cons (.tup (.cons (.bin .Sub (.var 2) (.var 9)) (.cons (.cst (.int 1)) .nil))) .nil))) .nil)) .nil)))) <|
  .nil))))))))))))
abbrev f_law : FnI := ⟨"law", ["_law_script"], ["_law_script", "_law_cell", "_law_m", "_law_roots", "_law_one_here", "_law_other", "_law_more", "_law_first_root", "_law_like", "_law_flat"], 1, 10, b_law, none⟩

abbrev k_MOST_UNDER : FnI := ⟨"MOST_UNDER", [], [], 0, 0, .nil, some (.int 1000000000000)⟩
abbrev k_MOST_ROOTS : FnI := ⟨"MOST_ROOTS", [], [], 0, 0, .nil, some (.int 3)⟩
abbrev k_ZERO : FnI := ⟨"ZERO", [], [], 0, 0, .nil, some (.tuple [(.int 0), (.int 1)])⟩
abbrev fns : List FnI := [f_is_whole, f_divisor, f_is_fraction, f_fraction, f_plus, f_times, f_square_out, f_is_pair, f_is_root_sum, f_roots_in, f_gathered, f_root_sum, f_s_plus, f_s_minus, f_s_times, f__law_cell_at, f__law_one, f__law_divisor, f__law_gathered, f__law_due, f__law_done, f__law_right, f__law_laws, f__law_great, f_law, k_MOST_UNDER, k_MOST_ROOTS, k_ZERO]
abbrev cls : List Str := ["CourtError", "NoPart", "TooGreat"]
def tops (i : Nat) : Stmt := PySem.Challenge.pw_rootcourt_k65_whole_root_sums_reckoned.main.body.getD i (.Pass ⟨0, 0, 0, 0⟩)
abbrev sts : List Stmt := [tops 5, tops 6, tops 8, tops 9, tops 10, tops 11, tops 16, tops 17, tops 18, tops 19, tops 20, tops 21, tops 22, tops 23, tops 24, tops 26, tops 27, tops 28, tops 29, tops 30, tops 31, tops 32, tops 33, tops 34, tops 35]
theorem d_is_whole : DefOk fns cls f_is_whole (tops 5) := ⟨fun F => ⟨F.bindsN fun _ _ _ _ _ _ us hl => match us, hl with | [_], _ => rfl, F.bindsA fun _ _ _ _ _ _ us hl => match us, hl with | [_], _ => rfl⟩, ⟨rfl, rfl, rfl, by decide +kernel, rfl, by decide +kernel, by decide +kernel⟩, by decide +kernel⟩
theorem d_divisor : DefOk fns cls f_divisor (tops 6) := ⟨fun F => ⟨F.bindsN fun _ _ _ _ _ _ us hl => match us, hl with | [_, _], _ => rfl, F.bindsA fun _ _ _ _ _ _ us hl => match us, hl with | [_, _], _ => rfl⟩, ⟨rfl, rfl, rfl, by decide +kernel, rfl, by decide +kernel, by decide +kernel⟩, by decide +kernel⟩
theorem d_is_fraction : DefOk fns cls f_is_fraction (tops 8) := ⟨fun F => ⟨F.bindsN fun _ _ _ _ _ _ us hl => match us, hl with | [_], _ => rfl, F.bindsA fun _ _ _ _ _ _ us hl => match us, hl with | [_], _ => rfl⟩, ⟨rfl, rfl, rfl, by decide +kernel, rfl, by decide +kernel, by decide +kernel⟩, by decide +kernel⟩
theorem d_fraction : DefOk fns cls f_fraction (tops 9) := ⟨fun F => ⟨F.bindsN fun _ _ _ _ _ _ us hl => match us, hl with | [_, _], _ => rfl, F.bindsA fun _ _ _ _ _ _ us hl => match us, hl with | [_, _], _ => rfl⟩, ⟨rfl, rfl, rfl, by decide +kernel, rfl, by decide +kernel, by decide +kernel⟩, by decide +kernel⟩
theorem d_plus : DefOk fns cls f_plus (tops 10) := ⟨fun F => ⟨F.bindsN fun _ _ _ _ _ _ us hl => match us, hl with | [_, _], _ => rfl, F.bindsA fun _ _ _ _ _ _ us hl => match us, hl with | [_, _], _ => rfl⟩, ⟨rfl, rfl, rfl, by decide +kernel, rfl, by decide +kernel, by decide +kernel⟩, by decide +kernel⟩
theorem d_times : DefOk fns cls f_times (tops 11) := ⟨fun F => ⟨F.bindsN fun _ _ _ _ _ _ us hl => match us, hl with | [_, _], _ => rfl, F.bindsA fun _ _ _ _ _ _ us hl => match us, hl with | [_, _], _ => rfl⟩, ⟨rfl, rfl, rfl, by decide +kernel, rfl, by decide +kernel, by decide +kernel⟩, by decide +kernel⟩
theorem d_square_out : DefOk fns cls f_square_out (tops 16) := ⟨fun F => ⟨F.bindsN fun _ _ _ _ _ _ us hl => match us, hl with | [_], _ => rfl, F.bindsA fun _ _ _ _ _ _ us hl => match us, hl with | [_], _ => rfl⟩, ⟨rfl, rfl, rfl, by decide +kernel, rfl, by decide +kernel, by decide +kernel⟩, by decide +kernel⟩
theorem d_is_pair : DefOk fns cls f_is_pair (tops 17) := ⟨fun F => ⟨F.bindsN fun _ _ _ _ _ _ us hl => match us, hl with | [_], _ => rfl, F.bindsA fun _ _ _ _ _ _ us hl => match us, hl with | [_], _ => rfl⟩, ⟨rfl, rfl, rfl, by decide +kernel, rfl, by decide +kernel, by decide +kernel⟩, by decide +kernel⟩
theorem d_is_root_sum : DefOk fns cls f_is_root_sum (tops 18) := ⟨fun F => ⟨F.bindsN fun _ _ _ _ _ _ us hl => match us, hl with | [_], _ => rfl, F.bindsA fun _ _ _ _ _ _ us hl => match us, hl with | [_], _ => rfl⟩, ⟨rfl, rfl, rfl, by decide +kernel, rfl, by decide +kernel, by decide +kernel⟩, by decide +kernel⟩
theorem d_roots_in : DefOk fns cls f_roots_in (tops 19) := ⟨fun F => ⟨F.bindsN fun _ _ _ _ _ _ us hl => match us, hl with | [_], _ => rfl, F.bindsA fun _ _ _ _ _ _ us hl => match us, hl with | [_], _ => rfl⟩, ⟨rfl, rfl, rfl, by decide +kernel, rfl, by decide +kernel, by decide +kernel⟩, by decide +kernel⟩
theorem d_gathered : DefOk fns cls f_gathered (tops 20) := ⟨fun F => ⟨F.bindsN fun _ _ _ _ _ _ us hl => match us, hl with | [_], _ => rfl, F.bindsA fun _ _ _ _ _ _ us hl => match us, hl with | [_], _ => rfl⟩, ⟨rfl, rfl, rfl, by decide +kernel, rfl, by decide +kernel, by decide +kernel⟩, by decide +kernel⟩
theorem d_root_sum : DefOk fns cls f_root_sum (tops 21) := ⟨fun F => ⟨F.bindsN fun _ _ _ _ _ _ us hl => match us, hl with | [_], _ => rfl, F.bindsA fun _ _ _ _ _ _ us hl => match us, hl with | [_], _ => rfl⟩, ⟨rfl, rfl, rfl, by decide +kernel, rfl, by decide +kernel, by decide +kernel⟩, by decide +kernel⟩
theorem d_s_plus : DefOk fns cls f_s_plus (tops 22) := ⟨fun F => ⟨F.bindsN fun _ _ _ _ _ _ us hl => match us, hl with | [_, _], _ => rfl, F.bindsA fun _ _ _ _ _ _ us hl => match us, hl with | [_, _], _ => rfl⟩, ⟨rfl, rfl, rfl, by decide +kernel, rfl, by decide +kernel, by decide +kernel⟩, by decide +kernel⟩
theorem d_s_minus : DefOk fns cls f_s_minus (tops 23) := ⟨fun F => ⟨F.bindsN fun _ _ _ _ _ _ us hl => match us, hl with | [_, _], _ => rfl, F.bindsA fun _ _ _ _ _ _ us hl => match us, hl with | [_, _], _ => rfl⟩, ⟨rfl, rfl, rfl, by decide +kernel, rfl, by decide +kernel, by decide +kernel⟩, by decide +kernel⟩
theorem d_s_times : DefOk fns cls f_s_times (tops 24) := ⟨fun F => ⟨F.bindsN fun _ _ _ _ _ _ us hl => match us, hl with | [_, _], _ => rfl, F.bindsA fun _ _ _ _ _ _ us hl => match us, hl with | [_, _], _ => rfl⟩, ⟨rfl, rfl, rfl, by decide +kernel, rfl, by decide +kernel, by decide +kernel⟩, by decide +kernel⟩
theorem d__law_cell_at : DefOk fns cls f__law_cell_at (tops 26) := ⟨fun F => ⟨F.bindsN fun _ _ _ _ _ _ us hl => match us, hl with | [_, _], _ => rfl, F.bindsA fun _ _ _ _ _ _ us hl => match us, hl with | [_, _], _ => rfl⟩, ⟨rfl, rfl, rfl, by decide +kernel, rfl, by decide +kernel, by decide +kernel⟩, by decide +kernel⟩
theorem d__law_one : DefOk fns cls f__law_one (tops 27) := ⟨fun F => ⟨F.bindsN fun _ _ _ _ _ _ us hl => match us, hl with | [_, _, _], _ => rfl, F.bindsA fun _ _ _ _ _ _ us hl => match us, hl with | [_, _, _], _ => rfl⟩, ⟨rfl, rfl, rfl, by decide +kernel, rfl, by decide +kernel, by decide +kernel⟩, by decide +kernel⟩
theorem d__law_divisor : DefOk fns cls f__law_divisor (tops 28) := ⟨fun F => ⟨F.bindsN fun _ _ _ _ _ _ us hl => match us, hl with | [_, _], _ => rfl, F.bindsA fun _ _ _ _ _ _ us hl => match us, hl with | [_, _], _ => rfl⟩, ⟨rfl, rfl, rfl, by decide +kernel, rfl, by decide +kernel, by decide +kernel⟩, by decide +kernel⟩
theorem d__law_gathered : DefOk fns cls f__law_gathered (tops 29) := ⟨fun F => ⟨F.bindsN fun _ _ _ _ _ _ us hl => match us, hl with | [_], _ => rfl, F.bindsA fun _ _ _ _ _ _ us hl => match us, hl with | [_], _ => rfl⟩, ⟨rfl, rfl, rfl, by decide +kernel, rfl, by decide +kernel, by decide +kernel⟩, by decide +kernel⟩
theorem d__law_due : DefOk fns cls f__law_due (tops 30) := ⟨fun F => ⟨F.bindsN fun _ _ _ _ _ _ us hl => match us, hl with | [_, _, _], _ => rfl, F.bindsA fun _ _ _ _ _ _ us hl => match us, hl with | [_, _, _], _ => rfl⟩, ⟨rfl, rfl, rfl, by decide +kernel, rfl, by decide +kernel, by decide +kernel⟩, by decide +kernel⟩
theorem d__law_done : DefOk fns cls f__law_done (tops 31) := ⟨fun F => ⟨F.bindsN fun _ _ _ _ _ _ us hl => match us, hl with | [_, _, _], _ => rfl, F.bindsA fun _ _ _ _ _ _ us hl => match us, hl with | [_, _, _], _ => rfl⟩, ⟨rfl, rfl, rfl, by decide +kernel, rfl, by decide +kernel, by decide +kernel⟩, by decide +kernel⟩
theorem d__law_right : DefOk fns cls f__law_right (tops 32) := ⟨fun F => ⟨F.bindsN fun _ _ _ _ _ _ us hl => match us, hl with | [_, _], _ => rfl, F.bindsA fun _ _ _ _ _ _ us hl => match us, hl with | [_, _], _ => rfl⟩, ⟨rfl, rfl, rfl, by decide +kernel, rfl, by decide +kernel, by decide +kernel⟩, by decide +kernel⟩
theorem d__law_laws : DefOk fns cls f__law_laws (tops 33) := ⟨fun F => ⟨F.bindsN fun _ _ _ _ _ _ us hl => match us, hl with | [_, _, _], _ => rfl, F.bindsA fun _ _ _ _ _ _ us hl => match us, hl with | [_, _, _], _ => rfl⟩, ⟨rfl, rfl, rfl, by decide +kernel, rfl, by decide +kernel, by decide +kernel⟩, by decide +kernel⟩
theorem d__law_great : DefOk fns cls f__law_great (tops 34) := ⟨fun F => ⟨F.bindsN fun _ _ _ _ _ _ us hl => match us, hl with | [_], _ => rfl, F.bindsA fun _ _ _ _ _ _ us hl => match us, hl with | [_], _ => rfl⟩, ⟨rfl, rfl, rfl, by decide +kernel, rfl, by decide +kernel, by decide +kernel⟩, by decide +kernel⟩
theorem d_law : DefOk fns cls f_law (tops 35) := ⟨fun F => ⟨F.bindsN fun _ _ _ _ _ _ us hl => match us, hl with | [_], _ => rfl, F.bindsA fun _ _ _ _ _ _ us hl => match us, hl with | [_], _ => rfl⟩, ⟨rfl, rfl, rfl, by decide +kernel, rfl, by decide +kernel, by decide +kernel⟩, by decide +kernel⟩
theorem allOk : AllOk fns cls fns sts := .cons d_is_whole <| .cons d_divisor <| .cons d_is_fraction <| .cons d_fraction <| .cons d_plus <| .cons d_times <| .cons d_square_out <| .cons d_is_pair <| .cons d_is_root_sum <| .cons d_roots_in <| .cons d_gathered <| .cons d_root_sum <| .cons d_s_plus <| .cons d_s_minus <| .cons d_s_times <| .cons d__law_cell_at <| .cons d__law_one <| .cons d__law_divisor <| .cons d__law_gathered <| .cons d__law_due <| .cons d__law_done <| .cons d__law_right <| .cons d__law_laws <| .cons d__law_great <| .cons d_law <| .nil rfl
def loose : List Str := [("CourtError" : Str), ("NoPart" : Str), ("TooGreat" : Str), ("is_whole" : Str), ("divisor" : Str), ("is_fraction" : Str), ("fraction" : Str), ("plus" : Str), ("times" : Str), ("MOST_ROOTS" : Str), ("MOST_UNDER" : Str), ("ZERO" : Str), ("square_out" : Str), ("is_pair" : Str), ("is_root_sum" : Str), ("roots_in" : Str), ("gathered" : Str), ("root_sum" : Str), ("s_plus" : Str), ("s_minus" : Str), ("s_times" : Str), ("_law_cell_at" : Str), ("_law_one" : Str), ("_law_divisor" : Str), ("_law_gathered" : Str), ("_law_due" : Str), ("_law_done" : Str), ("_law_right" : Str), ("_law_laws" : Str), ("_law_great" : Str)]
abbrev R : PySem.W.OpenRow := PySem.W.OpenLaw.row PySem.Challenge.rw_rootcourt_k65_whole_root_sums_reckoned
abbrev hk : PySem.W.Hook := He.hookX 4 (mkFa fns cls) (List.zipWith mkD fns sts) [] [] (xG fns cls)
def ob (s : PySem.W.SharedT) : He.AlX := He.obsX 4 (mkFa fns cls) (List.zipWith mkD fns sts) [] [] (xG fns cls) (HandSHeadRun.getT s)
theorem ob_eq (s : PySem.W.SharedT) : ob s = hk.obs s.abs := He.obsX_eq (HandSHeadRun.getT_eq s)
theorem map3 {α β γ δ : Type} {e : Option α} {f : α → β} {g : α → γ} {h : α → δ} {a : β} {b : γ} {c : δ} (h1 : e.map f = some a) (h2 : e.map g = some b) (h3 : e.map h = some c) : e.map (fun s => (f s, g s, h s)) = some (a, b, c) := by
  cases e with
  | none => cases h1
  | some s =>
    cases h1
    cases h2
    cases h3
    rfl
section
open PySem PySem.W PySem.Calls PyProof.Rows HandSHeadRun
theorem run1 (w : World) (os : OsState) : (endF (stepQ (denQ tabQ) R.prog w) 4000 R.prog w os).map (fun s => looksF R.prog (boot_heap w.params) s.abs) = some true := by kernel_rfl
theorem run2 (w : World) (os : OsState) : (endF (stepQ (denQ tabQ) R.prog w) 4000 R.prog w os).map (fun s => seenQ (view R.prog [35]) [("CourtError" : Str), ("NoPart" : Str), ("TooGreat" : Str), ("is_whole" : Str), ("divisor" : Str), ("is_fraction" : Str), ("fraction" : Str), ("plus" : Str), ("times" : Str), ("MOST_ROOTS" : Str), ("MOST_UNDER" : Str), ("ZERO" : Str), ("square_out" : Str), ("is_pair" : Str), ("is_root_sum" : Str), ("roots_in" : Str), ("gathered" : Str), ("root_sum" : Str), ("s_plus" : Str), ("s_minus" : Str), ("s_times" : Str), ("_law_cell_at" : Str), ("_law_one" : Str), ("_law_divisor" : Str), ("_law_gathered" : Str), ("_law_due" : Str), ("_law_done" : Str), ("_law_right" : Str), ("_law_laws" : Str), ("_law_great" : Str)] (importedModules R.prog.main.body) (fun s => xlAt (view R.prog [35]) [] s && recOk R.toRowW.records s) s.abs) = some (openGood (view R.prog [35]) [("CourtError" : Str), ("NoPart" : Str), ("TooGreat" : Str), ("is_whole" : Str), ("divisor" : Str), ("is_fraction" : Str), ("fraction" : Str), ("plus" : Str), ("times" : Str), ("MOST_ROOTS" : Str), ("MOST_UNDER" : Str), ("ZERO" : Str), ("square_out" : Str), ("is_pair" : Str), ("is_root_sum" : Str), ("roots_in" : Str), ("gathered" : Str), ("root_sum" : Str), ("s_plus" : Str), ("s_minus" : Str), ("s_times" : Str), ("_law_cell_at" : Str), ("_law_one" : Str), ("_law_divisor" : Str), ("_law_gathered" : Str), ("_law_due" : Str), ("_law_done" : Str), ("_law_right" : Str), ("_law_laws" : Str), ("_law_great" : Str)]) := by kernel_rfl
theorem run3 (w : World) (os : OsState) : (endF (stepQ (denQ tabQ) R.prog w) 4000 R.prog w os).map (fun s => ob s) = some (hk.val w) := by kernel_rfl
end
theorem run (w : World) : HandSHeadRun.RunEq R (PySem.W.view R.prog [35]) hk ob 4000 [("CourtError" : Str), ("NoPart" : Str), ("TooGreat" : Str), ("is_whole" : Str), ("divisor" : Str), ("is_fraction" : Str), ("fraction" : Str), ("plus" : Str), ("times" : Str), ("MOST_ROOTS" : Str), ("MOST_UNDER" : Str), ("ZERO" : Str), ("square_out" : Str), ("is_pair" : Str), ("is_root_sum" : Str), ("roots_in" : Str), ("gathered" : Str), ("root_sum" : Str), ("s_plus" : Str), ("s_minus" : Str), ("s_times" : Str), ("_law_cell_at" : Str), ("_law_one" : Str), ("_law_divisor" : Str), ("_law_gathered" : Str), ("_law_due" : Str), ("_law_done" : Str), ("_law_right" : Str), ("_law_laws" : Str), ("_law_great" : Str)] w := fun os => map3 (run1 w os) (run2 w os) (run3 w os)
section
open PySem PySem.W PySem.Calls PyProof.Rows
theorem holds_of (k : Nat) (hr : L2.Room (k + 33) callerA)
    (hp : ∀ ns : List Int, ns.length ≤ 63 → (∀ z ∈ ns, Builtin.Int.intBits z ≤ 1048576) → sem fns (k + 1) 24 [.list (ns.map .int)] (fun _ => False) (fun v => v = Val.d (.bool true))) : PySem.Challenge.rw_rootcourt_k65_whole_root_sums_reckoned.Holds := by
  w_on; o_law
  refine HandSHeadRun.head_any (r := OpenLaw.row PySem.Challenge.rw_rootcourt_k65_whole_root_sums_reckoned) (q := view (OpenLaw.row PySem.Challenge.rw_rootcourt_k65_whole_root_sums_reckoned).prog [35]) (H := hk) (ob := ob) (M := 4000) (loose := [("CourtError" : Str), ("NoPart" : Str), ("TooGreat" : Str), ("is_whole" : Str), ("divisor" : Str), ("is_fraction" : Str), ("fraction" : Str), ("plus" : Str), ("times" : Str), ("MOST_ROOTS" : Str), ("MOST_UNDER" : Str), ("ZERO" : Str), ("square_out" : Str), ("is_pair" : Str), ("is_root_sum" : Str), ("roots_in" : Str), ("gathered" : Str), ("root_sum" : Str), ("s_plus" : Str), ("s_minus" : Str), ("s_times" : Str), ("_law_cell_at" : Str), ("_law_one" : Str), ("_law_divisor" : Str), ("_law_gathered" : Str), ("_law_due" : Str), ("_law_done" : Str), ("_law_right" : Str), ("_law_laws" : Str), ("_law_great" : Str)]) (d := HandSHeadRun.topDef (OpenLaw.row PySem.Challenge.rw_rootcourt_k65_whole_root_sums_reckoned).prog 35) (kwd := []) ob_eq
    (by kernel_rfl) (fun s => by kernel_rfl) run (by kernel_rfl) (by kernel_rfl) (by kernel_rfl) (by rfl) (by first | assumption | decide +kernel) (by decide +kernel) ⟨rfl, rfl, rfl, rfl, rfl, by decide +kernel⟩ ?hw ?hc
  case hw => w_witness2
  case hc => exact walk_rc (l := PySem.Challenge.rw_rootcourt_k65_whole_root_sums_reckoned) (n := 63) (k := k) (x := "_law_script") rfl (by decide) (by kernel_rfl) hr (by kernel_rfl) (by kernel_rfl) allOk (li := 24) rfl (by kernel_rfl) rfl rfl rfl hp
end
end K65

/-! Plain helpers. -/
namespace Rc
open PySem
theorem sem_at {fns : List FnI} {k i : Nat} {fi : FnI} {ds : List D} {X : Nat → Prop} {Q : Val → Prop} (h : fns[i]? = some fi) (r : runB (sem fns k) fi ds X Q) : sem fns (k + 1) i ds X Q := by
  show (match fns[i]? with
    | some fi => runB (sem fns k) fi ds X Q
    | none => False)
  rw [h]
  exact r
/-- below 2 ^ a either way -/
def Bt (a : Nat) (i : Int) : Prop := i.natAbs < 2 ^ a
theorem Bt.mono {a b : Nat} {i : Int} (h : Bt a i) (q : a ≤ b) : Bt b i := Nat.lt_of_lt_of_le h (Nat.pow_le_pow_right (by omega) q)
theorem Bt.mul {a b : Nat} {i j : Int} (h : Bt a i) (q : Bt b j) : Bt (a + b) (i * j) := by
  unfold Bt at *
  rw [Int.natAbs_mul, Nat.pow_add]
  exact Nat.mul_lt_mul'' h q
theorem Bt.add {a : Nat} {i j : Int} (h : Bt a i) (q : Bt a j) : Bt (a + 1) (i + j) := by
  unfold Bt at *
  have := Int.natAbs_add_le i j
  rw [Nat.pow_succ]
  omega
theorem Bt.neg {a : Nat} {i : Int} (h : Bt a i) : Bt a (-i) := by
  unfold Bt at *
  rw [Int.natAbs_neg]
  exact h
theorem Bt.sub {a : Nat} {i j : Int} (h : Bt a i) (q : Bt a j) : Bt (a + 1) (i - j) := Bt.add h q.neg
theorem Bt.le {a : Nat} {i j : Int} (h : Bt a j) (q : i.natAbs ≤ j.natAbs) : Bt a i := Nat.lt_of_le_of_lt q h
theorem Bt.log {a : Nat} {i : Int} (h : Bt a i) (n : i ≠ 0) : i.natAbs.log2 < a := (Nat.log2_lt (by omega)).mpr h
theorem mulOk_of {a b : Nat} {i j : Int} (h : Bt a i) (q : Bt b j) (s : a + b ≤ 134217728) : mulOk i j := by
  by_cases hi : i = 0
  · subst hi
    exact .inl (by unfold small64; decide)
  · by_cases hj : j = 0
    · subst hj
      exact .inr (.inl (by unfold small64; decide))
    · have h1 := h.log hi
      have h2 := q.log hj
      exact .inr (.inr (by omega))
theorem mulOk_l {i j : Int} (h : small64 i) : mulOk i j := .inl h
theorem mulOk_r {i j : Int} (h : small64 j) : mulOk i j := .inr (.inl h)
theorem bt_fmod {a : Nat} {x P : Int} (hP : 0 < P) (h : Bt a P) : Bt a (x.fmod P) := by
  refine h.le ?_
  rw [Int.fmod_eq_emod_of_nonneg _ (by omega)]
  have := Int.emod_nonneg x (show P ≠ 0 by omega)
  have := Int.emod_lt_of_pos x hP
  omega
theorem small10 : small64 10 := by unfold small64; decide
theorem bt_c {a : Nat} {i : Int} (h : decide (i.natAbs < 2 ^ a) = true) : Bt a i := by
  unfold Bt
  exact of_decide_eq_true h
theorem fmod_nat (a b : Nat) : (a : Int).fmod b = ((a % b : Nat) : Int) := by
  rw [Int.fmod_eq_emod_of_nonneg _ (by omega)] <;> rfl
theorem fmod_pos {a b : Int} (h : 0 < b) : a.fmod b = a % b := Int.fmod_eq_emod_of_nonneg _ (by omega)
theorem fdiv_pos {a b : Int} (h : 0 < b) : a.fdiv b = a / b := Int.fdiv_eq_ediv_of_nonneg _ (by omega)
theorem fmod_dvd {a b : Int} (h : a ∣ b) : b.fmod a = 0 := by
  obtain ⟨c, rfl⟩ := h
  exact Int.mul_fmod_right a c
theorem fdiv_nat (a b : Nat) : (a : Int).fdiv b = ((a / b : Nat) : Int) := by
  rw [Int.fdiv_eq_ediv_of_nonneg _ (by omega)] <;> rfl
theorem absI (i : Int) : (if i < 0 then -i else i) = (i.natAbs : Int) := by omega
/-! ### rules -/
section
variable {Φ : Fs}
theorem whl_at {T : Ev → (Bool → Ev → Prop) → Prop} {B : Ev → En → Prop} {ε : Ev} {E : En} (I : Nat → Ev → Prop) (m : Nat) (h0 : I m ε)
    (h : ∀ m ε1, I m ε1 → T ε1 fun b ε2 => if b = true then B ε2 { E with nx := fun e => ∃ m', m' < m ∧ I m' e, ct := fun e => ∃ m', m' < m ∧ I m' e, bk := E.nx } else E.nx ε2) : whlW T B ε E := ⟨I, ⟨m, h0⟩, h⟩
theorem for_at {t : Tg} {B : Ev → En → Prop} {E : En} (P : List D → Ev → Prop)
    (h : ∀ x r ε, P (x :: r) ε → (∀ e, P r e → forW t B r e E) → tgW t x ε fun ε1 => B ε1 { E with nx := fun e => forW t B r e E, ct := fun e => forW t B r e E, bk := E.nx })
    (h0 : ∀ ε, P [] ε → E.nx ε) : ∀ (xs : List D) (ε : Ev), P xs ε → forW t B xs ε E
  | [], ε, p => h0 ε p
  | x :: r, ε, p => h x r ε p fun e q => for_at P h h0 r e q
theorem lc_map {t : Tg} {ε : Ev} {E : Ev → (D → Ev → Prop) → Prop} (f : D → D) : ∀ (xs acc : List D) (K : List D → Prop),
    (∀ x ∈ xs, ∀ k : D → Ev → Prop, (∀ e, k (f x) e) → tgW t x (wipeE (blind ε) (tgs t)) fun ε1 => E ε1 k) → acc.length + xs.length ≤ 16777216 → K (acc ++ xs.map f) → lcW t ε (fun ε2 k => k true ε2) E xs acc K
  | [], acc, K, _, _, hk => by
    have e : acc ++ ([] : List D).map f = acc := by simp
    exact e ▸ hk
  | x :: r, acc, K, h, hl, hk => by
    have hl2 : acc.length + (r.length + 1) ≤ 16777216 := hl
    refine h x (List.mem_cons_self ..) (fun y e => acc.length < 16777216 ∧ lcW t ε (fun ε2 k => k true ε2) E r (acc ++ [y]) K) fun e => ⟨by omega, lc_map f r (acc ++ [f x]) K (fun y hy => h y (List.mem_cons_of_mem _ hy)) ?_ ?_⟩
    · simp only [List.length_append, List.length_cons, List.length_nil]
      omega
    · simpa using hk
end
theorem atI_nat {xs : List D} {i : Nat} {v : D} (h : xs[i]? = some v) : L2.atI xs (i : Int) = some v := by
  have hi := (List.getElem?_eq_some_iff.mp h).1
  unfold L2.atI L2.ixN
  simp only [show ¬ ((i : Int) < 0) by omega, if_false, show (0 : Int) ≤ i by omega, show (i : Int) < xs.length by omega, and_self, if_true]
  simpa using h
end Rc
namespace Rc
open PySem
/-- what is behind a token stays as it is -/
inductive Tok {α : Type} (x : α) : Type where
  | mk
def callF (Φ : Fs) (f : Nat) (X : XP) (Q : KE) (_ : Tok (X, Q)) (ds : List D) (ε : Ev) : Prop := Φ f ds (fun c => X c ε) fun v => Q v ε
def whlF (T : Ev → (Bool → Ev → Prop) → Prop) (B : Ev → En → Prop) (E : En) (_ : Tok (T, B, E)) (ε : Ev) : Prop := whlW T B ε E
def forF (t : Tg) (B : Ev → En → Prop) (E : En) (_ : Tok (B, E)) (xs : List D) (ε : Ev) : Prop := forW t B xs ε E
def lcF (t : Tg) (C : Ev → (Bool → Ev → Prop) → Prop) (E : Ev → (D → Ev → Prop) → Prop) (K : List D → Prop) (_ : Tok (C, E, K)) (ε : Ev) (xs acc : List D) : Prop := lcW t ε C E xs acc K
def ixF (Q : D → Prop) (_ : Tok Q) (x y : D) : Prop := ixW x y Q
theorem ix_lst {Q : D → Prop} {q : Tok Q} {xs : List D} {i : Int} {v : D} (h : L2.atI xs i = some v) (w : Q v) : ixF Q q (.list xs) (.int i) := ⟨v, h, w⟩
theorem ix_tup {Q : D → Prop} {q : Tok Q} {xs : List D} {i : Int} {v : D} (h : L2.atI xs i = some v) (w : Q v) : ixF Q q (.tuple xs) (.int i) := ⟨v, h, w⟩
section
variable {Φ : Fs} {ε : Ev} {X : XP} {Q : KE} {E : En}
theorem wE_call {f : Nat} {a : IE} : wE Φ (.call f a) ε X Q = wE Φ a ε X (kM fun ds ε1 => callF Φ f X Q .mk ds ε1) := rfl
theorem wE_callP {f : Nat} {a : IE} : wE Φ (.callP f a) ε X Q = wE Φ a ε X (kM fun ds ε1 => callF Φ f X (fun v ε2 => flat v = true ∧ Q v ε2) .mk ds ε1) := rfl
theorem wE_lc {t : Tg} {it e : IE} : wE Φ (.lc t it .nil e) ε X Q = wE Φ it ε X (kM fun xs ε1 => lcF t (fun ε2 k => k true ε2) (fun ε2 k => wE Φ e ε2 (fun _ _ => False) (kD k)) (fun ys => Q (.own ys) ε1) .mk ε1 xs []) := rfl
theorem wE_ix {a b : IE} : wE Φ (.ix a b) ε X Q = pkW a ε (fun T => wE Φ a ε X T) fun x ε1 => wE Φ b ε1 X (kD fun y ε2 => ixF (fun v => Q (.d v) ε2) .mk x y) := rfl
theorem wE_isv {t : Ty} {j : Nat} : wE Φ (.isi t (.var j)) ε X Q = peek ε j fun x ε1 => Q (.d (.bool (isT t x))) ε1 := rfl
theorem wS_whl {c : IE} {b : IS} : wS Φ (.whl c b) ε E = whlF (fun ε1 k => wE Φ c ε1 E.ex (kB k)) (fun ε1 D' => wS Φ b ε1 D') E .mk ε := rfl
theorem wS_for {t : Tg} {it : IE} {b : IS} : wS Φ (.forr t it b) ε E = wE Φ it ε E.ex (kM fun xs ε1 => forF t (fun ε2 D' => wS Φ b ε2 D') E .mk xs ε1) := rfl
end
theorem whl_at' {T : Ev → (Bool → Ev → Prop) → Prop} {B : Ev → En → Prop} {ε : Ev} {E : En} {q : Tok (T, B, E)} (I : Nat → Ev → Prop) (m : Nat) (h0 : I m ε)
    (h : ∀ m ε1, I m ε1 → T ε1 fun b ε2 => if b = true then B ε2 { E with nx := fun e => ∃ m', m' < m ∧ I m' e, ct := fun e => ∃ m', m' < m ∧ I m' e, bk := E.nx } else E.nx ε2) : whlF T B E q ε := whl_at I m h0 h
theorem for_at' {t : Tg} {B : Ev → En → Prop} {E : En} {q : Tok (B, E)} (P : List D → Ev → Prop)
    (h : ∀ x r ε, P (x :: r) ε → (∀ e, P r e → forW t B r e E) → tgW t x ε fun ε1 => B ε1 { E with nx := fun e => forF t B E .mk r e, ct := fun e => forF t B E .mk r e, bk := E.nx })
    (h0 : ∀ ε, P [] ε → E.nx ε) (xs : List D) (ε : Ev) (p : P xs ε) : forF t B E q xs ε := for_at P h h0 xs ε p
theorem lc_map' {t : Tg} {ε : Ev} {E : Ev → (D → Ev → Prop) → Prop} (f : D → D) {xs : List D} {K : List D → Prop} {q : Tok ((fun ε2 k => k true ε2 : Ev → (Bool → Ev → Prop) → Prop), E, K)}
    (h : ∀ x ∈ xs, ∀ k : D → Ev → Prop, (∀ e, k (f x) e) → tgW t x (wipeE (blind ε) (tgs t)) fun ε1 => E ε1 k) (hl : xs.length ≤ 16777216) (hk : K (xs.map f)) : lcF t (fun ε2 k => k true ε2) E K q ε xs [] :=
  lc_map f xs [] K h (by simpa using hl) (by simpa using hk)
end Rc
namespace Rc
open PySem
/-! ### shapes -/
def Sh (n : Nat) (d : D) : Prop := d.canLay0 = true ∧ d.depth ≤ n
theorem shaped_of {n : Nat} {d : D} (h : Sh n d) (q : n ≤ 64) : SeqAt.shaped d = true := by
  unfold SeqAt.shaped
  rw [h.1, decide_eq_true (Nat.le_trans h.2 q)]
  rfl
theorem shAll {n : Nat} : ∀ {xs : List D}, (∀ x ∈ xs, Sh n x) → PyData.canLayAll0 xs = true ∧ PyData.depthAll xs ≤ n
  | [], _ => ⟨rfl, Nat.zero_le _⟩
  | x :: r, h => by
    obtain ⟨h1, h2⟩ := h x (List.mem_cons_self ..)
    obtain ⟨h3, h4⟩ := shAll fun y hy => h y (List.mem_cons_of_mem _ hy)
    refine ⟨?_, ?_⟩
    · unfold PyData.canLayAll0
      rw [h1, h3]
      rfl
    · unfold PyData.depthAll
      omega
theorem shLst {n : Nat} {xs : List D} (h : ∀ x ∈ xs, Sh n x) : Sh (n + 1) (.list xs) := by
  obtain ⟨h1, h2⟩ := shAll h
  refine ⟨by unfold PyData.canLay0; exact h1, ?_⟩
  unfold PyData.depth
  omega
theorem shTup {n : Nat} {xs : List D} (h : ∀ x ∈ xs, Sh n x) : Sh (n + 1) (.tuple xs) := by
  obtain ⟨h1, h2⟩ := shAll h
  refine ⟨by unfold PyData.canLay0; exact h1, ?_⟩
  unfold PyData.depth
  omega
theorem shInt {n : Nat} (i : Int) : Sh n (.int i) := ⟨rfl, Nat.zero_le _⟩
theorem shInts {n : Nat} (xs : List Int) : ∀ x ∈ xs.map PyData.int, Sh n x := fun x h => by
  obtain ⟨i, _, rfl⟩ := List.mem_map.mp h
  exact shInt i
theorem shapedL (xs : List Int) : SeqAt.shaped (.list (xs.map .int)) = true := shaped_of (shLst (n := 0) (shInts xs)) (by decide)
theorem shapedT (xs : List Int) : SeqAt.shaped (.tuple (xs.map .int)) = true := shaped_of (shTup (n := 0) (shInts xs)) (by decide)
theorem eqvInts : ∀ xs ys : List Int, PyData.eqvAll (xs.map .int) (ys.map .int) = decide (xs = ys)
  | [], [] => rfl
  | [], _ :: _ => rfl
  | _ :: _, [] => rfl
  | x :: r, y :: t => by
    show (PyData.eqv (.int x) (.int y) && PyData.eqvAll (r.map .int) (t.map .int)) = _
    rw [eqvInts r t]
    show ((x == y) && decide (r = t)) = _
    by_cases h1 : x = y <;> by_cases h2 : r = t <;> simp [h1, h2]
theorem eqvL (xs ys : List Int) : PyData.eqv (.list (xs.map .int)) (.list (ys.map .int)) = decide (xs = ys) := eqvInts xs ys
theorem eqvT (xs ys : List Int) : PyData.eqv (.tuple (xs.map .int)) (.tuple (ys.map .int)) = decide (xs = ys) := eqvInts xs ys
theorem cut_map {α β : Type} (f : α → β) (xs : List α) (lo hi : Option Int) : cut (xs.map f) lo hi = (cut xs lo hi).map f := by
  unfold cut
  rw [List.length_map, List.map_take, List.map_drop]
theorem cut_len {α : Type} (xs : List α) (lo hi : Option Int) : (cut xs lo hi).length ≤ xs.length := by
  unfold cut
  rw [List.length_take, List.length_drop]
  omega
end Rc
namespace Rc
open PySem
theorem lc_go {α : Type} {t : Tg} {ε : Ev} {E : Ev → (D → Ev → Prop) → Prop} (g f : α → D) : ∀ (as : List α) (acc : List D) (K : List D → Prop),
    (∀ a ∈ as, ∀ k : D → Ev → Prop, (∀ e, k (f a) e) → tgW t (g a) (wipeE (blind ε) (tgs t)) fun ε1 => E ε1 k) → acc.length + as.length ≤ 16777216 → K (acc ++ as.map f) → lcW t ε (fun ε2 k => k true ε2) E (as.map g) acc K
  | [], acc, K, _, _, hk => by
    have e : acc ++ ([] : List α).map f = acc := by simp
    exact e ▸ hk
  | a :: r, acc, K, h, hl, hk => by
    have hl2 : acc.length + (r.length + 1) ≤ 16777216 := hl
    refine h a (List.mem_cons_self ..) (fun y e => acc.length < 16777216 ∧ lcW t ε (fun ε2 k => k true ε2) E (r.map g) (acc ++ [y]) K) fun e => ⟨by omega, lc_go g f r (acc ++ [f a]) K (fun y hy => h y (List.mem_cons_of_mem _ hy)) ?_ ?_⟩
    · simp only [List.length_append, List.length_cons, List.length_nil]
      omega
    · simpa using hk
/-- a comprehension over the images of as -/
theorem lc_as {α : Type} {t : Tg} {ε : Ev} {E : Ev → (D → Ev → Prop) → Prop} (g f : α → D) {as : List α} {K : List D → Prop} {q : Tok ((fun ε2 k => k true ε2 : Ev → (Bool → Ev → Prop) → Prop), E, K)}
    (h : ∀ a ∈ as, ∀ k : D → Ev → Prop, (∀ e, k (f a) e) → tgW t (g a) (wipeE (blind ε) (tgs t)) fun ε1 => E ε1 k) (hl : as.length ≤ 16777216) (hk : K (as.map f)) : lcF t (fun ε2 k => k true ε2) E K q ε (as.map g) [] :=
  lc_go g f as [] K h (by simpa using hl) (by simpa using hk)
end Rc
namespace Rc
def bl1 : Option Val → Option Val
  | some (.d x) => some (.d x)
  | _ => none
theorem blind_cons (o : Option Val) (r : Ev) : blind (o :: r) = bl1 o :: blind r := by
  cases o with
  | none => rfl
  | some v => cases v <;> rfl
theorem blind_nil : blind [] = [] := rfl
end Rc
namespace Rc
open PySem
theorem wE_lcg {Φ : Fs} {ε : Ev} {X : XP} {Q : KE} {t : Tg} {it c e : IE} : wE Φ (.lc t it c e) ε X Q = wE Φ it ε X (kM fun xs ε1 => lcF t (fun ε2 k => if isNil c = true then k true ε2 else wE Φ c ε2 (fun _ _ => False) (kB k)) (fun ε2 k => wE Φ e ε2 (fun _ _ => False) (kD k)) (fun ys => Q (.own ys) ε1) .mk ε1 xs []) := rfl
/-- a comprehension with a test -/
theorem lc_fltGo {α : Type} {t : Tg} {ε : Ev} {C : Ev → (Bool → Ev → Prop) → Prop} {E : Ev → (D → Ev → Prop) → Prop} (g f : α → D) (p : α → Bool) : ∀ (as : List α) (acc : List D) (K : List D → Prop),
    (∀ a ∈ as, ∀ (k1 : D → Ev → Prop) (k0 : Prop), (p a = true → ∀ e, k1 (f a) e) → (p a = false → k0) → tgW t (g a) (wipeE (blind ε) (tgs t)) fun ε1 => C ε1 fun b ε2 => if b = true then E ε2 k1 else k0) →
    acc.length + as.length ≤ 16777216 → K (acc ++ (as.filter p).map f) → lcW t ε C E (as.map g) acc K
  | [], acc, K, _, _, hk => by
    have e : acc ++ (([] : List α).filter p).map f = acc := by simp
    exact e ▸ hk
  | a :: r, acc, K, h, hl, hk => by
    have hl2 : acc.length + (r.length + 1) ≤ 16777216 := hl
    refine h a (List.mem_cons_self ..) (fun y _ => acc.length < 16777216 ∧ lcW t ε C E (r.map g) (acc ++ [y]) K) (lcW t ε C E (r.map g) acc K) (fun hp e => ⟨by omega, lc_fltGo g f p r (acc ++ [f a]) K (fun y hy => h y (List.mem_cons_of_mem _ hy)) ?_ ?_⟩) fun hp => lc_fltGo g f p r acc K (fun y hy => h y (List.mem_cons_of_mem _ hy)) (by omega) ?_
    · simp only [List.length_append, List.length_cons, List.length_nil]
      omega
    · rw [List.filter_cons_of_pos hp] at hk
      simpa using hk
    · rw [List.filter_cons_of_neg (by simp [hp])] at hk
      exact hk
theorem lc_flt {α : Type} {t : Tg} {ε : Ev} {C : Ev → (Bool → Ev → Prop) → Prop} {E : Ev → (D → Ev → Prop) → Prop} {K : List D → Prop} {q : Tok (C, E, K)} (g f : α → D) (p : α → Bool) {as : List α}
    (h : ∀ a ∈ as, ∀ (k1 : D → Ev → Prop) (k0 : Prop), (p a = true → ∀ e, k1 (f a) e) → (p a = false → k0) → tgW t (g a) (wipeE (blind ε) (tgs t)) fun ε1 => C ε1 fun b ε2 => if b = true then E ε2 k1 else k0)
    (hl : as.length ≤ 16777216) (hk : K ((as.filter p).map f)) : lcF t C E K q ε (as.map g) [] := lc_fltGo g f p as [] K h (by simpa using hl) (by simpa using hk)
end Rc
namespace Rc
open PySem
/-! one equation for each kind of operand: no term is doubled -/
theorem pkW_var (j : Nat) (ε : Ev) (T : KE → Prop) (k : D → Ev → Prop) : pkW (.var j) ε T k = peek ε j k := rfl
theorem ptW_nil (ε : Ev) (T : KE → Prop) (k : Option Int → Ev → Prop) : ptW .nil ε T k = k none ε := rfl
def ptK (k : Option Int → Ev → Prop) : D → Ev → Prop := fun y ε1 => match y with | .int h => k (some h) ε1 | _ => False
theorem ptK_i (k : Option Int → Ev → Prop) (h : Int) (ε : Ev) : ptK k (.int h) ε = k (some h) ε := rfl
theorem pkW_cst (c : D) (ε : Ev) (T : KE → Prop) (k : D → Ev → Prop) : pkW (.cst c) ε T k = T (kD k) := rfl
theorem pkW_tup (a : IE) (ε : Ev) (T : KE → Prop) (k : D → Ev → Prop) : pkW (.tup a) ε T k = T (kD k) := rfl
theorem pkW_lst (a : IE) (ε : Ev) (T : KE → Prop) (k : D → Ev → Prop) : pkW (.lst a) ε T k = T (kD k) := rfl
theorem pkW_bin (o : Operator) (a b : IE) (ε : Ev) (T : KE → Prop) (k : D → Ev → Prop) : pkW (.bin o a b) ε T k = T (kD k) := rfl
theorem pkW_neg (a : IE) (ε : Ev) (T : KE → Prop) (k : D → Ev → Prop) : pkW (.neg a) ε T k = T (kD k) := rfl
theorem pkW_ix (a b : IE) (ε : Ev) (T : KE → Prop) (k : D → Ev → Prop) : pkW (.ix a b) ε T k = T (kD k) := rfl
theorem pkW_sl (a b c : IE) (ε : Ev) (T : KE → Prop) (k : D → Ev → Prop) : pkW (.sl a b c) ε T k = T (kD k) := rfl
theorem pkW_rev (a : IE) (ε : Ev) (T : KE → Prop) (k : D → Ev → Prop) : pkW (.rev a) ε T k = T (kD k) := rfl
theorem pkW_call (f : Nat) (a : IE) (ε : Ev) (T : KE → Prop) (k : D → Ev → Prop) : pkW (.call f a) ε T k = T (kD k) := rfl
theorem pkW_callP (f : Nat) (a : IE) (ε : Ev) (T : KE → Prop) (k : D → Ev → Prop) : pkW (.callP f a) ε T k = T (kD k) := rfl
theorem pkW_bi (f : Bi) (a : IE) (ε : Ev) (T : KE → Prop) (k : D → Ev → Prop) : pkW (.bi f a) ε T k = T (kD k) := rfl
theorem pkW_len (a : IE) (ε : Ev) (T : KE → Prop) (k : D → Ev → Prop) : pkW (.len a) ε T k = T (kD k) := rfl
theorem pkW_lc (t : Tg) (a b c : IE) (ε : Ev) (T : KE → Prop) (k : D → Ev → Prop) : pkW (.lc t a b c) ε T k = T (kD k) := rfl
theorem pkW_ite (a b c : IE) (ε : Ev) (T : KE → Prop) (k : D → Ev → Prop) : pkW (.ite a b c) ε T k = T (kD k) := rfl
theorem pkW_gc (f : Nat) (d : D) (ε : Ev) (T : KE → Prop) (k : D → Ev → Prop) : pkW (.gc f d) ε T k = T (kD k) := rfl
theorem pkW_mov (j : Nat) (ε : Ev) (T : KE → Prop) (k : D → Ev → Prop) : pkW (.mov j) ε T k = T (kD k) := rfl
theorem pkW_dsp (l : List (Str × D)) (a : IE) (ε : Ev) (T : KE → Prop) (k : D → Ev → Prop) : pkW (.dsp l a) ε T k = T (kD k) := rfl
theorem pkW_bone (a : IE) (ε : Ev) (T : KE → Prop) (k : D → Ev → Prop) : pkW (.bone a) ε T k = T (kD k) := rfl
theorem pkW_cmp (o : CmpOp) (a b : IE) (ε : Ev) (T : KE → Prop) (k : D → Ev → Prop) : pkW (.cmp o a b) ε T k = T (kD k) := rfl
theorem pkW_cnt (a b : IE) (ε : Ev) (T : KE → Prop) (k : D → Ev → Prop) : pkW (.cnt a b) ε T k = T (kD k) := rfl
theorem ptW_cst (c : D) (ε : Ev) (T : KE → Prop) (k : Option Int → Ev → Prop) : ptW (.cst c) ε T k = T (kD (ptK k)) := rfl
theorem ptW_tup (a : IE) (ε : Ev) (T : KE → Prop) (k : Option Int → Ev → Prop) : ptW (.tup a) ε T k = T (kD (ptK k)) := rfl
theorem ptW_lst (a : IE) (ε : Ev) (T : KE → Prop) (k : Option Int → Ev → Prop) : ptW (.lst a) ε T k = T (kD (ptK k)) := rfl
theorem ptW_bin (o : Operator) (a b : IE) (ε : Ev) (T : KE → Prop) (k : Option Int → Ev → Prop) : ptW (.bin o a b) ε T k = T (kD (ptK k)) := rfl
theorem ptW_neg (a : IE) (ε : Ev) (T : KE → Prop) (k : Option Int → Ev → Prop) : ptW (.neg a) ε T k = T (kD (ptK k)) := rfl
theorem ptW_ix (a b : IE) (ε : Ev) (T : KE → Prop) (k : Option Int → Ev → Prop) : ptW (.ix a b) ε T k = T (kD (ptK k)) := rfl
theorem ptW_sl (a b c : IE) (ε : Ev) (T : KE → Prop) (k : Option Int → Ev → Prop) : ptW (.sl a b c) ε T k = T (kD (ptK k)) := rfl
theorem ptW_rev (a : IE) (ε : Ev) (T : KE → Prop) (k : Option Int → Ev → Prop) : ptW (.rev a) ε T k = T (kD (ptK k)) := rfl
theorem ptW_call (f : Nat) (a : IE) (ε : Ev) (T : KE → Prop) (k : Option Int → Ev → Prop) : ptW (.call f a) ε T k = T (kD (ptK k)) := rfl
theorem ptW_callP (f : Nat) (a : IE) (ε : Ev) (T : KE → Prop) (k : Option Int → Ev → Prop) : ptW (.callP f a) ε T k = T (kD (ptK k)) := rfl
theorem ptW_bi (f : Bi) (a : IE) (ε : Ev) (T : KE → Prop) (k : Option Int → Ev → Prop) : ptW (.bi f a) ε T k = T (kD (ptK k)) := rfl
theorem ptW_len (a : IE) (ε : Ev) (T : KE → Prop) (k : Option Int → Ev → Prop) : ptW (.len a) ε T k = T (kD (ptK k)) := rfl
theorem ptW_lc (t : Tg) (a b c : IE) (ε : Ev) (T : KE → Prop) (k : Option Int → Ev → Prop) : ptW (.lc t a b c) ε T k = T (kD (ptK k)) := rfl
theorem ptW_ite (a b c : IE) (ε : Ev) (T : KE → Prop) (k : Option Int → Ev → Prop) : ptW (.ite a b c) ε T k = T (kD (ptK k)) := rfl
theorem ptW_gc (f : Nat) (d : D) (ε : Ev) (T : KE → Prop) (k : Option Int → Ev → Prop) : ptW (.gc f d) ε T k = T (kD (ptK k)) := rfl
theorem ptW_mov (j : Nat) (ε : Ev) (T : KE → Prop) (k : Option Int → Ev → Prop) : ptW (.mov j) ε T k = T (kD (ptK k)) := rfl
theorem ptW_dsp (l : List (Str × D)) (a : IE) (ε : Ev) (T : KE → Prop) (k : Option Int → Ev → Prop) : ptW (.dsp l a) ε T k = T (kD (ptK k)) := rfl
theorem ptW_bone (a : IE) (ε : Ev) (T : KE → Prop) (k : Option Int → Ev → Prop) : ptW (.bone a) ε T k = T (kD (ptK k)) := rfl
theorem ptW_cmp (o : CmpOp) (a b : IE) (ε : Ev) (T : KE → Prop) (k : Option Int → Ev → Prop) : ptW (.cmp o a b) ε T k = T (kD (ptK k)) := rfl
theorem ptW_cnt (a b : IE) (ε : Ev) (T : KE → Prop) (k : Option Int → Ev → Prop) : ptW (.cnt a b) ε T k = T (kD (ptK k)) := rfl
theorem ptW_var (j : Nat) (ε : Ev) (T : KE → Prop) (k : Option Int → Ev → Prop) : ptW (.var j) ε T k = T (kD (ptK k)) := rfl
end Rc
namespace Rc
open PySem
/-! what a frame holds is put in order before the next step -/
def pvF (K : Ev → Prop) (_ : Tok K) (ε : Ev) : Prop := K ε
theorem pvF_eq {K : Ev → Prop} {q : Tok K} {ε : Ev} : pvF K q ε = K ε := rfl
section
variable {Φ : Fs} {ε : Ev} {E : En}
theorem wS_asg {j : Nat} {e : IE} : wS Φ (.asg j e) ε E = wE Φ e ε E.ex (kV fun v ε1 => pvF E.nx .mk (pv ε1 j (some v))) := rfl
theorem wS_par {i j : Nat} {a b : IE} : wS Φ (.par i j a b) ε E = wE Φ a ε E.ex (kD fun x ε1 => wE Φ b ε1 E.ex (kD fun y ε2 => pvF E.nx .mk (pv (pv ε2 i (some (.d x))) j (some (.d y))))) := rfl
theorem wS_setIx {j : Nat} {k e : IE} : wS Φ (.setIx j k e) ε E = wE Φ e ε E.ex (kD fun v ε1 => ownAt ε1 j fun _ => wE Φ k ε1 E.ex (kD fun i ε2 => match i with
      | .int z => ownAt ε2 j fun xs => ∃ n, L2.ixN xs.length z = some n ∧ pvF E.nx .mk (pv ε2 j (some (.own (xs.set n v))))
      | _ => False)) := rfl
theorem wS_app {j : Nat} {e : IE} : wS Φ (.app j e) ε E = ownAt ε j fun _ => wE Φ e ε E.ex (kD fun v ε1 => ownAt ε1 j fun xs => xs.length < 16777216 ∧ pvF E.nx .mk (pv ε1 j (some (.own (xs ++ [v]))))) := rfl
theorem tgW_one {j : Nat} {x : D} {K : Ev → Prop} : tgW (.one j) x ε K = pvF K .mk (pv ε j (some (.d x))) := rfl
theorem tgW_tup {js : List Nat} {xs : List D} {K : Ev → Prop} : tgW (.tup js) (.tuple xs) ε K = (xs.length = js.length ∧ pvF K .mk (setAll js xs ε)) := rfl
end
end Rc
namespace Rc
open PySem
/-! for x in L: if c: return e, L the frame's own -/
def forPF (t : Tg) (j : Nat) (T : Ev → (Bool → Ev → Prop) → Prop) (Rt : Ev → Prop) (nx : Ev → Prop) (_ : Tok (T, Rt, nx)) (xs : List D) (ε : Ev) : Prop := forPW t j xs T Rt nx xs ε
theorem wS_forP {Φ : Fs} {ε : Ev} {E : En} {t : Tg} {j : Nat} {c e : IE} : wS Φ (.forP t j c e) ε E = ownAt ε j fun xs => forPF t j (fun ε1 k => wE Φ c ε1 E.ex (kB k)) (fun ε1 => wE Φ e ε1 E.ex (kV fun v _ => E.rt v)) E.nx .mk xs ε := rfl
theorem forP_at {t : Tg} {j : Nat} {T : Ev → (Bool → Ev → Prop) → Prop} {Rt : Ev → Prop} {nx : Ev → Prop} {q : Tok (T, Rt, nx)} {xs : List D} {ε : Ev} (I : Ev → Prop)
    (h : ∀ x ∈ xs, ∀ ε, I ε → ∀ K : Bool → Ev → Prop, (∀ ε', I ε' → K false ε') → tgW t x ε fun ε1 => T ε1 K) (hI : ∀ ε, I ε → gv ε j = some (.own xs)) (h0 : I ε) (hn : ∀ ε, I ε → nx ε) : forPF t j T Rt nx q xs ε := by
  have go : ∀ (ys : List D) (ε : Ev), (∀ y ∈ ys, y ∈ xs) → I ε → forPW t j xs T Rt nx ys ε := by
    intro ys
    induction ys with
    | nil => exact fun ε _ i => hn ε i
    | cons y r ih =>
      intro ε hm i
      exact h y (hm y (List.mem_cons_self ..)) ε i (fun b ε2 => if b = true then Rt ε2 else gv ε2 j = some (.own xs) ∧ forPW t j xs T Rt nx r ε2) fun ε' i' => by
        show (if false = true then Rt ε' else gv ε' j = some (.own xs) ∧ forPW t j xs T Rt nx r ε')
        rw [if_neg Bool.false_ne_true]
        exact ⟨hI ε' i', ih ε' (fun z hz => hm z (List.mem_cons_of_mem _ hz)) i'⟩
  exact go xs ε (fun _ h => h) h0
/-! ### a list that is lent -/
def callLF (Φ : Fs) (f j : Nat) (X : XP) (Q : KE) (_ : Tok (X, Q)) (xs ds : List D) (ε : Ev) : Prop := Φ f (.list xs :: ds) (fun c => X c (pv ε j none)) (kT fun v ys => Q v (pv ε j (some (.lent ys))))
def callLPF (Φ : Fs) (f j : Nat) (X : XP) (Q : KE) (_ : Tok (X, Q)) (xs ds : List D) (ε : Ev) : Prop := Φ f (.list xs :: ds) (fun c => X c (pv ε j none)) (kTP fun v ys => Q v (pv ε j (some (.lent ys))))
def lclF (t : Tg) (j : Nat) (E : Ev → (D → Ev → Prop) → Prop) (K : List D → List D → Prop) (_ : Tok (E, K)) (ε : Ev) (xs acc L : List D) : Prop := lclW t ε j E xs acc L K
def lckF (t : Tg) (j : Nat) (E : Ev → (D → Ev → Prop) → Prop) (K : List D → Prop) (_ : Tok (E, K)) (ε : Ev) (L xs acc : List D) : Prop := lckW t ε j L E xs acc K
/-- such a comprehension over the images of as -/
theorem lck_as {α : Type} {t : Tg} {ε : Ev} {j : Nat} {L : List D} {E : Ev → (D → Ev → Prop) → Prop} (g f : α → D) {as : List α} {K : List D → Prop} {q : Tok (E, K)}
    (h : ∀ a ∈ as, ∀ k : D → Ev → Prop, (∀ e, gv e j = some (.own L) → k (f a) e) → tgW t (g a) (pv (wipeE (blind ε) (tgs t)) j (some (.own L))) fun ε1 => E ε1 k) (hl : as.length ≤ 16777216) (hk : K (as.map f)) : lckF t j E K q ε L (as.map g) [] := by
  have go : ∀ (as : List α) (acc : List D), (∀ a ∈ as, ∀ k : D → Ev → Prop, (∀ e, gv e j = some (.own L) → k (f a) e) → tgW t (g a) (pv (wipeE (blind ε) (tgs t)) j (some (.own L))) fun ε1 => E ε1 k) → acc.length + as.length ≤ 16777216 → K (acc ++ as.map f) → lckW t ε j L E (as.map g) acc K := by
    intro as
    induction as with
    | nil =>
      intro acc _ _ hk
      have e : acc ++ ([] : List α).map f = acc := by simp
      exact e ▸ hk
    | cons a r ih =>
      intro acc h hl hk
      have hl2 : acc.length + (r.length + 1) ≤ 16777216 := hl
      refine h a (List.mem_cons_self ..) _ fun e he => ?_
      unfold ownAt
      rw [he]
      refine ⟨by omega, ih (acc ++ [f a]) (fun y hy => h y (List.mem_cons_of_mem _ hy)) ?_ ?_⟩
      · simp only [List.length_append, List.length_cons, List.length_nil]
        omega
      · simpa using hk
  exact go as [] h (by simpa using hl) (by simpa using hk)
section
variable {Φ : Fs} {ε : Ev} {X : XP} {Q : KE} {E : En} {f j n : Nat}
theorem wE_lcK {t : Tg} {it e : IE} : wE Φ (.lcK t it e j) ε X Q = wE Φ it ε X (kM fun xs ε1 => ownAt ε1 j fun L => lckF t j (fun ε2 k => wE Φ e ε2 (fun _ _ => False) (kD k)) (fun ys => Q (.own ys) ε1) .mk ε1 L xs []) := rfl
theorem wE_callL {a : IE} : wE Φ (.callL f j a) ε X Q = lentAt ε j fun _ => wE Φ a ε X (kM fun ds ε1 => lentAt ε1 j fun xs => callLF Φ f j X Q .mk xs ds ε1) := rfl
theorem wE_callLP {a : IE} : wE Φ (.callLP f j a) ε X Q = lentAt ε j fun _ => wE Φ a ε X (kM fun ds ε1 => lentAt ε1 j fun xs => callLPF Φ f j X Q .mk xs ds ε1) := rfl
theorem wE_lemp : wE Φ (.lemp j) ε X Q = lentAt ε j fun xs => SeqAt.shaped (.list xs) = true ∧ Q (.d (.bool xs.isEmpty)) ε := rfl
theorem wE_lix : wE Φ (.lix j n) ε X Q = lentAt ε j fun xs => ∃ v, xs[n]? = some v ∧ Q (.d v) ε := rfl
theorem wE_lpop0 : wE Φ (.lpop0 j) ε X Q = lentAt ε j fun xs => ∃ x r, xs = x :: r ∧ Q (.d x) (pv ε j (some (.lent r))) := rfl
theorem wE_lcL {t : Tg} {it e : IE} : wE Φ (.lcL t it e j) ε X Q = wE Φ it ε X (kM fun xs ε1 => lentAt ε1 j fun L => lclF t j (fun ε2 k => wE Φ e ε2 (fun _ _ => False) (kD k)) (fun ys L' => Q (.own ys) (pv ε1 j (some (.lent L')))) .mk ε1 xs [] L) := rfl
theorem kT_two {k : Val → List D → Prop} {x : D} {xs : List D} : kT k (.two x xs) = k (.d x) xs := rfl
theorem kT_twoO {k : Val → List D → Prop} {x xs : List D} : kT k (.twoO x xs) = k (.own x) xs := rfl
theorem kTP_two {k : Val → List D → Prop} {x : D} {xs : List D} : kTP k (.two x xs) = (noL x = true ∧ noLs xs = true ∧ k (.d x) xs) := rfl
theorem kTP_twoO {k : Val → List D → Prop} {x xs : List D} : kTP k (.twoO x xs) = (noLs x = true ∧ noLs xs = true ∧ k (.own x) xs) := rfl
theorem lentAt_i {xs : List D} {k : List D → Prop} {ε : Ev} (h : gv ε j = some (.lent xs)) : lentAt ε j k = k xs := by
  unfold lentAt
  rw [h]
def ul1 : Option Val → Option Val
  | some (.lent _) => none
  | o => o
theorem unlend_nil : unlend [] = [] := rfl
theorem unlend_cons {o : Option Val} {r : Ev} : unlend (o :: r) = ul1 o :: unlend r := by
  cases o with
  | none => rfl
  | some v => cases v <;> rfl
theorem ul1_n : ul1 none = none := rfl
theorem ul1_d {x : D} : ul1 (some (.d x)) = some (.d x) := rfl
theorem ul1_o {x : List D} : ul1 (some (.own x)) = some (.own x) := rfl
theorem ul1_l {x : List D} : ul1 (some (.lent x)) = none := rfl
theorem wS_lend {r : IS} : wS Φ (.lend j r) ε E = ownAt ε j fun xs => wS Φ r (pv ε j (some (.lent xs))) { nx := fun e => E.nx (unlend e), rt := fun v => noTwo v = true ∧ E.rt v, bk := fun e => E.bk (unlend e), ct := fun e => E.ct (unlend e), ex := fun c e => E.ex c (unlend e) } := rfl
theorem wS_lfn {r : IS} {xs : List D} : wS Φ (.lfn r) (some (.d (.list xs)) :: ε) E = wS Φ r (some (.lent xs) :: ε) { E with nx := fun _ => False } := rfl
def kR (E : En) : KE := fun v ε1 => match v with
  | .d x => lentAt ε1 0 fun xs => E.rt (.two x xs)
  | .own ys => lentAt ε1 0 fun xs => E.rt (.twoO ys xs)
  | _ => False
theorem kR_d {x : D} : kR E (.d x) ε = lentAt ε 0 fun xs => E.rt (.two x xs) := rfl
theorem kR_o {x : List D} : kR E (.own x) ε = lentAt ε 0 fun xs => E.rt (.twoO x xs) := rfl
theorem wS_retL {e : IE} : wS Φ (.retL e) ε E = wE Φ e ε E.ex (kR E) := rfl
theorem wS_lset {e : IE} : wS Φ (.lset j n e) ε E = wE Φ e ε E.ex (kD fun v ε1 => lentAt ε1 j fun xs => n < xs.length ∧ pvF E.nx .mk (pv ε1 j (some (.lent (xs.set n v))))) := rfl
theorem wS_asgN {t : Tg} {e : IE} : wS Φ (.asgN t e) ε E = wE Φ e ε E.ex (kD fun x ε1 => tgW t x ε1 E.nx) := rfl
theorem tgW_nst {js : List Nat} {xs : List D} {y : D} {K : Ev → Prop} : tgW (.nst js j) (.tuple [.tuple xs, y]) ε K = (xs.length = js.length ∧ pvF K .mk (pv (setAll js xs ε) j (some (.d y)))) := rfl
theorem noTwo_d {x : D} : noTwo (.d x) = true := rfl
theorem noTwo_o {x : List D} : noTwo (.own x) = true := rfl
/-- such a comprehension, turn by turn -/
theorem lcl_at {t : Tg} {E' : Ev → (D → Ev → Prop) → Prop} {K : List D → List D → Prop} {q : Tok (E', K)} (P : List D → List D → List D → Prop)
    (h : ∀ x r acc L, P (x :: r) acc L → ∀ k : D → Ev → Prop, (∀ y ε' L', P r (acc ++ [y]) L' → gv ε' j = some (.lent L') → k y ε') → acc.length < 16777216 → tgW t x (pv (wipeE (blind ε) (tgs t)) j (some (.lent L))) fun ε1 => E' ε1 k)
    (hK : ∀ acc L, P [] acc L → K acc L) : ∀ (xs acc L : List D), P xs acc L → acc.length + xs.length ≤ 16777216 → lclF t j E' K q ε xs acc L
  | [], acc, L, p, _ => hK acc L p
  | x :: r, acc, L, p, hl => by
    refine h x r acc L p _ (fun y ε' L' p' e => ?_) (by simp at hl; omega)
    rw [lentAt_i e]
    exact ⟨by simp at hl; omega, lcl_at (q := q) P h hK r (acc ++ [y]) L' p' (by simp at hl ⊢; omega)⟩
end
theorem pkW_callL (f j : Nat) (a : IE) (ε : Ev) (T : KE → Prop) (k : D → Ev → Prop) : pkW (.callL f j a) ε T k = T (kD k) := rfl
theorem pkW_callLP (f j : Nat) (a : IE) (ε : Ev) (T : KE → Prop) (k : D → Ev → Prop) : pkW (.callLP f j a) ε T k = T (kD k) := rfl
theorem pkW_lix (j n : Nat) (ε : Ev) (T : KE → Prop) (k : D → Ev → Prop) : pkW (.lix j n) ε T k = T (kD k) := rfl
theorem pkW_lemp (j : Nat) (ε : Ev) (T : KE → Prop) (k : D → Ev → Prop) : pkW (.lemp j) ε T k = T (kD k) := rfl
theorem pkW_lpop0 (j : Nat) (ε : Ev) (T : KE → Prop) (k : D → Ev → Prop) : pkW (.lpop0 j) ε T k = T (kD k) := rfl
theorem pkW_lcL (t : Tg) (a b : IE) (j : Nat) (ε : Ev) (T : KE → Prop) (k : D → Ev → Prop) : pkW (.lcL t a b j) ε T k = T (kD k) := rfl
theorem pkW_lcK (t : Tg) (a b : IE) (j : Nat) (ε : Ev) (T : KE → Prop) (k : D → Ev → Prop) : pkW (.lcK t a b j) ε T k = T (kD k) := rfl
theorem ptW_callL (f j : Nat) (a : IE) (ε : Ev) (T : KE → Prop) (k : Option Int → Ev → Prop) : ptW (.callL f j a) ε T k = T (kD (ptK k)) := rfl
theorem ptW_lix (j n : Nat) (ε : Ev) (T : KE → Prop) (k : Option Int → Ev → Prop) : ptW (.lix j n) ε T k = T (kD (ptK k)) := rfl
def geF (Q : Bool → Prop) (_ : Tok Q) (a b : List D) : Prop := cmpW .GtE (.tuple a) (.tuple b) Q
theorem cmp_geT {a b : List D} {Q : Bool → Prop} : cmpW .GtE (.tuple a) (.tuple b) Q = geF Q .mk a b := rfl
theorem ge_T {a b : List D} {ns ms : List Int} {Q : Bool → Prop} {q : Tok Q} (h1 : asInts a = some ns) (h2 : asInts b = some ms) (h : Q (geI ns ms)) : geF Q q a b := ⟨ns, ms, h1, h2, h⟩
/-! ### dicts -/
def dGetF (v : Val) (Q : Option D → Prop) (_ : Tok Q) (y : D) : Prop := dGetW v y Q
def dPutF (v : Val) (K : Val → Prop) (_ : Tok K) (y x : D) : Prop := dPutW v y x K
def dSrtF (v : Val) (Q : List D → Prop) (_ : Tok Q) : Prop := dSrtW v Q
def srtF (Q : List D → Prop) (_ : Tok Q) (x : D) : Prop := srtW x Q
def lcdF (t : Tg) (j : Nat) (v : Val) (C : Ev → (Bool → Ev → Prop) → Prop) (E : Ev → (D → Ev → Prop) → Prop) (K : List D → Prop) (_ : Tok (C, E, K)) (ε : Ev) (xs acc : List D) : Prop := lcdW t ε j v C E xs acc K
theorem dg_I {kvs : List (Int × D)} {i : Int} {Q : Option D → Prop} {q : Tok Q} (h : Q (lkp kvs i)) : dGetF (.dI kvs) Q q (.int i) := ⟨i, rfl, h⟩
theorem dg_T {kvs : List (List Int × D)} {k : List Int} {y : D} {Q : Option D → Prop} {q : Tok Q} (e : keyT y = some k) (h : Q (lkp kvs k)) : dGetF (.dT kvs) Q q y := ⟨k, e, h⟩
theorem dp_I {kvs : List (Int × D)} {i : Int} {x : D} {K : Val → Prop} {q : Tok K} (l : kvs.length < 16777216) (h : K (.dI (putL kvs i x))) : dPutF (.dI kvs) K q (.int i) x := ⟨i, rfl, l, h⟩
theorem dp_T {kvs : List (List Int × D)} {k : List Int} {y x : D} {K : Val → Prop} {q : Tok K} (e : keyT y = some k) (l : kvs.length < 16777216) (h : K (.dT (putL kvs k x))) : dPutF (.dT kvs) K q y x := ⟨k, e, l, h⟩
theorem ds_I {kvs : List (Int × D)} {Q : List D → Prop} {q : Tok Q} (l : kvs.length < 64) (h : Q (((kvs.map (·.1)).mergeSort fun x y => decide (x ≤ y)).map .int)) : dSrtF (.dI kvs) Q q := ⟨l, h⟩
theorem srt_l {xs : List D} {Q : List D → Prop} {q : Tok Q} (h1 : PySem.W.AllAlike xs) (h2 : PySem.W.Sortable xs) (h3 : xs.length ≤ 16777216) (h4 : ∀ d ∈ xs, d.depth ≤ 16) (h : Q (xs.mergeSort (PySem.W.dataLe false id))) : srtF Q q (.list xs) := ⟨h1, h2, ⟨h3, h4⟩, h⟩
theorem itemsD_I (kvs : List (Int × D)) : itemsD (.dI kvs) = kvs.map fun kv => .tuple [.int kv.1, kv.2] := rfl
theorem itemsD_T (kvs : List (List Int × D)) : itemsD (.dT kvs) = kvs.map fun kv => .tuple [.tuple (kv.1.map .int), kv.2] := rfl
theorem keyT_l (k : List Int) : keyT (.tuple (k.map .int)) = some k := by
  show asInts (k.map .int) = some k
  induction k with
  | nil => rfl
  | cons i r ih =>
    show (asInts (r.map .int)).map (i :: ·) = _
    rw [ih]; rfl
section
variable {Φ : Fs} {ε : Ev} {X : XP} {Q : KE} {E : En} {j : Nat}
theorem wE_dget {k x : IE} : wE Φ (.dget j k x) ε X Q = dictAt ε j fun _ => wE Φ k ε X (kD fun y ε1 => wE Φ x ε1 X (kD fun z ε2 => dictAt ε2 j fun v => dGetF v (fun o => Q (.d (o.getD z)) ε2) .mk y)) := rfl
theorem wE_dix {k : IE} : wE Φ (.dix j k) ε X Q = dictAt ε j fun _ => wE Φ k ε X (kD fun y ε1 => dictAt ε1 j fun v => dGetF v (fun o => ∃ d, o = some d ∧ Q (.d d) ε1) .mk y) := rfl
theorem wE_dsrt : wE Φ (.dsrt j) ε X Q = dictAt ε j fun v => dSrtF v (fun ys => Q (.own ys) ε) .mk := rfl
theorem wE_dlc {t : Tg} {c e : IE} : wE Φ (.dlc t c e j) ε X Q = dictAt ε j fun v => lcF t (fun ε2 k => if isNil c = true then k true ε2 else wE Φ c ε2 (fun _ _ => False) (kB k)) (fun ε2 k => wE Φ e ε2 (fun _ _ => False) (kD k)) (fun ys => Q (.own ys) ε) .mk ε (itemsD v) [] := rfl
theorem wE_lcD {t : Tg} {it c e : IE} : wE Φ (.lcD t it c e j) ε X Q = wE Φ it ε X (kM fun xs ε1 => dictAt ε1 j fun v => lcdF t j v (fun ε2 k => if isNil c = true then k true ε2 else wE Φ c ε2 (fun _ _ => False) (kB k)) (fun ε2 k => wE Φ e ε2 (fun _ _ => False) (kD k)) (fun ys => Q (.own ys) ε1) .mk ε1 xs []) := rfl
theorem wE_srt {a : IE} : wE Φ (.srt a) ε X Q = wE Φ a ε X (kD fun x ε1 => srtF (fun ys => Q (.own ys) ε1) .mk x) := rfl
theorem wS_dnewT : wS Φ (.dnew j true) ε E = pvF E.nx .mk (pv ε j (some (.dT []))) := rfl
theorem wS_dnewI : wS Φ (.dnew j false) ε E = pvF E.nx .mk (pv ε j (some (.dI []))) := rfl
theorem wS_dset {k e : IE} : wS Φ (.dset j k e) ε E = wE Φ e ε E.ex (kD fun v ε1 => dictAt ε1 j fun _ => wE Φ k ε1 E.ex (kD fun y ε2 => dictAt ε2 j fun dv => dPutF dv (fun dv' => pvF E.nx .mk (pv ε2 j (some dv'))) .mk y v)) := rfl
/-- a comprehension that looks at a dict, over the images of as -/
theorem lcd_flt {α : Type} {t : Tg} {v : Val} {C : Ev → (Bool → Ev → Prop) → Prop} {E' : Ev → (D → Ev → Prop) → Prop} {K : List D → Prop} {q : Tok (C, E', K)} (g f : α → D) (p : α → Bool) {as : List α} (c : isDc v = true)
    (h : ∀ a ∈ as, ∀ (k1 : D → Ev → Prop) (k0 : Ev → Prop), (p a = true → ∀ e, gv e j = some v → k1 (f a) e) → (p a = false → ∀ e, gv e j = some v → k0 e) → tgW t (g a) (pv (wipeE (blind ε) (tgs t)) j (some v)) fun ε1 => C ε1 fun b ε2 => if b = true then E' ε2 k1 else k0 ε2)
    (hl : as.length ≤ 16777216) (hk : K ((as.filter p).map f)) : lcdF t j v C E' K q ε (as.map g) [] := by
  have da : ∀ {e : Ev} {k : Val → Prop}, gv e j = some v → k v → dictAt e j k := fun {e k} h1 h2 => by
    unfold dictAt
    rw [h1]
    cases v with
    | dI _ => exact h2
    | dT _ => exact h2
    | _ => cases c
  have go : ∀ (as : List α) (acc : List D), (∀ a ∈ as, ∀ (k1 : D → Ev → Prop) (k0 : Ev → Prop), (p a = true → ∀ e, gv e j = some v → k1 (f a) e) → (p a = false → ∀ e, gv e j = some v → k0 e) → tgW t (g a) (pv (wipeE (blind ε) (tgs t)) j (some v)) fun ε1 => C ε1 fun b ε2 => if b = true then E' ε2 k1 else k0 ε2) →
      acc.length + as.length ≤ 16777216 → K (acc ++ (as.filter p).map f) → lcdW t ε j v C E' (as.map g) acc K := by
    intro as
    induction as with
    | nil =>
      intro acc _ _ hk
      have e : acc ++ (([] : List α).filter p).map f = acc := by simp
      exact e ▸ hk
    | cons a r ih =>
      intro acc h hl hk
      have hl2 : acc.length + (r.length + 1) ≤ 16777216 := hl
      refine h a (List.mem_cons_self ..) (fun y ε3 => dictAt ε3 j fun _ => acc.length < 16777216 ∧ lcdW t ε j v C E' (r.map g) (acc ++ [y]) K) (fun ε2 => dictAt ε2 j fun _ => lcdW t ε j v C E' (r.map g) acc K)
        (fun hp e he => da he ⟨by omega, ih (acc ++ [f a]) (fun y hy => h y (List.mem_cons_of_mem _ hy)) ?_ ?_⟩) fun hp e he => da he (ih acc (fun y hy => h y (List.mem_cons_of_mem _ hy)) (by omega) ?_)
      · simp only [List.length_append, List.length_cons, List.length_nil]
        omega
      · rw [List.filter_cons_of_pos hp] at hk
        simpa using hk
      · rw [List.filter_cons_of_neg (by simp [hp])] at hk
        exact hk
  exact go as [] h (by simpa using hl) (by simpa using hk)
end
theorem pkW_dget (j : Nat) (a b : IE) (ε : Ev) (T : KE → Prop) (k : D → Ev → Prop) : pkW (.dget j a b) ε T k = T (kD k) := rfl
theorem ptW_dget (j : Nat) (a b : IE) (ε : Ev) (T : KE → Prop) (k : Option Int → Ev → Prop) : ptW (.dget j a b) ε T k = T (kD (ptK k)) := rfl
theorem pkW_dix (j : Nat) (a : IE) (ε : Ev) (T : KE → Prop) (k : D → Ev → Prop) : pkW (.dix j a) ε T k = T (kD k) := rfl
theorem ptW_dix (j : Nat) (a : IE) (ε : Ev) (T : KE → Prop) (k : Option Int → Ev → Prop) : ptW (.dix j a) ε T k = T (kD (ptK k)) := rfl
theorem pkW_dsrt (j : Nat) (ε : Ev) (T : KE → Prop) (k : D → Ev → Prop) : pkW (.dsrt j) ε T k = T (kD k) := rfl
theorem ptW_dsrt (j : Nat) (ε : Ev) (T : KE → Prop) (k : Option Int → Ev → Prop) : ptW (.dsrt j) ε T k = T (kD (ptK k)) := rfl
theorem pkW_dlc (t : Tg) (a b : IE) (j : Nat) (ε : Ev) (T : KE → Prop) (k : D → Ev → Prop) : pkW (.dlc t a b j) ε T k = T (kD k) := rfl
theorem ptW_dlc (t : Tg) (a b : IE) (j : Nat) (ε : Ev) (T : KE → Prop) (k : Option Int → Ev → Prop) : ptW (.dlc t a b j) ε T k = T (kD (ptK k)) := rfl
theorem pkW_lcD (t : Tg) (a b c : IE) (j : Nat) (ε : Ev) (T : KE → Prop) (k : D → Ev → Prop) : pkW (.lcD t a b c j) ε T k = T (kD k) := rfl
theorem ptW_lcD (t : Tg) (a b c : IE) (j : Nat) (ε : Ev) (T : KE → Prop) (k : Option Int → Ev → Prop) : ptW (.lcD t a b c j) ε T k = T (kD (ptK k)) := rfl
theorem pkW_srt (a : IE) (ε : Ev) (T : KE → Prop) (k : D → Ev → Prop) : pkW (.srt a) ε T k = T (kD k) := rfl
theorem ptW_srt (a : IE) (ε : Ev) (T : KE → Prop) (k : Option Int → Ev → Prop) : ptW (.srt a) ε T k = T (kD (ptK k)) := rfl
theorem wE_lit {Φ : Fs} {ε : Ev} {X : XP} {Q : KE} {d : D} : wE Φ (.lit d) ε X Q = Q (.d d) ε := rfl
theorem pkW_lit (d : D) (ε : Ev) (T : KE → Prop) (k : D → Ev → Prop) : pkW (.lit d) ε T k = T (kD k) := rfl
theorem ptW_lit (d : D) (ε : Ev) (T : KE → Prop) (k : Option Int → Ev → Prop) : ptW (.lit d) ε T k = T (kD (ptK k)) := rfl
end Rc

/-! Fractions. -/
namespace Rc
open PySem
def fr (q : Rat) : D := .tuple [.int q.num, .int q.den]
/-- top and bottom below 2 ^ a -/
def Sz (a : Nat) (q : Rat) : Prop := Bt a q.num ∧ Bt a q.den
theorem Sz.mono {a b : Nat} {q : Rat} (h : Sz a q) (l : a ≤ b) : Sz b q := ⟨h.1.mono l, h.2.mono l⟩
theorem den0 (q : Rat) : (q.den : Int) ≠ 0 := by have := q.den_nz; omega
theorem denP (q : Rat) : (0 : Int) < q.den := by have := q.den_pos; omega
def gsg (t b : Int) : Int := if b < 0 then 0 - (Int.gcd t b : Int) else Int.gcd t b
theorem gsg0 {t b : Int} (hb : b ≠ 0) : gsg t b ≠ 0 := by
  unfold gsg
  have := Int.gcd_pos_of_ne_zero_right t hb
  split <;> omega
theorem fr_num {t b : Int} (hb : b ≠ 0) : t.fdiv (gsg t b) = (Rat.divInt t b).num := by
  have d : (Int.gcd t b : Int) ∣ t := Int.gcd_dvd_left t b
  rw [Rat.num_divInt, Int.gcd_comm b t]
  unfold gsg
  split
  · rename_i h
    have d2 : (0 - (Int.gcd t b : Int)) ∣ t := by rw [Int.zero_sub]; exact Int.neg_dvd.mpr d
    rw [Int.fdiv_eq_ediv_of_dvd d2, Int.zero_sub, Int.ediv_neg, Int.sign_eq_neg_one_of_neg h]
    obtain ⟨u, hu⟩ := d
    have g0 : (Int.gcd t b : Int) ≠ 0 := by have := Int.gcd_pos_of_ne_zero_right t hb; omega
    generalize (Int.gcd t b : Int) = g at *
    subst hu
    rw [Int.mul_ediv_cancel_left _ g0, show -1 * (g * u) = g * (-u) by rw [Int.mul_neg, Int.neg_one_mul], Int.mul_ediv_cancel_left _ g0]
  · rename_i h
    rw [Int.fdiv_eq_ediv_of_dvd d, Int.sign_eq_one_of_pos (by omega), Int.one_mul]
theorem fr_den {t b : Int} (hb : b ≠ 0) : b.fdiv (gsg t b) = (Rat.divInt t b).den := by
  have d : (Int.gcd t b : Int) ∣ b := Int.gcd_dvd_right t b
  rw [Rat.den_divInt, Int.gcd_comm b t, if_neg hb, Int.natCast_ediv]
  unfold gsg
  split
  · rename_i h
    have d2 : (0 - (Int.gcd t b : Int)) ∣ b := by rw [Int.zero_sub]; exact Int.neg_dvd.mpr d
    rw [Int.fdiv_eq_ediv_of_dvd d2, Int.zero_sub, Int.ediv_neg]
    obtain ⟨u, hu⟩ := d
    have g0 : (Int.gcd t b : Int) ≠ 0 := by have := Int.gcd_pos_of_ne_zero_right t hb; omega
    have e : (b.natAbs : Int) = -b := by omega
    rw [e]
    generalize (Int.gcd t b : Int) = g at *
    subst hu
    rw [Int.mul_ediv_cancel_left _ g0, ← Int.mul_neg, Int.mul_ediv_cancel_left _ g0]
  · rename_i h
    rw [Int.fdiv_eq_ediv_of_dvd d]
    have e : (b.natAbs : Int) = b := by omega
    rw [e]
theorem bt_div {a : Nat} {x g : Int} (h : Bt a x) : Bt a (x / g) := h.le (Int.natAbs_ediv_le_natAbs x g)
theorem sz_divInt {a : Nat} {t b : Int} (hb : b ≠ 0) (h1 : Bt a t) (h2 : Bt a b) : Sz a (Rat.divInt t b) := by
  refine ⟨?_, ?_⟩
  · rw [Rat.num_divInt]
    refine bt_div (h1.le ?_)
    rw [Int.natAbs_mul, Int.natAbs_sign_of_ne_zero hb, Nat.one_mul]
    exact Nat.le_refl _
  · rw [Rat.den_divInt, if_neg hb]
    exact h2.le (Nat.div_le_self _ _)
theorem gsgB {a : Nat} {t b : Int} (hb : b ≠ 0) (h : Bt a b) : Bt a (gsg t b) := by
  refine h.le ?_
  have := Nat.le_of_dvd (by omega) (Int.gcd_dvd_natAbs_right t b)
  unfold gsg
  split <;> omega
theorem gsgL {t b : Int} (hb : b ≠ 0) (h : Bt 9000 b) : (gsg t b).natAbs.log2 < 9000 := (gsgB hb h).log (gsg0 hb)
theorem frac_add (p q : Rat) : Rat.divInt (p.num * q.den + q.num * p.den) (p.den * q.den) = p + q := by
  rw [Rat.add_def', ← Rat.divInt_ofNat, Int.natCast_mul]
theorem frac_sub (p q : Rat) : Rat.divInt (p.num * q.den - q.num * p.den) (p.den * q.den) = p - q := by
  rw [Rat.sub_def', ← Rat.divInt_ofNat, Int.natCast_mul]
theorem frac_mul (p q : Rat) : Rat.divInt (p.num * q.num) (p.den * q.den) = p * q := by
  rw [Rat.mul_def', ← Rat.divInt_ofNat, Int.natCast_mul]
theorem frac_div (p q : Rat) : Rat.divInt (p.num * q.den) (p.den * q.num) = p / q := by
  rw [Rat.div_def, Rat.inv_def, ← Rat.divInt_mul_divInt, Rat.num_divInt_den]
theorem frac_self (p : Rat) : Rat.divInt p.num p.den = p := Rat.num_divInt_den p
theorem fr_eq {p q : Rat} : PyData.eqv (fr p) (fr q) = decide (p = q) := by
  show PyData.eqvAll [.int p.num, .int p.den] [.int q.num, .int q.den] = _
  rw [show [PyData.int p.num, .int p.den] = [p.num, (p.den : Int)].map .int from rfl, show [PyData.int q.num, .int q.den] = [q.num, (q.den : Int)].map .int from rfl, eqvInts]
  by_cases h : p = q
  · subst h
    rw [decide_eq_true rfl, decide_eq_true rfl]
  · rw [decide_eq_false h, decide_eq_false]
    intro e
    have e1 : p.num = q.num ∧ (p.den : Int) = q.den := by simpa using e
    exact h (Rat.ext e1.1 (by omega))
theorem fr_sh (p : Rat) : SeqAt.shaped (fr p) = true := shapedT [p.num, (p.den : Int)]
theorem num0 {q : Rat} : q.num = 0 ↔ q = 0 := Rat.num_eq_zero
theorem fr_c {p : Rat} {n d : Int} (h1 : p.num = n) (h2 : (p.den : Int) = d) : PyData.tuple [.int n, .int d] = fr p := by
  rw [← h1, ← h2]
  rfl
theorem fr0 : PyData.tuple [.int 0, .int 1] = fr 0 := rfl
theorem fr1 : PyData.tuple [.int 1, .int 1] = fr 1 := rfl
end Rc
namespace Rc
open PySem
theorem mul_den0 (p q : Rat) : (p.den : Int) * q.den ≠ 0 := Int.mul_ne_zero (den0 p) (den0 q)
theorem sz_add {a : Nat} {p q : Rat} (h : Sz a p) (g : Sz a q) : Sz (2 * a + 1) (p + q) := by
  rw [← frac_add]
  exact sz_divInt (mul_den0 p q) ((Bt.add (Bt.mul h.1 g.2) (Bt.mul g.1 h.2)).mono (by omega)) ((Bt.mul h.2 g.2).mono (by omega))
theorem sz_sub {a : Nat} {p q : Rat} (h : Sz a p) (g : Sz a q) : Sz (2 * a + 1) (p - q) := by
  rw [← frac_sub]
  exact sz_divInt (mul_den0 p q) ((Bt.sub (Bt.mul h.1 g.2) (Bt.mul g.1 h.2)).mono (by omega)) ((Bt.mul h.2 g.2).mono (by omega))
theorem sz_mul {a : Nat} {p q : Rat} (h : Sz a p) (g : Sz a q) : Sz (2 * a + 1) (p * q) := by
  rw [← frac_mul]
  exact sz_divInt (mul_den0 p q) ((Bt.mul h.1 g.1).mono (by omega)) ((Bt.mul h.2 g.2).mono (by omega))
theorem sz_div {a : Nat} {p q : Rat} (h : Sz a p) (g : Sz a q) (q0 : q ≠ 0) : Sz (2 * a + 1) (p / q) := by
  rw [← frac_div]
  exact sz_divInt (Int.mul_ne_zero (den0 p) (fun e => q0 (num0.mp e))) ((Bt.mul h.1 g.2).mono (by omega)) ((Bt.mul h.2 g.1).mono (by omega))
theorem sz0 {a : Nat} (h : 1 ≤ a) : Sz a 0 := ⟨(bt_c (a := 1) (by decide)).mono h, (bt_c (a := 1) (by decide)).mono h⟩
theorem sz1 {a : Nat} (h : 1 ≤ a) : Sz a 1 := ⟨(bt_c (a := 1) (by decide)).mono h, (bt_c (a := 1) (by decide)).mono h⟩
theorem ix_fr0 {p : Rat} {Q : D → Prop} {t : Tok Q} : ixF Q t (fr p) (.int 0) = Q (.int p.num) := by
  show (∃ v, L2.atI [PyData.int p.num, .int p.den] 0 = some v ∧ Q v) = _
  simp [L2.atI, L2.ixN]
theorem ix_fr1 {p : Rat} {Q : D → Prop} {t : Tok Q} : ixF Q t (fr p) (.int 1) = Q (.int p.den) := by
  show (∃ v, L2.atI [PyData.int p.num, .int p.den] 1 = some v ∧ Q v) = _
  simp [L2.atI, L2.ixN]
theorem cmp_fr {p q : Rat} {Q : Bool → Prop} : cmpW .Eq (fr p) (fr q) Q = Q (decide (p = q)) := by
  show (SeqAt.shaped (fr p) = true ∧ SeqAt.shaped (fr q) = true ∧ Q (PyData.eqv (fr p) (fr q))) = _
  rw [fr_sh, fr_sh, fr_eq]
  simp
theorem cmp_frn {p q : Rat} {Q : Bool → Prop} : cmpW .NotEq (fr p) (fr q) Q = Q (!decide (p = q)) := by
  show (SeqAt.shaped (fr p) = true ∧ SeqAt.shaped (fr q) = true ∧ Q (!PyData.eqv (fr p) (fr q))) = _
  rw [fr_sh, fr_sh, fr_eq]
  simp
theorem cmp_fr0 {p : Rat} {Q : Bool → Prop} : cmpW .NotEq (fr p) (.tuple [.int 0, .int 1]) Q = Q (!decide (p = 0)) := cmp_frn (q := 0)
end Rc
namespace Rc
theorem lt_fr {p q : Rat} : decide (p.num * q.den < q.num * p.den) = decide (p < q) := by
  rw [decide_eq_decide]
  exact (Rat.lt_iff p q).symm
end Rc
namespace Rc
theorem s10 : small64 10 = True := eq_true small10
end Rc
namespace Rc
theorem la_2 : ((Int.natAbs 2).log2 < 9000) = True := eq_true (by decide)
theorem la_3 : ((Int.natAbs 3).log2 < 9000) = True := eq_true (by decide)
theorem la_4 : ((Int.natAbs 4).log2 < 9000) = True := eq_true (by decide)
theorem la_5 : ((Int.natAbs 5).log2 < 9000) = True := eq_true (by decide)
theorem la_6 : ((Int.natAbs 6).log2 < 9000) = True := eq_true (by decide)
theorem la_7 : ((Int.natAbs 7).log2 < 9000) = True := eq_true (by decide)
theorem la_8 : ((Int.natAbs 8).log2 < 9000) = True := eq_true (by decide)
theorem la_9 : ((Int.natAbs 9).log2 < 9000) = True := eq_true (by decide)
theorem la_10 : ((Int.natAbs 10).log2 < 9000) = True := eq_true (by decide)
theorem la_11 : ((Int.natAbs 11).log2 < 9000) = True := eq_true (by decide)
theorem la_12 : ((Int.natAbs 12).log2 < 9000) = True := eq_true (by decide)
theorem la_13 : ((Int.natAbs 13).log2 < 9000) = True := eq_true (by decide)
theorem la_14 : ((Int.natAbs 14).log2 < 9000) = True := eq_true (by decide)
theorem la_15 : ((Int.natAbs 15).log2 < 9000) = True := eq_true (by decide)
theorem la_16 : ((Int.natAbs 16).log2 < 9000) = True := eq_true (by decide)
theorem la_18 : ((Int.natAbs 18).log2 < 9000) = True := eq_true (by decide)
theorem la_19 : ((Int.natAbs 19).log2 < 9000) = True := eq_true (by decide)
theorem la_20 : ((Int.natAbs 20).log2 < 9000) = True := eq_true (by decide)
theorem la_21 : ((Int.natAbs 21).log2 < 9000) = True := eq_true (by decide)
theorem la_24 : ((Int.natAbs 24).log2 < 9000) = True := eq_true (by decide)
theorem la_25 : ((Int.natAbs 25).log2 < 9000) = True := eq_true (by decide)
theorem la_28 : ((Int.natAbs 28).log2 < 9000) = True := eq_true (by decide)
theorem la_30 : ((Int.natAbs 30).log2 < 9000) = True := eq_true (by decide)
theorem la_35 : ((Int.natAbs 35).log2 < 9000) = True := eq_true (by decide)
theorem la_36 : ((Int.natAbs 36).log2 < 9000) = True := eq_true (by decide)
theorem la_39 : ((Int.natAbs 39).log2 < 9000) = True := eq_true (by decide)
theorem la_40 : ((Int.natAbs 40).log2 < 9000) = True := eq_true (by decide)
theorem la_41 : ((Int.natAbs 41).log2 < 9000) = True := eq_true (by decide)
theorem la_44 : ((Int.natAbs 44).log2 < 9000) = True := eq_true (by decide)
theorem la_45 : ((Int.natAbs 45).log2 < 9000) = True := eq_true (by decide)
theorem la_49 : ((Int.natAbs 49).log2 < 9000) = True := eq_true (by decide)
theorem la_50 : ((Int.natAbs 50).log2 < 9000) = True := eq_true (by decide)
theorem la_52 : ((Int.natAbs 52).log2 < 9000) = True := eq_true (by decide)
theorem la_54 : ((Int.natAbs 54).log2 < 9000) = True := eq_true (by decide)
theorem la_57 : ((Int.natAbs 57).log2 < 9000) = True := eq_true (by decide)
theorem la_63 : ((Int.natAbs 63).log2 < 9000) = True := eq_true (by decide)
theorem la_64 : ((Int.natAbs 64).log2 < 9000) = True := eq_true (by decide)
theorem la_65 : ((Int.natAbs 65).log2 < 9000) = True := eq_true (by decide)
theorem la_72 : ((Int.natAbs 72).log2 < 9000) = True := eq_true (by decide)
theorem la_78 : ((Int.natAbs 78).log2 < 9000) = True := eq_true (by decide)
theorem la_81 : ((Int.natAbs 81).log2 < 9000) = True := eq_true (by decide)
theorem la_90 : ((Int.natAbs 90).log2 < 9000) = True := eq_true (by decide)
theorem la_100 : ((Int.natAbs 100).log2 < 9000) = True := eq_true (by decide)
theorem la_121 : ((Int.natAbs 121).log2 < 9000) = True := eq_true (by decide)
theorem la_123 : ((Int.natAbs 123).log2 < 9000) = True := eq_true (by decide)
theorem la_125 : ((Int.natAbs 125).log2 < 9000) = True := eq_true (by decide)
theorem la_126 : ((Int.natAbs 126).log2 < 9000) = True := eq_true (by decide)
theorem la_144 : ((Int.natAbs 144).log2 < 9000) = True := eq_true (by decide)
theorem la_162 : ((Int.natAbs 162).log2 < 9000) = True := eq_true (by decide)
theorem la_168 : ((Int.natAbs 168).log2 < 9000) = True := eq_true (by decide)
theorem la_176 : ((Int.natAbs 176).log2 < 9000) = True := eq_true (by decide)
theorem la_196 : ((Int.natAbs 196).log2 < 9000) = True := eq_true (by decide)
theorem la_200 : ((Int.natAbs 200).log2 < 9000) = True := eq_true (by decide)
theorem la_216 : ((Int.natAbs 216).log2 < 9000) = True := eq_true (by decide)
theorem la_240 : ((Int.natAbs 240).log2 < 9000) = True := eq_true (by decide)
theorem la_360 : ((Int.natAbs 360).log2 < 9000) = True := eq_true (by decide)
theorem la_369 : ((Int.natAbs 369).log2 < 9000) = True := eq_true (by decide)
theorem la_400 : ((Int.natAbs 400).log2 < 9000) = True := eq_true (by decide)
theorem la_402 : ((Int.natAbs 402).log2 < 9000) = True := eq_true (by decide)
theorem la_441 : ((Int.natAbs 441).log2 < 9000) = True := eq_true (by decide)
theorem la_540 : ((Int.natAbs 540).log2 < 9000) = True := eq_true (by decide)
theorem la_550 : ((Int.natAbs 550).log2 < 9000) = True := eq_true (by decide)
theorem la_900 : ((Int.natAbs 900).log2 < 9000) = True := eq_true (by decide)
theorem la_907 : ((Int.natAbs 907).log2 < 9000) = True := eq_true (by decide)
theorem la_997 : ((Int.natAbs 997).log2 < 9000) = True := eq_true (by decide)
theorem la_1009 : ((Int.natAbs 1009).log2 < 9000) = True := eq_true (by decide)
theorem la_1100 : ((Int.natAbs 1100).log2 < 9000) = True := eq_true (by decide)
theorem la_1152 : ((Int.natAbs 1152).log2 < 9000) = True := eq_true (by decide)
theorem la_1440 : ((Int.natAbs 1440).log2 < 9000) = True := eq_true (by decide)
theorem la_1764 : ((Int.natAbs 1764).log2 < 9000) = True := eq_true (by decide)
theorem la_2001 : ((Int.natAbs 2001).log2 < 9000) = True := eq_true (by decide)
theorem la_2003 : ((Int.natAbs 2003).log2 < 9000) = True := eq_true (by decide)
theorem la_2200 : ((Int.natAbs 2200).log2 < 9000) = True := eq_true (by decide)
theorem la_3150 : ((Int.natAbs 3150).log2 < 9000) = True := eq_true (by decide)
theorem la_4099 : ((Int.natAbs 4099).log2 < 9000) = True := eq_true (by decide)
theorem la_16807 : ((Int.natAbs 16807).log2 < 9000) = True := eq_true (by decide)
theorem la_22500 : ((Int.natAbs 22500).log2 < 9000) = True := eq_true (by decide)
theorem la_24200 : ((Int.natAbs 24200).log2 < 9000) = True := eq_true (by decide)
theorem la_72600 : ((Int.natAbs 72600).log2 < 9000) = True := eq_true (by decide)
end Rc
namespace Rc
open PySem
theorem cmp_bb {a b : Bool} {Q : Bool → Prop} : cmpW .Eq (.bool a) (.bool b) Q = Q (a == b) := by
  show (SeqAt.shaped (.bool a) = true ∧ SeqAt.shaped (.bool b) = true ∧ Q (a == b)) = _
  exact propext ⟨fun h => h.2.2, fun h => ⟨rfl, rfl, h⟩⟩
theorem cmp_bbn {a b : Bool} {Q : Bool → Prop} : cmpW .NotEq (.bool a) (.bool b) Q = Q (!(a == b)) := by
  show (SeqAt.shaped (.bool a) = true ∧ SeqAt.shaped (.bool b) = true ∧ Q (!(a == b))) = _
  exact propext ⟨fun h => h.2.2, fun h => ⟨rfl, rfl, h⟩⟩
theorem num_pos {p : Rat} : 0 < p.num ↔ 0 < p := by
  rw [Rat.lt_iff]
  simp
theorem num_neg {p : Rat} : p.num < 0 ↔ p < 0 := by
  rw [Rat.lt_iff]
  simp
end Rc
namespace Rc
open PySem
theorem cmp_ll {a b : List D} {Q : Bool → Prop} : cmpW .Eq (.list a) (.list b) Q = (SeqAt.shaped (.list a) = true ∧ SeqAt.shaped (.list b) = true ∧ Q (PyData.eqv (.list a) (.list b))) := rfl
theorem cmp_lln {a b : List D} {Q : Bool → Prop} : cmpW .NotEq (.list a) (.list b) Q = (SeqAt.shaped (.list a) = true ∧ SeqAt.shaped (.list b) = true ∧ Q (!PyData.eqv (.list a) (.list b))) := rfl
theorem cmp_tt {a b : List D} {Q : Bool → Prop} : cmpW .Eq (.tuple a) (.tuple b) Q = (SeqAt.shaped (.tuple a) = true ∧ SeqAt.shaped (.tuple b) = true ∧ Q (PyData.eqv (.tuple a) (.tuple b))) := rfl
theorem cmp_ttn {a b : List D} {Q : Bool → Prop} : cmpW .NotEq (.tuple a) (.tuple b) Q = (SeqAt.shaped (.tuple a) = true ∧ SeqAt.shaped (.tuple b) = true ∧ Q (!PyData.eqv (.tuple a) (.tuple b))) := rfl
end Rc

/-! Whole numbers, polynomials as lists. -/
namespace Rc
open PySem
def isW : D → Bool
  | .int _ => true
  | _ => false
theorem asInts_some : ∀ {xs : List D} {ns : List Int}, asInts xs = some ns → xs = ns.map .int
  | [], ns, h => by cases h; rfl
  | .int i :: r, ns, h => by
    have h2 : (asInts r).map (i :: ·) = some ns := h
    cases e : asInts r with
    | none => rw [e] at h2; cases h2
    | some ms =>
      rw [e] at h2
      cases h2
      rw [asInts_some e]
      rfl
  | .none :: _, _, h => by cases h
  | .bool _ :: _, _, h => by cases h
  | .str _ :: _, _, h => by cases h
  | .list _ :: _, _, h => by cases h
  | .tuple _ :: _, _, h => by cases h
  | .dict _ :: _, _, h => by cases h
theorem all_isW : ∀ xs : List D, (xs.map isW).all id = (asInts xs).isSome
  | [] => rfl
  | x :: r => by
    have ih := all_isW r
    cases x with
    | int i =>
      show (true && (r.map isW).all id) = ((asInts r).map (i :: ·)).isSome
      rw [ih]
      cases asInts r <;> rfl
    | _ => rfl
theorem asBools_map {α : Type} (f : α → Bool) : ∀ xs : List α, asBools (xs.map fun d => PyData.bool (f d)) = some (xs.map f)
  | [] => rfl
  | x :: r => by
    show (asBools (r.map fun d => PyData.bool (f d))).map (f x :: ·) = _
    rw [asBools_map f r]
    rfl
def isPolyV : D → Bool
  | .tuple xs => match asInts xs with
    | some ns => decide (ns = []) || decide (ns.getLast? ≠ some 0)
    | none => false
  | _ => false
theorem atI_last {ns : List Int} (h : ns ≠ []) : L2.atI (ns.map PyData.int) (-1) = some (.int (ns.getLast h)) := by
  have hl : 0 < ns.length := List.length_pos_iff.mpr h
  unfold L2.atI L2.ixN
  rw [List.length_map]
  rw [if_neg (by decide), if_pos (by omega)]
  show (ns.map PyData.int)[((-1 : Int) + ns.length).toNat]? = _
  rw [show ((-1 : Int) + ns.length).toNat = ns.length - 1 by omega, List.getElem?_map, ← List.getLast?_eq_getElem?, List.getLast?_eq_some_getLast h]
  rfl
/-- without the noughts at the end -/
def trim (xs : List Int) : List Int := (xs.reverse.dropWhile (· == 0)).reverse
theorem trim_snoc0 (xs : List Int) : trim (xs ++ [0]) = trim xs := by
  unfold trim
  rw [List.reverse_append]
  simp
theorem trim_snoc {xs : List Int} {x : Int} (h : x ≠ 0) : trim (xs ++ [x]) = xs ++ [x] := by
  unfold trim
  rw [List.reverse_append]
  simp [List.dropWhile_cons, h]
def tz (xs : List Int) : D := .tuple (xs.map .int)
theorem cut_take {α : Type} {xs : List α} {m : Nat} (h : m ≤ xs.length) : cut xs none (some (m : Int)) = xs.take m := by
  unfold cut
  rw [HT.sIx_none, HT.sIx_nat, Nat.min_eq_left h]
  simp
theorem bitAnd_le {i m : Int} (h : 0 < i) (hm : 0 ≤ m := by decide) : 0 ≤ Builtin.bitAnd i m ∧ Builtin.bitAnd i m ≤ m := by
  obtain ⟨a, rfl⟩ := Int.eq_ofNat_of_zero_le (show 0 ≤ i by omega)
  obtain ⟨b, rfl⟩ := Int.eq_ofNat_of_zero_le hm
  show 0 ≤ ((a &&& b : Nat) : Int) ∧ ((a &&& b : Nat) : Int) ≤ b
  have := @Nat.and_le_right a b
  omega
theorem lc_goP {α : Type} {t : Tg} {ε : Ev} {E : Ev → (D → Ev → Prop) → Prop} (g : α → D) (P : D → Prop) : ∀ (as : List α) (acc : List D) (K : List D → Prop),
    (∀ a ∈ as, ∀ k : D → Ev → Prop, (∀ y e, P y → k y e) → tgW t (g a) (wipeE (blind ε) (tgs t)) fun ε1 => E ε1 k) → acc.length + as.length ≤ 16777216 →
    (∀ ys : List D, ys.length = as.length → (∀ y ∈ ys, P y) → K (acc ++ ys)) → lcW t ε (fun ε2 k => k true ε2) E (as.map g) acc K
  | [], acc, K, _, _, hk => by
    have := hk [] rfl (fun y hy => by cases hy)
    rw [List.append_nil] at this
    exact this
  | a :: r, acc, K, h, hl, hk => by
    have hl2 : acc.length + (r.length + 1) ≤ 16777216 := hl
    refine h a (List.mem_cons_self ..) (fun y e => acc.length < 16777216 ∧ lcW t ε (fun ε2 k => k true ε2) E (r.map g) (acc ++ [y]) K) fun y e hy => ⟨by omega, lc_goP g P r (acc ++ [y]) K (fun z hz => h z (List.mem_cons_of_mem _ hz)) ?_ fun ys hys hp => ?_⟩
    · simp only [List.length_append, List.length_cons, List.length_nil]
      omega
    · have := hk (y :: ys) (by simp [hys]) (fun z hz => by
        rcases List.mem_cons.mp hz with rfl | hz
        · exact hy
        · exact hp z hz)
      simpa using this
/-- a comprehension that tells whole numbers, not told which -/
theorem lc_ints {α : Type} {t : Tg} {ε : Ev} {E : Ev → (D → Ev → Prop) → Prop} (g : α → D) (P : Int → Prop) {as : List α} {K : List D → Prop} {q : Tok ((fun ε2 k => k true ε2 : Ev → (Bool → Ev → Prop) → Prop), E, K)}
    (h : ∀ a ∈ as, ∀ k : D → Ev → Prop, (∀ i e, P i → k (.int i) e) → tgW t (g a) (wipeE (blind ε) (tgs t)) fun ε1 => E ε1 k) (hl : as.length ≤ 16777216)
    (hk : ∀ is : List Int, is.length = as.length → (∀ i ∈ is, P i) → K (is.map .int)) : lcF t (fun ε2 k => k true ε2) E K q ε (as.map g) [] := by
  refine lc_goP g (fun y => ∃ i, y = .int i ∧ P i) as [] K (fun a ha k hk => h a ha k fun i e hi => hk _ e ⟨i, rfl, hi⟩) (by simpa using hl) fun ys hys hp => ?_
  have : ∀ ys : List D, (∀ y ∈ ys, ∃ i, y = .int i ∧ P i) → ∃ is : List Int, ys = is.map .int ∧ ∀ i ∈ is, P i := by
    intro ys
    induction ys with
    | nil => exact fun _ => ⟨[], rfl, fun i hi => by cases hi⟩
    | cons y r ih =>
      intro h
      obtain ⟨i, rfl, hi⟩ := h y (List.mem_cons_self ..)
      obtain ⟨is, rfl, hs⟩ := ih fun z hz => h z (List.mem_cons_of_mem _ hz)
      exact ⟨i :: is, rfl, fun j hj => by
        rcases List.mem_cons.mp hj with rfl | hj
        · exact hi
        · exact hs j hj⟩
  obtain ⟨is, rfl, hs⟩ := this ys hp
  exact hk is (by simpa using hys) hs
end Rc
namespace Rc
open PySem
theorem isPolyV_n {xs : List D} (e : asInts xs = none) : isPolyV (.tuple xs) = false := by
  show (match asInts xs with
    | some ns => decide (ns = []) || decide (ns.getLast? ≠ some 0)
    | none => false) = false
  rw [e]
theorem isPolyV_s {xs : List D} {ns : List Int} (e : asInts xs = some ns) : isPolyV (.tuple xs) = (decide (ns = []) || decide (ns.getLast? ≠ some 0)) := by
  show (match asInts xs with
    | some ns => decide (ns = []) || decide (ns.getLast? ≠ some 0)
    | none => false) = _
  rw [e]
theorem asInts_map : ∀ ns : List Int, asInts (ns.map .int) = some ns
  | [] => rfl
  | i :: r => by
    show (asInts (r.map .int)).map (i :: ·) = _
    rw [asInts_map r]
    rfl
end Rc
namespace Rc
open PySem
theorem rep0 (n : Nat) : (List.replicate n [PyData.int 0]).flatten = (List.replicate n (0 : Int)).map .int := by
  simp [List.map_replicate]
theorem trim_len (xs : List Int) : (trim xs).length ≤ xs.length := by
  unfold trim
  rw [List.length_reverse]
  have := (List.dropWhile_suffix (l := xs.reverse) (· == (0 : Int))).length_le
  rw [List.length_reverse] at this
  exact this
theorem trim_last (xs : List Int) : (trim xs).getLast? ≠ some 0 := by
  unfold trim
  rw [List.getLast?_reverse]
  intro h
  have := List.head?_dropWhile_not (· == (0 : Int)) xs.reverse
  rw [h] at this
  simp at this
theorem isPolyV_tz {xs : List Int} : isPolyV (.tuple ((trim xs).map .int)) = true := by
  rw [isPolyV_s (asInts_map _)]
  simp [trim_last]
theorem shapedB {α : Type} (f : α → Bool) (xs : List α) : SeqAt.shaped (.list (xs.map fun x => .bool (f x))) = true := shaped_of (shLst (n := 0) fun x h => by
  obtain ⟨i, _, rfl⟩ := List.mem_map.mp h
  exact ⟨rfl, Nat.zero_le _⟩) (by decide)
theorem eqvB {α : Type} (f : α → Bool) : ∀ xs : List α, PyData.eqv (.list (xs.map fun x => .bool (f x))) (.list (xs.map fun x => .bool (f x))) = true
  | [] => rfl
  | x :: r => by
    have ih : PyData.eqvAll (r.map fun x => PyData.bool (f x)) (r.map fun x => PyData.bool (f x)) = true := eqvB f r
    show ((f x == f x) && PyData.eqvAll (r.map fun x => PyData.bool (f x)) (r.map fun x => PyData.bool (f x))) = true
    rw [ih]
    simp
end Rc
namespace Rc
open PySem
theorem bi_list_any {xs : List D} {d : D} {Q : Val → Prop} (hd : d = .list xs ∨ d = .tuple xs) : biW .list [d] Q = Q (.own xs) := by
  rcases hd with rfl | rfl <;> rfl
end Rc
namespace Rc
open PySem
/-- in lowest terms, with a bottom above 0 -/
def fracV : D → Bool
  | .tuple [.int a, .int b] => decide (0 < b) && decide (Int.gcd a b = 1)
  | _ => false
theorem fracV_len {xs : List D} (h : xs.length ≠ 2) : fracV (.tuple xs) = false := by
  unfold fracV
  split
  · rename_i a b e
    cases e
    exact absurd rfl h
  · rfl
theorem fracV_l {x y : D} (h : isW x = false) : fracV (.tuple [x, y]) = false := by
  cases x <;> first | rfl | cases h
theorem fracV_r {x : Int} {y : D} (h : isW y = false) : fracV (.tuple [.int x, y]) = false := by
  cases y <;> first | rfl | cases h
end Rc
namespace Rc
theorem cut_takeAny {α : Type} {xs : List α} {m : Nat} : cut xs none (some (m : Int)) = xs.take m := by
  unfold cut
  rw [HT.sIx_none, HT.sIx_nat]
  by_cases h : m ≤ xs.length
  · rw [Nat.min_eq_left h]
    simp
  · rw [Nat.min_eq_right (by omega)]
    simp
    rw [List.take_of_length_le (by omega)]
end Rc

/-! Polynomials: lists of weights by what they have at each place. -/
namespace Rc
open PySem
def cf (xs : List Int) (n : Nat) : Int := xs.getD n 0
theorem cf_nil (n : Nat) : cf [] n = 0 := rfl
theorem cf_0 (x : Int) (r : List Int) : cf (x :: r) 0 = x := rfl
theorem cf_s (x : Int) (r : List Int) (n : Nat) : cf (x :: r) (n + 1) = cf r n := rfl
def trimR : List Int → List Int
  | [] => []
  | x :: r => match trimR r with
    | [] => if x = 0 then [] else [x]
    | y :: t => x :: y :: t
theorem trim_cons (x : Int) (r : List Int) : trim (x :: r) = match trim r with
    | [] => if x = 0 then [] else [x]
    | y :: t => x :: y :: t := by
  unfold trim
  rw [List.reverse_cons, List.dropWhile_append]
  cases h : r.reverse.dropWhile (· == (0 : Int)) with
  | nil =>
    simp only [List.isEmpty_nil, if_true, List.reverse_nil]
    by_cases hx : x = 0
    · subst hx
      rfl
    · have : ((x == (0 : Int)) = false) := by simpa using hx
      simp [List.dropWhile_cons, this, hx]
  | cons a l =>
    simp only [List.isEmpty_cons, Bool.false_eq_true, if_false, List.reverse_append, List.reverse_cons, List.reverse_nil, List.nil_append, List.singleton_append]
    cases e : l.reverse ++ [a] with
    | nil => simp at e
    | cons y t => rfl
theorem trim_eq : ∀ xs : List Int, trim xs = trimR xs
  | [] => rfl
  | x :: r => by
    rw [trim_cons, trim_eq r]
    rfl
theorem trimR_nil : ∀ {xs : List Int}, (∀ n, cf xs n = 0) → trimR xs = []
  | [], _ => rfl
  | x :: r, h => by
    have h0 : x = 0 := h 0
    have h1 := trimR_nil (xs := r) fun n => h (n + 1)
    unfold trimR
    rw [h1, if_pos h0]
theorem cf_trimR : ∀ (xs : List Int) (n : Nat), cf (trimR xs) n = cf xs n
  | [], _ => rfl
  | x :: r, n => by
    have ih := cf_trimR r
    unfold trimR
    cases e : trimR r with
    | nil =>
      rw [e] at ih
      cases n with
      | zero =>
        by_cases hx : x = 0
        · rw [if_pos hx, cf_0, hx]
          rfl
        · rw [if_neg hx, cf_0, cf_0]
      | succ n =>
        rw [cf_s, ← ih n]
        by_cases hx : x = 0
        · rw [if_pos hx]
          rfl
        · rw [if_neg hx]
          rfl
    | cons y t =>
      rw [e] at ih
      cases n with
      | zero => rfl
      | succ n => exact ih n
theorem trimR_ext : ∀ {xs ys : List Int}, (∀ n, cf xs n = cf ys n) → trimR xs = trimR ys
  | [], ys, h => by rw [trimR_nil (xs := ys) fun n => (h n).symm.trans (cf_nil n)]; rfl
  | x :: r, [], h => by rw [trimR_nil (xs := x :: r) fun n => h n]; rfl
  | x :: r, y :: t, h => by
    have e : x = y := h 0
    have ih := trimR_ext (xs := r) (ys := t) fun n => h (n + 1)
    subst e
    unfold trimR
    rw [ih]
theorem trim_ext {xs ys : List Int} (h : ∀ n, cf xs n = cf ys n) : trim xs = trim ys := by
  rw [trim_eq, trim_eq, trimR_ext h]
theorem cf_trim (xs : List Int) (n : Nat) : cf (trim xs) n = cf xs n := by rw [trim_eq, cf_trimR]
theorem trim_trim (xs : List Int) : trim (trim xs) = trim xs := trim_ext (cf_trim xs)
/-- in plain form -/
def Pn (xs : List Int) : Prop := trim xs = xs
theorem pn_trim (xs : List Int) : Pn (trim xs) := trim_trim xs
theorem pn_ext {xs ys : List Int} (hx : Pn xs) (hy : Pn ys) (h : ∀ n, cf xs n = cf ys n) : xs = ys := by
  rw [← hx, ← hy, trim_ext h]
theorem cf_ge {xs : List Int} {n : Nat} (h : xs.length ≤ n) : cf xs n = 0 := by
  unfold cf
  rw [List.getD_eq_getElem?_getD, List.getElem?_eq_none h]
  rfl
theorem cf_lt {xs : List Int} {n : Nat} (h : n < xs.length) : cf xs n = xs[n] := by
  unfold cf
  rw [List.getD_eq_getElem?_getD, List.getElem?_eq_getElem h]
  rfl
/-! ### sums, multiples, products by places -/
def pS (f g : Nat → Int) : Nat → Int := fun n => f n + g n
def pK (x : Int) (f : Nat → Int) : Nat → Int := fun n => x * f n
def sh (k : Nat) (f : Nat → Int) : Nat → Int := fun n => if k ≤ n then f (n - k) else 0
def mulF : List Int → (Nat → Int) → Nat → Int
  | [], _ => fun _ => 0
  | x :: r, g => fun n => x * g n + sh 1 (mulF r g) n
def mulL (a b : List Int) : List Int := (List.range (a.length + b.length)).map (mulF a (cf b))
def addL (a b : List Int) : List Int := (List.range (max a.length b.length)).map fun n => cf a n + cf b n
theorem cf_range {m : Nat} {f : Nat → Int} (h : ∀ n, m ≤ n → f n = 0) (n : Nat) : cf ((List.range m).map f) n = f n := by
  by_cases hn : n < m
  · rw [cf_lt (by simpa using hn)]
    simp
  · rw [cf_ge (by simpa using hn), h n (by omega)]
theorem cf_addL (a b : List Int) (n : Nat) : cf (addL a b) n = cf a n + cf b n := cf_range (fun n hn => by rw [cf_ge (by omega), cf_ge (by omega)]; rfl) n
theorem mulF_ge : ∀ (a : List Int) {g : Nat → Int} {m : Nat}, (∀ n, m ≤ n → g n = 0) → ∀ n, a.length + m ≤ n → mulF a g n = 0
  | [], _, _, _, _, _ => rfl
  | x :: r, g, m, h, n, hn => by
    have hn2 : r.length + 1 + m ≤ n := hn
    show x * g n + sh 1 (mulF r g) n = 0
    unfold sh
    rw [h n (by omega), if_pos (by omega), mulF_ge r h (n - 1) (by omega)]
    simp
theorem cf_mulL (a b : List Int) (n : Nat) : cf (mulL a b) n = mulF a (cf b) n := cf_range (fun n hn => mulF_ge a (fun k hk => cf_ge hk) n hn) n
theorem sh_add (k : Nat) (f g : Nat → Int) (n : Nat) : sh k (fun i => f i + g i) n = sh k f n + sh k g n := by
  unfold sh
  split <;> rfl
theorem sh_mul (k : Nat) (x : Int) (f : Nat → Int) (n : Nat) : sh k (fun i => x * f i) n = x * sh k f n := by
  unfold sh
  split
  · rfl
  · simp
theorem sh_congr {k : Nat} {f g : Nat → Int} (h : ∀ n, f n = g n) (n : Nat) : sh k f n = sh k g n := by
  unfold sh
  split
  · exact h _
  · rfl
theorem mulF_congr : ∀ (a : List Int) {f g : Nat → Int}, (∀ n, f n = g n) → ∀ n, mulF a f n = mulF a g n
  | [], _, _, _, _ => rfl
  | x :: r, f, g, h, n => by
    show x * f n + sh 1 (mulF r f) n = x * g n + sh 1 (mulF r g) n
    rw [h n, sh_congr (mulF_congr r h)]
theorem mulF_add : ∀ (a : List Int) (f g : Nat → Int) (n : Nat), mulF a (fun i => f i + g i) n = mulF a f n + mulF a g n
  | [], _, _, _ => rfl
  | x :: r, f, g, n => by
    show x * (f n + g n) + sh 1 (mulF r fun i => f i + g i) n = (x * f n + sh 1 (mulF r f) n) + (x * g n + sh 1 (mulF r g) n)
    rw [sh_congr (mulF_add r f g), sh_add, Int.mul_add]
    omega
theorem mulF_k : ∀ (a : List Int) (x : Int) (f : Nat → Int) (n : Nat), mulF a (fun i => x * f i) n = x * mulF a f n
  | [], x, _, _ => (Int.mul_zero x).symm
  | y :: r, x, f, n => by
    show y * (x * f n) + sh 1 (mulF r fun i => x * f i) n = x * (y * f n + sh 1 (mulF r f) n)
    rw [sh_congr (mulF_k r x f), sh_mul, Int.mul_add, Int.mul_left_comm]
theorem sh_sh (j k : Nat) (f : Nat → Int) (n : Nat) : sh j (sh k f) n = sh (j + k) f n := by
  unfold sh
  by_cases h : j + k ≤ n
  · rw [if_pos (by omega), if_pos (by omega), if_pos h, Nat.sub_sub]
  · rw [if_neg h]
    split
    · rw [if_neg (by omega)]
    · rfl
theorem mulF_sh : ∀ (a : List Int) (f : Nat → Int) (n : Nat), mulF a (sh 1 f) n = sh 1 (mulF a f) n
  | [], f, n => by
    show (0 : Int) = sh 1 (fun _ => 0) n
    unfold sh
    split <;> rfl
  | y :: r, f, n => by
    show y * sh 1 f n + sh 1 (mulF r (sh 1 f)) n = sh 1 (fun i => y * f i + sh 1 (mulF r f) i) n
    rw [sh_add, sh_mul, sh_congr (mulF_sh r f)]
/-- the place 0 and what is behind -/
theorem cf_cons (y : Int) (t : List Int) (n : Nat) : cf (y :: t) n = (if n = 0 then y else 0) + sh 1 (cf t) n := by
  unfold sh
  cases n with
  | zero => rw [if_pos rfl, if_neg (by decide), cf_0]; omega
  | succ n => rw [if_neg (by omega), if_pos (by omega), cf_s]; simp
theorem mulF_one : ∀ (a : List Int) (y : Int) (n : Nat), mulF a (fun i => if i = 0 then y else 0) n = cf a n * y
  | [], y, n => (Int.zero_mul y).symm
  | x :: r, y, n => by
    show x * (if n = 0 then y else 0) + sh 1 (mulF r fun i => if i = 0 then y else 0) n = cf (x :: r) n * y
    rw [sh_congr (mulF_one r y), cf_cons]
    unfold sh
    cases n with
    | zero => simp
    | succ n => simp
theorem mulF_comm : ∀ (a b : List Int) (n : Nat), mulF a (cf b) n = mulF b (cf a) n
  | a, [], n => by
    show mulF a (fun _ => 0) n = 0
    have := mulF_k a 0 (fun _ => 0) n
    simpa using this
  | a, y :: t, n => by
    rw [mulF_congr a (cf_cons y t) n, mulF_add, mulF_one, mulF_sh, sh_congr (mulF_comm a t)]
    show _ = y * cf a n + sh 1 (mulF t (cf a)) n
    rw [Int.mul_comm]
theorem mulF_assoc : ∀ (a : List Int) (b : List Int) (g : Nat → Int) (n : Nat), mulF a (mulF b g) n = mulF (mulL a b) g n := by
  have key : ∀ (xs : List Int) (f : Nat → Int), (∀ n, cf xs n = f n) → ∀ (ys : List Int) (g : Nat → Int), (∀ n, cf ys n = f n) → ∀ n, mulF xs g n = mulF ys g n := by
    intro xs
    induction xs with
    | nil =>
      intro f hf ys
      induction ys generalizing f with
      | nil => exact fun g _ n => rfl
      | cons y t ih =>
        intro g hy n
        have h0 : y = 0 := (hy 0).trans (hf 0).symm
        have := ih (fun n => cf t n) (fun n => by have a := hf (n + 1); have b := hy (n + 1); rw [cf_s] at b; rw [cf_nil] at *; omega) g (fun _ => rfl)
        show 0 = y * g n + sh 1 (mulF t g) n
        rw [h0, sh_congr (fun n => (this n).symm)]
        unfold sh
        show 0 = 0 * g n + if 1 ≤ n then 0 else 0
        simp
    | cons x r ih =>
      intro f hf ys g hy n
      cases ys with
      | nil =>
        have h0 : x = 0 := (hf 0).trans (hy 0).symm
        have := ih (fun n => cf r n) (fun _ => rfl) [] g (fun n => by have a := hf (n + 1); have b := hy (n + 1); rw [cf_s] at a; rw [cf_nil] at *; omega)
        show x * g n + sh 1 (mulF r g) n = 0
        rw [h0, sh_congr this]
        unfold sh
        show 0 * g n + (if 1 ≤ n then 0 else 0) = 0
        simp
      | cons y t =>
        have h0 : x = y := (hf 0).trans (hy 0).symm
        have := ih (fun n => cf r n) (fun _ => rfl) t g (fun n => ((hy (n + 1)).trans (hf (n + 1)).symm))
        show x * g n + sh 1 (mulF r g) n = y * g n + sh 1 (mulF t g) n
        rw [h0, sh_congr this]
  have add : ∀ (xs ys : List Int) (g : Nat → Int) (n : Nat), mulF (addL xs ys) g n = mulF xs g n + mulF ys g n := by
    intro xs
    induction xs with
    | nil =>
      intro ys g n
      rw [key (addL [] ys) (cf ys) (fun n => by rw [cf_addL, cf_nil]; omega) ys g (fun _ => rfl) n]
      show _ = 0 + _
      omega
    | cons x r ih =>
      intro ys g n
      cases ys with
      | nil =>
        rw [key (addL (x :: r) []) (cf (x :: r)) (fun n => by rw [cf_addL, cf_nil]; omega) (x :: r) g (fun _ => rfl) n]
        show _ = _ + 0
        omega
      | cons y t =>
        rw [key (addL (x :: r) (y :: t)) (cf ((x + y) :: addL r t)) (fun n => by
          cases n with
          | zero => rw [cf_addL]; rfl
          | succ n => rw [cf_addL, cf_s, cf_s, cf_s, cf_addL]) ((x + y) :: addL r t) g (fun _ => rfl) n]
        show (x + y) * g n + sh 1 (mulF (addL r t) g) n = (x * g n + sh 1 (mulF r g) n) + (y * g n + sh 1 (mulF t g) n)
        rw [sh_congr (ih t g), sh_add, Int.add_mul]
        omega
  have scl : ∀ (xs : List Int) (c : Int) (g : Nat → Int) (n : Nat), mulF (xs.map (c * ·)) g n = c * mulF xs g n := by
    intro xs
    induction xs with
    | nil => exact fun c g n => (Int.mul_zero c).symm
    | cons x r ih =>
      intro c g n
      show c * x * g n + sh 1 (mulF (r.map (c * ·)) g) n = c * (x * g n + sh 1 (mulF r g) n)
      rw [sh_congr (ih c g), sh_mul, Int.mul_add, Int.mul_assoc]
  have cfm : ∀ (xs : List Int) (c : Int) (n : Nat), cf (xs.map (c * ·)) n = c * cf xs n := by
    intro xs c n
    by_cases h : n < xs.length
    · rw [cf_lt (by simpa using h), cf_lt h]
      simp
    · rw [cf_ge (by simpa using h), cf_ge (by omega)]
      simp
  intro a
  induction a with
  | nil =>
    intro b g n
    rw [key (mulL [] b) (fun _ => 0) (fun n => by rw [cf_mulL]; rfl) [] g (fun _ => rfl) n]
    rfl
  | cons x r ih =>
    intro b g n
    rw [key (mulL (x :: r) b) (cf (addL (b.map (x * ·)) (0 :: mulL r b))) (fun n => by
      rw [cf_mulL, cf_addL, cfm, cf_cons]
      show x * cf b n + sh 1 (mulF r (cf b)) n = _
      rw [sh_congr (cf_mulL r b)]
      simp) _ g (fun _ => rfl) n, add, scl]
    show x * mulF b g n + sh 1 (mulF r (mulF b g)) n = x * mulF b g n + (0 * g n + sh 1 (mulF (mulL r b) g) n)
    rw [sh_congr (ih b g)]
    omega
end Rc

/-! Polynomials alike; how great their weights are. -/
namespace Rc
open PySem
def E (a b : List Int) : Prop := ∀ n, cf a n = cf b n
theorem E.rfl {a : List Int} : E a a := fun _ => Eq.refl _
theorem E.symm {a b : List Int} (h : E a b) : E b a := fun n => (h n).symm
theorem E.trans {a b c : List Int} (h : E a b) (g : E b c) : E a c := fun n => (h n).trans (g n)
theorem E.trim {a b : List Int} (h : E a b) : Rc.trim a = Rc.trim b := trim_ext h
theorem e_trim (a : List Int) : E (trim a) a := cf_trim a
theorem e_add {a a' b b' : List Int} (h : E a a') (g : E b b') : E (addL a b) (addL a' b') := fun n => by rw [cf_addL, cf_addL, h n, g n]
theorem e_mul {a a' b b' : List Int} (h : E a a') (g : E b b') : E (mulL a b) (mulL a' b') := fun n => by
  rw [cf_mulL, cf_mulL, mulF_congr a g n, mulF_comm, mulF_congr b' h n, mulF_comm]
theorem e_addC (a b : List Int) : E (addL a b) (addL b a) := fun n => by rw [cf_addL, cf_addL]; omega
theorem e_addA (a b c : List Int) : E (addL (addL a b) c) (addL a (addL b c)) := fun n => by simp only [cf_addL]; omega
theorem e_mulC (a b : List Int) : E (mulL a b) (mulL b a) := fun n => by rw [cf_mulL, cf_mulL, mulF_comm]
theorem e_mulA (a b c : List Int) : E (mulL (mulL a b) c) (mulL a (mulL b c)) := fun n => by
  rw [cf_mulL, ← mulF_assoc, cf_mulL, mulF_congr a (cf_mulL b c) n]
theorem e_dist (a b c : List Int) : E (mulL a (addL b c)) (addL (mulL a b) (mulL a c)) := fun n => by
  rw [cf_mulL, cf_addL, cf_mulL, cf_mulL, mulF_congr a (cf_addL b c) n, mulF_add]
theorem e_one (a : List Int) : E (mulL a [1]) a := fun n => by
  rw [cf_mulL, mulF_congr a (g := fun i => if i = 0 then 1 else 0) (fun i => by cases i <;> simp [cf]) n, mulF_one, Int.mul_one]
theorem e_nil (a : List Int) : E (mulL a []) [] := fun n => by
  rw [cf_mulL, mulF_comm]
  rfl
def sclL (a : List Int) (c : Int) : List Int := a.map (· * c)
theorem cf_sclL (a : List Int) (c : Int) (n : Nat) : cf (sclL a c) n = cf a n * c := by
  unfold sclL
  by_cases h : n < a.length
  · rw [cf_lt (by simpa using h), cf_lt h]
    simp
  · rw [cf_ge (by simpa using h), cf_ge (by omega)]
    simp
/-- so many weights, so great -/
def Bl (n p : Nat) (a : List Int) : Prop := a.length ≤ n ∧ ∀ x ∈ a, Bt p x
theorem Bl.mono {n m p q : Nat} {a : List Int} (h : Bl n p a) (l : n ≤ m) (k : p ≤ q) : Bl m q a := ⟨Nat.le_trans h.1 l, fun x hx => (h.2 x hx).mono k⟩
theorem bt0 {p : Nat} : Bt p 0 := by
  unfold Bt
  exact Nat.two_pow_pos p
theorem bl_cf {n p : Nat} {a : List Int} (h : Bl n p a) (i : Nat) : Bt p (cf a i) := by
  by_cases hi : i < a.length
  · rw [cf_lt hi]
    exact h.2 _ (List.getElem_mem hi)
  · rw [cf_ge (by omega)]
    exact bt0
theorem bl_trim {n p : Nat} {a : List Int} (h : Bl n p a) : Bl n p (trim a) := by
  refine ⟨Nat.le_trans (trim_len a) h.1, fun x hx => ?_⟩
  unfold trim at hx
  rw [List.mem_reverse] at hx
  exact h.2 x (List.mem_reverse.mp ((List.dropWhile_sublist _).subset hx))
theorem bl_add {n m p : Nat} {a b : List Int} (h : Bl n p a) (g : Bl m p b) : Bl (n + m) (p + 1) (addL a b) := by
  refine ⟨?_, fun x hx => ?_⟩
  · have h1 := h.1
    have g1 := g.1
    unfold addL
    rw [List.length_map, List.length_range]
    omega
  · obtain ⟨i, _, rfl⟩ := List.mem_map.mp hx
    exact Bt.add (bl_cf h i) (bl_cf g i)
theorem bt_sh {p : Nat} {f : Nat → Int} (h : ∀ n, Bt p (f n)) (k n : Nat) : Bt p (sh k f n) := by
  unfold sh
  split
  · exact h _
  · exact bt0
theorem bt_mulF {p q : Nat} : ∀ (a : List Int) {f : Nat → Int}, (∀ x ∈ a, Bt p x) → (∀ n, Bt q (f n)) → ∀ n, Bt (p + q + a.length) (mulF a f n)
  | [], _, _, _, _ => bt0
  | x :: r, f, h, g, n => by
    have ih := bt_mulF r (fun y hy => h y (List.mem_cons_of_mem _ hy)) g
    have h1 := (Bt.mul (h x (List.mem_cons_self ..)) (g n)).mono (show p + q ≤ p + q + r.length by omega)
    exact Bt.add h1 (bt_sh ih 1 n)
theorem bl_mul {n m p q : Nat} {a b : List Int} (h : Bl n p a) (g : Bl m q b) : Bl (n + m) (p + q + n) (mulL a b) := by
  refine ⟨?_, fun x hx => ?_⟩
  · have h1 := h.1
    have g1 := g.1
    unfold mulL
    rw [List.length_map, List.length_range]
    omega
  · obtain ⟨i, _, rfl⟩ := List.mem_map.mp hx
    exact (bt_mulF a h.2 (bl_cf g) i).mono (by have := h.1; omega)
theorem bl_scl {n p q : Nat} {a : List Int} {c : Int} (h : Bl n p a) (g : Bt q c) : Bl n (p + q) (sclL a c) := by
  refine ⟨by unfold sclL; rw [List.length_map]; exact h.1, fun x hx => ?_⟩
  obtain ⟨y, hy, rfl⟩ := List.mem_map.mp hx
  exact Bt.mul (h.2 y hy) g
theorem blOne : Bl 1 1 [1] := ⟨by decide, fun x hx => by
  rw [List.mem_singleton] at hx
  subst hx
  exact bt_c (by decide)⟩
theorem bl0 {n p : Nat} : Bl n p [] := ⟨Nat.zero_le _, fun x hx => by cases hx⟩
def powL (a : List Int) : Nat → List Int
  | 0 => [1]
  | m + 1 => trim (mulL (powL a m) a)
theorem e_pow (a : List Int) (m : Nat) : ∀ j, E (mulL (powL a m) (powL a j)) (powL a (m + j))
  | 0 => e_one _
  | j + 1 => by
    refine (e_mul E.rfl (e_trim _)).trans (((e_mulA _ _ _).symm).trans ((e_mul (e_pow a m j) E.rfl).trans ?_))
    exact (e_trim _).symm
theorem pn_pow (a : List Int) : ∀ m, Pn (powL a m)
  | 0 => by
    show trim [1] = [1]
    decide
  | m + 1 => pn_trim _
theorem bl_pow {n p : Nat} {a : List Int} (h : Bl n p a) : ∀ m, Bl (1 + m * n) (1 + m * (p + 1 + 100)) (powL a m) ∨ 100 < 1 + m * n
  | 0 => .inl (by rw [Nat.zero_mul, Nat.zero_mul]; exact blOne)
  | m + 1 => by
    have e1 : (m + 1) * n = m * n + n := Nat.succ_mul m n
    have e2 : (m + 1) * (p + 1 + 100) = m * (p + 1 + 100) + (p + 1 + 100) := Nat.succ_mul m _
    rw [e1, e2]
    rcases bl_pow h m with g | g
    · by_cases hb : 100 < 1 + m * n
      · right; omega
      · left
        exact (bl_trim (bl_mul g h)).mono (by omega) (by omega)
    · right; omega
/-! ### as data -/
theorem items_tz (a : List Int) : items (tz a) = some (a.map .int) := rfl
theorem len_tz {a : List Int} {Q : Int → Prop} : lenW (tz a) Q = Q a.length := by
  show Q ((a.map PyData.int).length : Int) = _
  rw [List.length_map]
theorem cmp_tz {a b : List Int} {Q : Bool → Prop} : cmpW .Eq (tz a) (tz b) Q = Q (decide (a = b)) := by
  show (SeqAt.shaped (tz a) = true ∧ SeqAt.shaped (tz b) = true ∧ Q (PyData.eqv (tz a) (tz b))) = _
  rw [show PyData.eqv (tz a) (tz b) = decide (a = b) from eqvT a b]
  exact propext ⟨fun h => h.2.2, fun h => ⟨shapedT a, shapedT b, h⟩⟩
theorem cmp_tzn {a b : List Int} {Q : Bool → Prop} : cmpW .NotEq (tz a) (tz b) Q = Q (!decide (a = b)) := by
  show (SeqAt.shaped (tz a) = true ∧ SeqAt.shaped (tz b) = true ∧ Q (!PyData.eqv (tz a) (tz b))) = _
  rw [show PyData.eqv (tz a) (tz b) = decide (a = b) from eqvT a b]
  exact propext ⟨fun h => h.2.2, fun h => ⟨shapedT a, shapedT b, h⟩⟩
theorem cmp_tz0 {a : List Int} {Q : Bool → Prop} : cmpW .Eq (tz a) (.tuple []) Q = Q (decide (a = [])) := cmp_tz (b := [])
theorem cmp_tzn0 {a : List Int} {Q : Bool → Prop} : cmpW .NotEq (tz a) (.tuple []) Q = Q (!decide (a = [])) := cmp_tzn (b := [])
theorem enums_map (n : Nat) : ∀ a : List Int, enums n (a.map .int) = (a.zipIdx n).map fun q => .tuple [.int q.2, .int q.1]
  | [] => rfl
  | x :: r => by
    show PyData.tuple [.int n, .int x] :: enums (n + 1) (r.map .int) = _
    rw [enums_map (n + 1) r]
    rfl
end Rc
namespace Rc
open PySem
theorem len_trim {xs : List Int} {d : Nat} (h : cf xs d ≠ 0) (g : ∀ n, d < n → cf xs n = 0) : (trim xs).length = d + 1 := by
  have h1 : d < (trim xs).length := by
    refine Nat.lt_of_not_le fun hl => h ?_
    rw [← cf_trim, cf_ge hl]
  refine Nat.le_antisymm ?_ h1
  refine Nat.le_of_not_lt fun hl => ?_
  have hne : trim xs ≠ [] := fun e => by rw [e] at hl; cases hl
  have e := trim_last xs
  rw [List.getLast?_eq_some_getLast hne] at e
  have : (trim xs).getLast hne = 0 := by
    rw [List.getLast_eq_getElem, ← cf_lt, cf_trim]
    exact g _ (by omega)
  rw [this] at e
  exact e rfl
theorem pn_lead {a : List Int} (h : Pn a) (h0 : a ≠ []) : cf a (a.length - 1) ≠ 0 := by
  have e := trim_last a
  have hl := List.length_pos_iff.mpr h0
  rw [h, List.getLast?_eq_some_getLast h0, List.getLast_eq_getElem] at e
  rw [cf_lt (by omega)]
  exact fun z => e (congrArg some z)
theorem mulF_top : ∀ (a : List Int) {g : Nat → Int} {m : Nat}, a ≠ [] → (∀ n, m < n → g n = 0) → mulF a g (a.length - 1 + m) = cf a (a.length - 1) * g m
  | [], _, _, h, _ => absurd rfl h
  | [x], g, m, _, h => by
    show x * g (1 - 1 + m) + sh 1 (fun _ => 0) (1 - 1 + m) = x * g m
    have : sh 1 (fun _ => (0 : Int)) (1 - 1 + m) = 0 := by
      unfold sh
      split <;> rfl
    rw [this, show 1 - 1 + m = m by omega]
    omega
  | x :: y :: r, g, m, _, h => by
    have ih := mulF_top (y :: r) (by simp) h
    have l1 : (x :: y :: r).length - 1 = (y :: r).length - 1 + 1 := by simp
    show x * g ((x :: y :: r).length - 1 + m) + sh 1 (mulF (y :: r) g) ((x :: y :: r).length - 1 + m) = _
    rw [l1, cf_s, h _ (by omega)]
    unfold sh
    rw [if_pos (by omega), show (y :: r).length - 1 + 1 + m - 1 = (y :: r).length - 1 + m by omega, ih]
    omega
theorem mulF_gt : ∀ (a : List Int) {g : Nat → Int} {m : Nat}, (∀ n, m ≤ n → g n = 0) → ∀ n, a.length + m ≤ n + 1 → mulF a g n = 0
  | [], _, _, _, _, _ => rfl
  | x :: r, g, m, h, n, hn => by
    have hn2 : r.length + 1 + m ≤ n + 1 := hn
    show x * g n + sh 1 (mulF r g) n = 0
    unfold sh
    rw [h n (by omega)]
    split
    · rw [mulF_gt r h (n - 1) (by omega)]
      simp
    · simp
theorem len_mul {a b : List Int} (ha : Pn a) (hb : Pn b) (a0 : a ≠ []) (b0 : b ≠ []) : (trim (mulL a b)).length = a.length + b.length - 1 := by
  have la := List.length_pos_iff.mpr a0
  have lb := List.length_pos_iff.mpr b0
  rw [len_trim (d := a.length - 1 + (b.length - 1))]
  · omega
  · rw [cf_mulL, mulF_top a a0 (fun n hn => cf_ge (by omega))]
    exact Int.mul_ne_zero (pn_lead ha a0) (pn_lead hb b0)
  · intro n hn
    rw [cf_mulL]
    exact mulF_gt a (m := b.length) (fun k hk => cf_ge hk) n (by omega)
theorem len_addL (a b : List Int) : (addL a b).length = max a.length b.length := by
  unfold addL
  rw [List.length_map, List.length_range]
end Rc
namespace Rc
open PySem
theorem bi_list_tz {a : List Int} {Q : Val → Prop} : biW .list [tz a] Q = Q (.own (a.map .int)) := rfl
theorem add_tz {x : List D} {a : List Int} {Q : Val → Prop} : opW .Add (.tuple x) (tz a) Q = (x.length + a.length ≤ 16777216 ∧ Q (.d (.tuple (x ++ a.map .int)))) := by
  show (x.length + (a.map PyData.int).length ≤ 16777216 ∧ Q (.d (.tuple (x ++ a.map .int)))) = _
  rw [List.length_map]
theorem rng'_cons (K m : Nat) : (List.range' K (m + 1)).map (fun (i : Nat) => PyData.int i) = .int K :: (List.range' (K + 1) m).map (fun (i : Nat) => PyData.int i) := by
  rw [List.range'_succ]
  rfl
theorem drop_cons {a : List Int} {K : Nat} (h : K < a.length) : a.drop K = a[K] :: a.drop (K + 1) := List.drop_eq_getElem_cons h
theorem cf_set {gs : List Int} {j : Nat} (h : j < gs.length) (v : Int) (i : Nat) : cf (gs.set j (gs[j] + v)) i = cf gs i + (if i = j then v else 0) := by
  unfold cf
  rw [List.getD_eq_getElem?_getD, List.getD_eq_getElem?_getD, List.getElem?_set]
  by_cases hi : j = i
  · subst hi
    simp [h]
  · rw [if_neg hi, if_neg (fun h => hi h.symm)]
    simp
theorem sh_head (y z : Int) (zs : List Int) (k i : Nat) : sh k (fun n => y * cf (z :: zs) n) i = (if i = k then y * z else 0) + sh (k + 1) (fun n => y * cf zs n) i := by
  unfold sh
  by_cases h1 : i = k
  · subst h1
    rw [if_pos (by omega), if_pos rfl, if_neg (by omega), Nat.sub_self]
    show y * z = y * z + 0
    omega
  · by_cases h2 : k ≤ i
    · rw [if_pos h2, if_neg h1, if_pos (by omega), show i - k = (i - (k + 1)) + 1 by omega]
      show y * cf zs _ = 0 + y * cf zs _
      omega
    · rw [if_neg h2, if_neg h1, if_neg (by omega)]
      rfl
theorem cf_rep0 (N i : Nat) : cf (List.replicate N 0) i = 0 := by
  by_cases hi : i < N
  · rw [cf_lt (by simpa using hi)]
    simp
  · exact cf_ge (by simpa using hi)
end Rc

/-! Values at fractions. -/
namespace Rc
open PySem
def hT (x y : Int) : List Int → Int
  | [] => 0
  | w :: r => hT x y r * x + w * y ^ r.length
def ev (q : Rat) : List Int → Rat
  | [] => 0
  | w :: r => (w : Rat) + q * ev q r
theorem num_eq (q : Rat) : (q.num : Rat) = q * (q.den : Rat) := by
  have h := Rat.num_divInt_den q
  rw [Rat.divInt_eq_div] at h
  have y0 : ((q.den : Int) : Rat) ≠ 0 := by
    intro e
    have := q.den_nz
    exact this (by exact_mod_cast e)
  have := Rat.div_mul_cancel (a := (q.num : Rat)) y0
  rw [h] at this
  exact this.symm
theorem rpow_ne {y : Rat} (h : y ≠ 0) : ∀ n : Nat, y ^ n ≠ 0
  | 0 => by rw [Rat.pow_zero]; decide
  | n + 1 => by
    rw [Rat.pow_succ]
    have := rpow_ne h n
    intro e
    rcases Rat.mul_eq_zero.mp e with g | g
    · exact this g
    · exact h g
theorem hT_ev (q : Rat) : ∀ a : List Int, (hT q.num q.den a : Rat) * (q.den : Rat) = ev q a * (q.den : Rat) ^ a.length
  | [] => by
    show ((0 : Int) : Rat) * _ = 0 * _
    simp
  | w :: r => by
    have ih := hT_ev q r
    show ((hT q.num q.den r * q.num + w * (q.den : Int) ^ r.length : Int) : Rat) * (q.den : Rat) = ((w : Rat) + q * ev q r) * (q.den : Rat) ^ (r.length + 1)
    rw [Rat.intCast_add, Rat.intCast_mul, Rat.intCast_mul, num_eq, Rat.intCast_pow, Rat.intCast_natCast, Rat.pow_succ]
    generalize (hT q.num q.den r : Rat) = t at *
    generalize (q.den : Rat) ^ r.length = z at *
    generalize (q.den : Rat) = y at *
    grind
theorem ev_trimR (q : Rat) : ∀ a : List Int, ev q (trimR a) = ev q a
  | [] => rfl
  | x :: r => by
    have ih := ev_trimR q r
    unfold trimR
    cases e : trimR r with
    | nil =>
      rw [e] at ih
      have ih2 : (0 : Rat) = ev q r := ih
      show ev q (if x = 0 then [] else [x]) = (x : Rat) + q * ev q r
      rw [← ih2]
      by_cases hx : x = 0
      · rw [if_pos hx, hx]
        show (0 : Rat) = ((0 : Int) : Rat) + q * 0
        simp [Rat.add_zero]
      · rw [if_neg hx]
        rfl
    | cons y t =>
      rw [e] at ih
      show (x : Rat) + q * ev q (y :: t) = (x : Rat) + q * ev q r
      rw [ih]
theorem ev_E {q : Rat} {a b : List Int} (h : E a b) : ev q a = ev q b := by
  rw [← ev_trimR q a, ← ev_trimR q b, trimR_ext h]
theorem ev_trim (q : Rat) (a : List Int) : ev q (trim a) = ev q a := ev_E (e_trim a)
theorem ev_add (q : Rat) : ∀ a b : List Int, ev q (addL a b) = ev q a + ev q b
  | [], b => by
    rw [ev_E (b := b) fun n => by rw [cf_addL, cf_nil]; omega]
    show _ = 0 + _
    rw [Rat.zero_add]
  | x :: r, [] => by
    rw [ev_E (b := x :: r) fun n => by rw [cf_addL, cf_nil]; omega]
    show _ = _ + 0
    rw [Rat.add_zero]
  | x :: r, y :: t => by
    rw [ev_E (b := (x + y) :: addL r t) fun n => by
      cases n with
      | zero => rw [cf_addL]; rfl
      | succ n => rw [cf_addL, cf_s, cf_s, cf_s, cf_addL]]
    show ((x + y : Int) : Rat) + q * ev q (addL r t) = ((x : Rat) + q * ev q r) + ((y : Rat) + q * ev q t)
    rw [ev_add q r t, Rat.intCast_add]
    grind
theorem ev_scl (q : Rat) (c : Int) : ∀ a : List Int, ev q (sclL a c) = ev q a * (c : Rat)
  | [] => by
    show (0 : Rat) = 0 * _
    rw [Rat.zero_mul]
  | x :: r => by
    have ih := ev_scl q c r
    show ((x * c : Int) : Rat) + q * ev q (sclL r c) = ((x : Rat) + q * ev q r) * (c : Rat)
    rw [ih, Rat.intCast_mul]
    grind
theorem ev_mul (q : Rat) : ∀ a b : List Int, ev q (mulL a b) = ev q a * ev q b
  | [], b => by
    rw [ev_E (b := []) fun n => by rw [cf_mulL]; rfl]
    show (0 : Rat) = 0 * _
    rw [Rat.zero_mul]
  | x :: r, b => by
    rw [ev_E (b := addL (sclL b x) (0 :: mulL r b)) fun n => by
      rw [cf_mulL, cf_addL, cf_sclL, cf_cons]
      show x * cf b n + sh 1 (mulF r (cf b)) n = _
      rw [sh_congr (cf_mulL r b), Int.mul_comm]
      simp, ev_add, ev_scl]
    show ev q b * (x : Rat) + (((0 : Int) : Rat) + q * ev q (mulL r b)) = ((x : Rat) + q * ev q r) * ev q b
    rw [ev_mul q r b]
    simp
    grind
theorem pow_ne (q : Rat) (n : Nat) : (q.den : Int) ^ n ≠ 0 := by
  have := Int.pow_pos (m := n) (denP q)
  omega
theorem ev_div (q : Rat) (a : List Int) : Rat.divInt (hT q.num q.den a) ((q.den : Int) ^ (a.length - 1)) = ev q a := by
  have h := hT_ev q a
  have y0 : (q.den : Rat) ≠ 0 := by
    intro e
    have := q.den_nz
    exact this (by exact_mod_cast e)
  cases a with
  | nil => exact Rat.zero_divInt _
  | cons w r =>
    rw [Rat.divInt_eq_div, Rat.intCast_pow, Rat.intCast_natCast]
    show _ / (q.den : Rat) ^ (r.length + 1 - 1) = _
    rw [Nat.add_sub_cancel]
    have h2 : (hT q.num q.den (w :: r) : Rat) * (q.den : Rat) = ev q (w :: r) * (q.den : Rat) ^ (r.length + 1) := h
    rw [Rat.pow_succ] at h2
    have z0 : (q.den : Rat) ^ r.length ≠ 0 := rpow_ne y0 _
    generalize (hT q.num q.den (w :: r) : Rat) = t at *
    generalize (q.den : Rat) ^ r.length = z at *
    generalize (q.den : Rat) = y at *
    generalize ev q (w :: r) = e at *
    grind
end Rc
namespace Rc
open PySem
theorem sgn_ite (n : Int) : ((if 0 < n then 1 else 0) - (if n < 0 then 1 else 0) : Int) = n.sign := by
  by_cases h1 : 0 < n
  · rw [Int.sign_eq_one_of_pos h1]
    simp [h1, show ¬ n < 0 by omega]
  · by_cases h2 : n < 0
    · rw [Int.sign_eq_neg_one_of_neg h2]
      simp [h1, h2]
    · rw [show n = 0 by omega]
      decide
theorem bt_pow {s : Nat} {y : Int} (h : Bt s y) : ∀ n : Nat, Bt (s * n + 1) (y ^ n)
  | 0 => by
    rw [Nat.mul_zero, Int.pow_zero]
    exact bt_c (by decide)
  | n + 1 => by
    rw [Int.pow_succ]
    exact (Bt.mul (bt_pow h n) h).mono (by rw [Nat.mul_succ]; omega)
theorem bt_hT {p s : Nat} {x y : Int} (hx : Bt s x) (hy : Bt s y) : ∀ a : List Int, (∀ w ∈ a, Bt p w) → Bt (p + 1 + (s + 1) * a.length) (hT x y a)
  | [], _ => bt0
  | w :: r, h => by
    have ih := bt_hT hx hy r fun z hz => h z (List.mem_cons_of_mem _ hz)
    have h1 := Bt.mul ih hx
    have h2 := Bt.mul (h w (List.mem_cons_self ..)) (bt_pow hy r.length)
    have e : (s + 1) * (r.length + 1) = (s + 1) * r.length + (s + 1) := Nat.mul_succ _ _
    have e2 : (s + 1) * r.length = s * r.length + r.length := Nat.succ_mul _ _
    show Bt (p + 1 + (s + 1) * (r.length + 1)) (hT x y r * x + w * y ^ r.length)
    rw [e]
    exact (Bt.add (h1.mono (show _ ≤ p + 1 + (s + 1) * r.length + s by omega)) (h2.mono (by omega))).mono (by omega)
theorem len_fr {q : Rat} {Q : Int → Prop} : lenW (fr q) Q = Q 2 := rfl
theorem isT_fr {q : Rat} : isT .tuple (fr q) = true := rfl
theorem fr_gcd (q : Rat) : Int.gcd q.num q.den = 1 := q.reduced
theorem ev_den {s : Nat} {q : Rat} (hy : Bt s q.den) (a : List Int) : Bt (s * (a.length - 1) + 1) (ev q a).den := by
  rw [← ev_div, Rat.den_divInt, if_neg (pow_ne q _)]
  exact (bt_pow hy (a.length - 1)).le (Nat.div_le_self _ _)
theorem ev_num {p s : Nat} {q : Rat} (h : Sz s q) {a : List Int} (ha : ∀ w ∈ a, Bt p w) : Bt (p + 1 + (s + 1) * a.length) (ev q a).num := by
  rw [← ev_div, Rat.num_divInt]
  refine bt_div ((bt_hT h.1 h.2 a ha).le ?_)
  rw [Int.natAbs_mul, Int.natAbs_sign_of_ne_zero (pow_ne q _), Nat.one_mul]
  exact Nat.le_refl _
theorem ev_cross (q : Rat) (a : List Int) : (ev q a).num * (q.den : Int) ^ a.length = ((ev q a).den : Int) * (hT q.num q.den a * q.den) := by
  have h := hT_ev q a
  have e := num_eq (ev q a)
  have key : (((ev q a).num * (q.den : Int) ^ a.length : Int) : Rat) = ((((ev q a).den : Int) * (hT q.num q.den a * q.den) : Int) : Rat) := by
    rw [Rat.intCast_mul, Rat.intCast_mul, Rat.intCast_mul, Rat.intCast_pow, Rat.intCast_natCast, Rat.intCast_natCast, h, e]
    generalize (q.den : Rat) ^ a.length = z
    generalize ((ev q a).den : Rat) = d
    grind
  exact Rat.intCast_inj.mp key
theorem sign_y (q : Rat) (t : Int) : (t * (q.den : Int)).sign = t.sign := by
  rw [Int.sign_mul, Int.sign_eq_one_of_pos (denP q), Int.mul_one]
end Rc
namespace Rc
open PySem
theorem trim_rep {a : List Int} (h : Pn a) (h0 : a ≠ []) : ∀ m : Nat, trim (List.replicate m 0 ++ a) = List.replicate m 0 ++ a
  | 0 => h
  | m + 1 => by
    have ih := trim_rep h h0 m
    show trim (0 :: (List.replicate m 0 ++ a)) = 0 :: (List.replicate m 0 ++ a)
    rw [trim_cons, ih]
    cases e : List.replicate m (0 : Int) ++ a with
    | nil =>
      have := (List.append_eq_nil_iff.mp e).2
      exact absurd this h0
    | cons y t => rfl
theorem trim_rep0 (m : Nat) : trim (List.replicate m 0 ++ ([] : List Int)) = [] := by
  rw [List.append_nil]
  exact trim_ext (ys := []) fun n => by rw [cf_rep0]; rfl
theorem eqvTz : ∀ ls : List (List Int), PyData.eqvAll (ls.map tz) (ls.map tz) = true
  | [] => rfl
  | a :: r => by
    have h1 : PyData.eqv (tz a) (tz a) = true := (eqvT a a).trans (decide_eq_true rfl)
    show (PyData.eqv (tz a) (tz a) && PyData.eqvAll (r.map tz) (r.map tz)) = true
    rw [h1, eqvTz r]
    rfl
theorem shapedTz (ls : List (List Int)) : SeqAt.shaped (.list (ls.map tz)) = true := shaped_of (shLst (n := 1) fun x h => by
  obtain ⟨a, _, rfl⟩ := List.mem_map.mp h
  exact shTup (shInts a)) (by decide)
theorem neg_scl (b : List Int) (n : Nat) : cf (b.map (- ·)) n = cf b n * (-1) := by
  rw [← cf_sclL]
  congr 1
  unfold sclL
  exact List.map_congr_left fun x _ => by omega
end Rc
namespace Rc
open PySem
theorem isPolyV_tq {a : List Int} (h : Pn a) : isPolyV (tz a) = true := by
  rw [← h]
  exact isPolyV_tz
end Rc
namespace Rc
open PySem
theorem isN_non : isNone .none = true := rfl
theorem isN_tup {xs : List D} : isNone (.tuple xs) = false := rfl
theorem isN_lst {xs : List D} : isNone (.list xs) = false := rfl
theorem isN_int {i : Int} : isNone (.int i) = false := rfl
theorem isN_str {x : Str} : isNone (.str x) = false := rfl
theorem isN_bl {b : Bool} : isNone (.bool b) = false := rfl
theorem isN_fr {q : Rat} : isNone (fr q) = false := rfl
theorem isN_tz {a : List Int} : isNone (tz a) = false := rfl
end Rc
namespace Rc
open PySem
theorem add_ttz {a b : List Int} {Q : Val → Prop} : opW .Add (tz a) (tz b) Q = (a.length + b.length ≤ 16777216 ∧ Q (.d (tz (a ++ b)))) := by
  show ((a.map PyData.int).length + (b.map PyData.int).length ≤ 16777216 ∧ Q (.d (.tuple (a.map .int ++ b.map .int)))) = _
  rw [List.length_map, List.length_map, ← List.map_append]
  rfl
theorem isT_tz {a : List Int} : isT .tuple (tz a) = true := rfl
theorem sl_tz {a : List Int} {lo hi : Option Int} {Q : Val → Prop} : slW (tz a) lo hi Q = Q (.d (tz (cut a lo hi))) := by
  show Q (.d (.tuple (cut (a.map PyData.int) lo hi))) = _
  rw [cut_map]
  rfl
end Rc
namespace Rc
open PySem
theorem ix_go {xs : List D} {n : Nat} {x : D} {Q : D → Prop} (h : xs[n]? = some x) : (∃ v, L2.atI xs (n : Int) = some v ∧ Q v) = Q x := by
  have e := atI_nat h
  refine propext ⟨fun ⟨v, h1, h2⟩ => ?_, fun q => ⟨x, e, q⟩⟩
  rw [e] at h1
  cases h1
  exact h2
theorem ix_t0 {x0 : D} {xs : List D} {Q : D → Prop} {t : Tok Q} : ixF Q t (.tuple (x0 :: xs)) (.int 0) = Q x0 := ix_go (n := 0) rfl
theorem ix_t1 {x0 x1 : D} {xs : List D} {Q : D → Prop} {t : Tok Q} : ixF Q t (.tuple (x0 :: x1 :: xs)) (.int 1) = Q x1 := ix_go (n := 1) rfl
theorem ix_t2 {x0 x1 x2 : D} {xs : List D} {Q : D → Prop} {t : Tok Q} : ixF Q t (.tuple (x0 :: x1 :: x2 :: xs)) (.int 2) = Q x2 := ix_go (n := 2) rfl
theorem ix_t3 {x0 x1 x2 x3 : D} {xs : List D} {Q : D → Prop} {t : Tok Q} : ixF Q t (.tuple (x0 :: x1 :: x2 :: x3 :: xs)) (.int 3) = Q x3 := ix_go (n := 3) rfl
theorem ix_t4 {x0 x1 x2 x3 x4 : D} {xs : List D} {Q : D → Prop} {t : Tok Q} : ixF Q t (.tuple (x0 :: x1 :: x2 :: x3 :: x4 :: xs)) (.int 4) = Q x4 := ix_go (n := 4) rfl
theorem ix_t5 {x0 x1 x2 x3 x4 x5 : D} {xs : List D} {Q : D → Prop} {t : Tok Q} : ixF Q t (.tuple (x0 :: x1 :: x2 :: x3 :: x4 :: x5 :: xs)) (.int 5) = Q x5 := ix_go (n := 5) rfl
theorem ix_t6 {x0 x1 x2 x3 x4 x5 x6 : D} {xs : List D} {Q : D → Prop} {t : Tok Q} : ixF Q t (.tuple (x0 :: x1 :: x2 :: x3 :: x4 :: x5 :: x6 :: xs)) (.int 6) = Q x6 := ix_go (n := 6) rfl
theorem ix_l0 {x0 : D} {xs : List D} {Q : D → Prop} {t : Tok Q} : ixF Q t (.list (x0 :: xs)) (.int 0) = Q x0 := ix_go (n := 0) rfl
theorem ix_l1 {x0 x1 : D} {xs : List D} {Q : D → Prop} {t : Tok Q} : ixF Q t (.list (x0 :: x1 :: xs)) (.int 1) = Q x1 := ix_go (n := 1) rfl
theorem ix_l2 {x0 x1 x2 : D} {xs : List D} {Q : D → Prop} {t : Tok Q} : ixF Q t (.list (x0 :: x1 :: x2 :: xs)) (.int 2) = Q x2 := ix_go (n := 2) rfl
theorem ix_l3 {x0 x1 x2 x3 : D} {xs : List D} {Q : D → Prop} {t : Tok Q} : ixF Q t (.list (x0 :: x1 :: x2 :: x3 :: xs)) (.int 3) = Q x3 := ix_go (n := 3) rfl
theorem ix_l4 {x0 x1 x2 x3 x4 : D} {xs : List D} {Q : D → Prop} {t : Tok Q} : ixF Q t (.list (x0 :: x1 :: x2 :: x3 :: x4 :: xs)) (.int 4) = Q x4 := ix_go (n := 4) rfl
theorem ix_l5 {x0 x1 x2 x3 x4 x5 : D} {xs : List D} {Q : D → Prop} {t : Tok Q} : ixF Q t (.list (x0 :: x1 :: x2 :: x3 :: x4 :: x5 :: xs)) (.int 5) = Q x5 := ix_go (n := 5) rfl
theorem ix_l6 {x0 x1 x2 x3 x4 x5 x6 : D} {xs : List D} {Q : D → Prop} {t : Tok Q} : ixF Q t (.list (x0 :: x1 :: x2 :: x3 :: x4 :: x5 :: x6 :: xs)) (.int 6) = Q x6 := ix_go (n := 6) rfl
end Rc

/-! The long list, used once: its equations have their names from here on. -/
namespace Rc
open PySem
theorem zAll {P : Prop} (h : P) : P := by
  have h2 : True ∧ P := ⟨True.intro, h⟩
  simp only [↓wE.eq_1, ↓wE.eq_2, ↓wE.eq_3, ↓wE.eq_4, ↓wE.eq_5, ↓wE.eq_6, ↓wE.eq_7, ↓wE.eq_8, ↓wE.eq_9, ↓wE.eq_10, ↓wE.eq_11, ↓wE.eq_12, ↓wE.eq_13, ↓wE.eq_14, ↓wE.eq_15, ↓wE.eq_16, ↓wE.eq_18, ↓wE.eq_19, ↓wE.eq_22, ↓wE.eq_23, ↓wE.eq_24, ↓wE.eq_25, ↓wE.eq_26, ↓wE.eq_27, ↓wE.eq_28, ↓wE.eq_29, ↓wE.eq_30, ↓wE.eq_31, ↓wE.eq_32, ↓wE.eq_34, ↓wE.eq_35, ↓wE.eq_36, ↓wE.eq_37, ↓wE.eq_38, ↓wE.eq_39, ↓wE.eq_40, ↓wE.eq_41, ↓wE_call, ↓wE_callP, ↓wE_lc, ↓wE_lcg, ↓wE_isv, ↓wE_ix, ↓ix_fr0, ↓ix_fr1, ↓cmp_fr, ↓cmp_frn, ↓cmp_fr0, ↓cmp_tz, ↓cmp_tzn, ↓cmp_tz0, ↓cmp_tzn0, ↓bi_list_tz, ↓add_tz,  ↓len_tz, ↓len_fr, ↓isT_fr, items_tz, ↓cmp_bb, ↓cmp_bbn, ↓wS_whl, ↓wS_for, ↓wS_forP, ↓wS_asg, ↓wS_par, ↓wS_setIx, ↓wS_app, ↓tgW_one, ↓tgW_tup, pvF_eq, ↓wS.eq_1, ↓wS.eq_2, ↓wS.eq_3, ↓wS.eq_5, ↓wS.eq_7, ↓wS.eq_10, ↓wS.eq_11, ↓wS.eq_12, ↓wS.eq_13, ↓wS.eq_14, ↓wS.eq_15, ↓wS.eq_16, ↓wS.eq_17, ↓wS.eq_20, ↓wS.eq_21, ↓wS.eq_22, ↓wS.eq_23, ↓wS.eq_24, ↓wS.eq_25, ↓wS.eq_26, ↓wS.eq_27, ↓wS.eq_28, ↓wS.eq_29, ↓wS.eq_30, ↓augW.eq_1, ↓augW.eq_2, ↓augW.eq_3, ↓augW.eq_4, ↓inW.eq_1, ↓inW.eq_2, ↓inW.eq_3, ↓inW.eq_4, ↓zipW.eq_1, ↓zipW.eq_2, ↓cntW.eq_1, ↓dspW.eq_1, ↓idxW.eq_1, ↓opW.eq_1, ↓opW.eq_2, ↓opW.eq_3, ↓opW.eq_4, ↓opW.eq_5, ↓opW.eq_6, ↓opW.eq_7, ↓opW.eq_8, ↓opW.eq_9, ↓opW.eq_10, ↓opW.eq_11, ↓opW.eq_12, ↓opW.eq_13, ↓opW.eq_14, ↓cmpW.eq_1, ↓cmpW.eq_2, ↓cmpW.eq_5, ↓cmpW.eq_6, ↓cmpW.eq_7, ↓cmpW.eq_8, ↓cmpW.eq_9, ↓cmpW.eq_10, ↓cmpW.eq_11, ↓cmpW.eq_12, ↓cmp_ll, ↓cmp_lln, ↓cmp_tt, ↓cmp_ttn, ↓biW.eq_1, ↓biW.eq_2, ↓biW.eq_3, ↓biW.eq_4, ↓biW.eq_5, ↓biW.eq_6, ↓biW.eq_7, ↓biW.eq_8, ↓biW.eq_9, ↓biW.eq_10, ↓biW.eq_11, ↓biW.eq_12, ↓biW.eq_13, ↓biW.eq_14, ↓biW.eq_15, ↓biW.eq_16, ↓biW.eq_17, ↓lenW.eq_1, ↓lenW.eq_2, ↓slW.eq_1, ↓slW.eq_2, ↓revW.eq_1, ↓revW.eq_2, ↓pkW_var, ↓ptW_nil, ↓ptK_i, ↓pkW_cst, ↓pkW_tup, ↓pkW_lst, ↓pkW_bin, ↓pkW_neg, ↓pkW_ix, ↓pkW_sl, ↓pkW_rev, ↓pkW_call, ↓pkW_callP, ↓pkW_bi, ↓pkW_len, ↓pkW_lc, ↓pkW_ite, ↓pkW_gc, ↓pkW_mov, ↓pkW_dsp, ↓pkW_bone, ↓pkW_cmp, ↓pkW_cnt, ↓ptW_cst, ↓ptW_tup, ↓ptW_lst, ↓ptW_bin, ↓ptW_neg, ↓ptW_ix, ↓ptW_sl, ↓ptW_rev, ↓ptW_call, ↓ptW_callP, ↓ptW_bi, ↓ptW_len, ↓ptW_lc, ↓ptW_ite, ↓ptW_gc, ↓ptW_mov, ↓ptW_dsp, ↓ptW_bone, ↓ptW_cmp, ↓ptW_cnt, ↓ptW_var, ↓peek, ↓ownAt, ↓kD.eq_1, ↓kD.eq_2, ↓kM.eq_1, ↓kB.eq_1, ↓kV.eq_1, ↓kV.eq_2, ↓setW, ↓rngW1.eq_1, ↓rngW2.eq_1, ↓rngWd.eq_1, isVar, isNil, isT, gv, pv, setAll, ev0, items.eq_1, items.eq_2, tgs, wipeE, blind_cons, blind_nil, bl1, runB, List.map_cons, List.map_nil, List.replicate, List.cons_append, List.nil_append, if_true, if_false, ite_true, ite_false, reduceCtorEq, Bool.true_and, Bool.and_true, Bool.not_true, Bool.not_false, Bool.false_eq_true, ↓reduceIte, Nat.reduceSub, Nat.reduceAdd, List.length_cons, List.length_nil, decide_eq_true_eq, Bool.not_eq_true', decide_eq_false_iff_not, Bool.and_false, Bool.false_and, true_and, and_true, Nat.sub_self, Nat.succ_eq_add_one, flat, Nat.reduceLeDiff, Int.reduceLE, Int.reduceLT, Int.reduceEq, ne_eq, not_false_eq_true, s10, la_2, la_3, la_4, la_5, la_6, la_7, la_8, la_9, la_10, la_11, la_12, la_13, la_14, la_15, la_16, la_18, la_19, la_20, la_21, la_24, la_25, la_28, la_30, la_35, la_36, la_39, la_40, la_41, la_44, la_45, la_49, la_50, la_52, la_54, la_57, la_63, la_64, la_65, la_72, la_78, la_81, la_90, la_100, la_121, la_123, la_125, la_126, la_144, la_162, la_168, la_176, la_196, la_200, la_216, la_240, la_360, la_369, la_400, la_402, la_441, la_540, la_550, la_900, la_907, la_997, la_1009, la_1100, la_1152, la_1440, la_1764, la_2001, la_2003, la_2200, la_3150, la_4099, la_16807, la_22500, la_24200, la_72600, Nat.reduceLT, ↓ix_t0, ↓ix_t1, ↓ix_t2, ↓ix_t3, ↓ix_t4, ↓ix_t5, ↓ix_t6, ↓ix_l0, ↓ix_l1, ↓ix_l2, ↓ix_l3, ↓ix_l4, ↓ix_l5, ↓ix_l6, ↓add_ttz, ↓isT_tz, ↓sl_tz, isN_non, isN_tup, isN_lst, isN_int, isN_str, isN_bl, isN_fr, isN_tz, ↓hS.eq_1, ↓hS.eq_2, ↓hS.eq_3, ↓hS.eq_4, hE, hB, ↓hide.eq_1, ↓hide.eq_2, isS, Nat.reduceBEq, Bool.or_true, Bool.or_false, Bool.true_or, Bool.false_or, beq_self_eq_true, not_true_eq_false, Int.cast_ofNat_Int, ↓wE_callL, ↓wE_callLP, ↓kR_d, ↓kR_o, ↓kT_twoO, ↓kTP_two, ↓kTP_twoO, ↓pkW_callLP, ↓wE_lemp, ↓wE_lix, ↓wE_lpop0, ↓wE_lcL, ↓wE_lcK, ↓pkW_lcK, ↓kT_two, ↓lentAt, unlend_nil, unlend_cons, ul1_n, ul1_d, ul1_o, ul1_l, ↓wS_lend, ↓wS_lfn, ↓wS_retL, ↓wS_lset, ↓wS_asgN, ↓tgW_nst, noTwo_d, noTwo_o, ↓pkW_callL, ↓pkW_lix, ↓pkW_lemp, ↓pkW_lpop0, ↓pkW_lcL, ↓ptW_callL, ↓ptW_lix, ↓wE_lit, ↓pkW_lit, ↓ptW_lit, ↓cmp_geT, ↓wE_dget, ↓wE_dix, ↓wE_dsrt, ↓wE_dlc, ↓wE_lcD, ↓wE_srt, ↓wS_dnewT, ↓wS_dnewI, ↓wS_dset, ↓dictAt, itemsD_I, itemsD_T, ↓pkW_dget, ↓ptW_dget, ↓pkW_dix, ↓ptW_dix, ↓pkW_dsrt, ↓ptW_dsrt, ↓pkW_dlc, ↓ptW_dlc, ↓pkW_lcD, ↓ptW_lcD, ↓pkW_srt, ↓ptW_srt] at h2
  exact h2
end Rc

/-! Equations: rows of fractions, sweeps, all solutions. -/
namespace Rc
open PySem
theorem sz_addA {a b : Nat} {p q : Rat} (h : Sz a p) (g : Sz b q) : Sz (a + b + 1) (p + q) := by
  rw [← frac_add p q]
  refine sz_divInt (mul_den0 p q) ?_ ?_
  · have h1 : Bt (a + b) (p.num * q.den) := Bt.mul h.1 g.2
    have h2 : Bt (a + b) (q.num * p.den) := (Bt.mul g.1 h.2).mono (by omega)
    exact Bt.add h1 h2
  · exact (Bt.mul h.2 g.2).mono (by omega)
theorem sz_subA {a b : Nat} {p q : Rat} (h : Sz a p) (g : Sz b q) : Sz (a + b + 1) (p - q) := by
  rw [← frac_sub p q]
  refine sz_divInt (mul_den0 p q) ?_ ?_
  · have h1 : Bt (a + b) (p.num * q.den) := Bt.mul h.1 g.2
    have h2 : Bt (a + b) (q.num * p.den) := (Bt.mul g.1 h.2).mono (by omega)
    exact Bt.sub h1 h2
  · exact (Bt.mul h.2 g.2).mono (by omega)
theorem sz_mulA {a b : Nat} {p q : Rat} (h : Sz a p) (g : Sz b q) : Sz (a + b) (p * q) := by
  rw [← frac_mul p q]
  exact sz_divInt (mul_den0 p q) (Bt.mul h.1 g.1) (Bt.mul h.2 g.2)
theorem sz_divA {a b : Nat} {p q : Rat} (h : Sz a p) (g : Sz b q) (q0 : q ≠ 0) : Sz (a + b) (p / q) := by
  rw [← frac_div p q]
  refine sz_divInt (Int.mul_ne_zero (den0 p) (fun e => q0 (num0.mp e))) (Bt.mul h.1 g.2) (Bt.mul h.2 g.1)
/-! ### rows -/
def gR (w : List Rat) (v : Nat) : Rat := w.getD v 0
def dotR : List Rat → List Rat → Rat
  | x :: a, y :: b => x * y + dotR a b
  | _, _ => 0
def subR (a b : List Rat) : List Rat := List.zipWith (fun x y => x - y) a b
def sclR (a : List Rat) (c : Rat) : List Rat := a.map (· * c)
theorem gR_nil (v : Nat) : gR [] v = 0 := by unfold gR; simp
theorem gR_0 (x : Rat) (r : List Rat) : gR (x :: r) 0 = x := rfl
theorem gR_s (x : Rat) (r : List Rat) (v : Nat) : gR (x :: r) (v + 1) = gR r v := by unfold gR; simp
theorem gR_lt {w : List Rat} {v : Nat} (h : v < w.length) : gR w v = w[v] := by unfold gR; simp [h]
theorem gR_ge {w : List Rat} {v : Nat} (h : w.length ≤ v) : gR w v = 0 := by unfold gR; simp [h]
theorem gR_scl (c : Rat) : ∀ (a : List Rat) (v : Nat), gR (sclR a c) v = gR a v * c
  | [], v => by rw [show sclR [] c = [] from rfl, gR_nil, Rat.zero_mul]
  | x :: a, 0 => rfl
  | x :: a, v + 1 => by rw [show sclR (x :: a) c = x * c :: sclR a c from rfl, gR_s, gR_s, gR_scl c a v]
theorem gR_sub : ∀ (a b : List Rat) (v : Nat), a.length = b.length → gR (subR a b) v = gR a v - gR b v
  | [], [], v, _ => by rw [show subR [] [] = [] from rfl, gR_nil]; grind
  | x :: a, y :: b, 0, _ => rfl
  | x :: a, y :: b, v + 1, h => by rw [show subR (x :: a) (y :: b) = (x - y) :: subR a b from rfl, gR_s, gR_s, gR_s, gR_sub a b v (by simpa using h)]
  | [], _ :: _, _, h => by simp at h
  | _ :: _, [], _, h => by simp at h
theorem dot_scl (c : Rat) : ∀ (a z : List Rat), dotR (sclR a c) z = c * dotR a z
  | [], z => by rw [show sclR [] c = [] from rfl]; simp only [dotR]; grind
  | x :: a, [] => by rw [show sclR (x :: a) c = x * c :: sclR a c from rfl]; simp only [dotR]; grind
  | x :: a, y :: z => by
    rw [show sclR (x :: a) c = x * c :: sclR a c from rfl]
    simp only [dotR]
    rw [dot_scl c a z]
    grind
theorem dot_sub : ∀ (a b z : List Rat), a.length = b.length → dotR (subR a b) z = dotR a z - dotR b z
  | [], [], z, _ => by rw [show subR [] [] = [] from rfl]; simp only [dotR]; grind
  | x :: a, y :: b, [], _ => by rw [show subR (x :: a) (y :: b) = (x - y) :: subR a b from rfl]; simp only [dotR]; grind
  | x :: a, y :: b, t :: z, h => by
    rw [show subR (x :: a) (y :: b) = (x - y) :: subR a b from rfl]
    simp only [dotR]
    rw [dot_sub a b z (by simpa using h)]
    grind
  | [], _ :: _, _, h => by simp at h
  | _ :: _, [], _, h => by simp at h
theorem len_scl (a : List Rat) (c : Rat) : (sclR a c).length = a.length := by unfold sclR; simp
theorem len_sub {a b : List Rat} (h : a.length = b.length) : (subR a b).length = a.length := by unfold subR; simp [h]
def Sol (m : Nat) (ws : List (List Rat)) (z : List Rat) : Prop := ∀ w ∈ ws, dotR w z = gR w m
/-- a row less the first one, as often as it has the unknown -/
def fR (first : List Rat) (u : Nat) (r : List Rat) : List Rat := subR r (sclR first (gR r u))
theorem fR_len {first r : List Rat} {u : Nat} (h : first.length = r.length) : (fR first u r).length = r.length := len_sub (by rw [len_scl, h])
theorem gR_f {first r : List Rat} {u v : Nat} (h : first.length = r.length) : gR (fR first u r) v = gR r v - gR first v * gR r u := by
  unfold fR
  rw [gR_sub _ _ _ (by rw [len_scl, h]), gR_scl]
theorem dot_f {first r z : List Rat} {u : Nat} (h : first.length = r.length) : dotR (fR first u r) z = dotR r z - gR r u * dotR first z := by
  unfold fR
  rw [dot_sub _ _ _ (by rw [len_scl, h]), dot_scl]
def piv (p : List Rat) (u : Nat) : List Rat := sclR p (1 / gR p u)
theorem gR_piv {p : List Rat} {u v : Nat} : gR (piv p u) v = gR p v * (1 / gR p u) := gR_scl _ _ _
theorem piv_u {p : List Rat} {u : Nat} (h : gR p u ≠ 0) : gR (piv p u) u = 1 := by
  rw [gR_piv, Rat.div_def, Rat.one_mul, Rat.mul_inv_cancel _ h]
theorem sol_sweep {m M u : Nat} {led t1 t2 : List (List Rat)} {p z : List Rat} (hu : gR p u ≠ 0) (hl : ∀ w ∈ led ++ (t1 ++ p :: t2), w.length = M) :
    Sol m (led.map (fR (piv p u) u) ++ (piv p u :: (t1 ++ t2).map (fR (piv p u) u))) z ↔ Sol m (led ++ (t1 ++ p :: t2)) z := by
  have lp : p.length = M := hl p (by simp)
  have lf : (piv p u).length = M := by unfold piv; rw [len_scl, lp]
  have c0 : (1 : Rat) / gR p u ≠ 0 := by
    intro e
    have := piv_u hu
    rw [gR_piv, e, Rat.mul_zero] at this
    exact absurd this (by decide)
  have pf : dotR (piv p u) z = gR (piv p u) m ↔ dotR p z = gR p m := by
    rw [gR_piv]
    unfold piv
    rw [dot_scl]
    generalize (1 : Rat) / gR p u = c at c0
    constructor
    · intro e
      have e2 : c * (dotR p z - gR p m) = 0 := by grind
      rcases Rat.mul_eq_zero.mp e2 with h | h
      · exact absurd h c0
      · grind
    · intro e
      rw [e, Rat.mul_comm]
  have rf : ∀ r : List Rat, r.length = M → dotR (piv p u) z = gR (piv p u) m → (dotR (fR (piv p u) u r) z = gR (fR (piv p u) u r) m ↔ dotR r z = gR r m) := fun r hr e => by
    rw [dot_f (by rw [lf, hr]), gR_f (by rw [lf, hr]), e]
    constructor <;> intro h <;> grind
  constructor
  · intro h
    have e : dotR (piv p u) z = gR (piv p u) m := h _ (by simp)
    intro w hw
    rw [List.mem_append, List.mem_append, List.mem_cons] at hw
    rcases hw with hw | hw | rfl | hw
    · exact (rf w (hl w (by simp [hw])) e).mp (h _ (by simp only [List.mem_append, List.mem_map]; exact .inl ⟨w, hw, rfl⟩))
    · exact (rf w (hl w (by simp [hw])) e).mp (h _ (by simp only [List.mem_append, List.mem_cons, List.mem_map]; exact .inr (.inr ⟨w, .inl hw, rfl⟩)))
    · exact pf.mp e
    · exact (rf w (hl w (by simp [hw])) e).mp (h _ (by simp only [List.mem_append, List.mem_cons, List.mem_map]; exact .inr (.inr ⟨w, .inr hw, rfl⟩)))
  · intro h
    have e : dotR (piv p u) z = gR (piv p u) m := pf.mpr (h _ (by simp))
    intro w hw
    simp only [List.mem_append, List.mem_cons, List.mem_map] at hw
    rcases hw with ⟨r, hr, rfl⟩ | rfl | ⟨r, hr | hr, rfl⟩
    · exact (rf r (hl r (by simp [hr])) e).mpr (h r (by simp [hr]))
    · exact e
    · exact (rf r (hl r (by simp [hr])) e).mpr (h r (by simp [hr]))
    · exact (rf r (hl r (by simp [hr])) e).mpr (h r (by simp [hr]))
/-- how far the sweeps are: the rows that lead, their unknowns, the other rows -/
structure Swp (m M u : Nat) (led : List (List Rat)) (lead : List Nat) (tail : List (List Rat)) : Prop where
  ll : led.length = lead.length
  ln : ∀ w ∈ led ++ tail, w.length = M
  lt : ∀ v ∈ lead, v < u
  nd : lead.Nodup
  id : ∀ i j (hi : i < led.length) (hj : j < lead.length), gR led[i] lead[j] = if i = j then 1 else 0
  ze : ∀ w ∈ tail, ∀ v, v < u → gR w v = 0
theorem Swp.skip {m M u : Nat} {led tail : List (List Rat)} {lead : List Nat} (h : Swp m M u led lead tail) (z : ∀ w ∈ tail, gR w u = 0) : Swp m M (u + 1) led lead tail :=
  ⟨h.ll, h.ln, fun v hv => by have := h.lt v hv; omega, h.nd, h.id, fun w hw v hv => by
    by_cases e : v = u
    · subst e; exact z w hw
    · exact h.ze w hw v (by omega)⟩
theorem Swp.step {m M u : Nat} {led t1 t2 : List (List Rat)} {lead : List Nat} {p : List Rat} (h : Swp m M u led lead (t1 ++ p :: t2)) (hu : gR p u ≠ 0) :
    Swp m M (u + 1) (led.map (fR (piv p u) u) ++ [piv p u]) (lead ++ [u]) ((t1 ++ t2).map (fR (piv p u) u)) := by
  have lp : p.length = M := h.ln p (by simp)
  have lf : (piv p u).length = M := by unfold piv; rw [len_scl, lp]
  have lr : ∀ {r}, r ∈ led ++ (t1 ++ p :: t2) → (piv p u).length = r.length := fun {r} hr => by rw [lf, h.ln r hr]
  have p0 : ∀ v, v < u → gR (piv p u) v = 0 := fun v hv => by rw [gR_piv, h.ze p (by simp) v hv, Rat.zero_mul]
  have p1 := piv_u hu
  refine ⟨by simp [h.ll], fun w hw => ?_, fun v hv => ?_, ?_, fun i j hi hj => ?_, fun w hw v hv => ?_⟩
  · simp only [List.mem_append, List.mem_cons, List.not_mem_nil, or_false, List.mem_map] at hw
    rcases hw with (⟨r, hr, rfl⟩ | rfl) | ⟨r, hr | hr, rfl⟩
    · rw [fR_len (lr (by simp [hr]))]; exact h.ln r (by simp [hr])
    · exact lf
    · rw [fR_len (lr (by simp [hr]))]; exact h.ln r (by simp [hr])
    · rw [fR_len (lr (by simp [hr]))]; exact h.ln r (by simp [hr])
  · rw [List.mem_append, List.mem_singleton] at hv
    rcases hv with hv | rfl
    · have := h.lt v hv; omega
    · omega
  · rw [List.nodup_append]
    refine ⟨h.nd, by simp, fun a ha b hb => ?_⟩
    rw [List.mem_singleton] at hb
    have := h.lt a ha
    omega
  · have hl := h.ll
    simp only [List.length_append, List.length_map, List.length_cons, List.length_nil] at hi hj
    by_cases hi2 : i < led.length
    · rw [List.getElem_append_left (by simpa using hi2), List.getElem_map, gR_f (lr (by simp))]
      by_cases hj2 : j < lead.length
      · rw [List.getElem_append_left hj2, h.id i j hi2 hj2, p0 _ (h.lt _ (List.getElem_mem _))]
        grind
      · have ej : j = lead.length := by omega
        subst ej
        rw [List.getElem_append_right (Nat.le_refl _)]
        simp only [Nat.sub_self, List.getElem_cons_zero]
        rw [p1, if_neg (by omega)]
        grind
    · have ei : i = led.length := by omega
      subst ei
      rw [List.getElem_append_right (by simp)]
      simp only [List.length_map, Nat.sub_self, List.getElem_cons_zero]
      by_cases hj2 : j < lead.length
      · rw [List.getElem_append_left hj2, p0 _ (h.lt _ (List.getElem_mem _)), if_neg (by omega)]
      · have ej : j = lead.length := by omega
        subst ej
        rw [List.getElem_append_right (Nat.le_refl _)]
        simp only [Nat.sub_self, List.getElem_cons_zero]
        rw [p1, if_pos hl]
  · simp only [List.mem_map] at hw
    obtain ⟨r, hr, rfl⟩ := hw
    have hr2 : r ∈ t1 ++ p :: t2 := by
      rw [List.mem_append] at hr ⊢
      rcases hr with hr | hr
      · exact .inl hr
      · exact .inr (List.mem_cons_of_mem _ hr)
    rw [gR_f (lr (List.mem_append_right _ hr2))]
    by_cases e : v = u
    · subst e
      rw [p1]
      grind
    · rw [p0 v (by omega), h.ze r hr2 v (by omega)]
      grind
/-! ### all solutions -/
theorem dot_zero : ∀ (w z : List Rat), (∀ v, v < z.length → gR w v = 0) → dotR w z = 0
  | [], z, _ => by simp only [dotR]
  | x :: w, [], _ => by simp only [dotR]
  | x :: w, y :: z, h => by
    simp only [dotR]
    have h0 := h 0 (by simp)
    rw [gR_0] at h0
    rw [dot_zero w z fun v hv => by have := h (v + 1) (by simp; omega); rwa [gR_s] at this, h0]
    grind
def sumR (h : Nat → Rat) : List Nat → Rat
  | [] => 0
  | v :: r => h v + sumR h r
theorem sum_congr {h g : Nat → Rat} : ∀ {l : List Nat}, (∀ v ∈ l, h v = g v) → sumR h l = sumR g l
  | [], _ => rfl
  | v :: r, e => by
    simp only [sumR]
    rw [e v (by simp), sum_congr fun u hu => e u (by simp [hu])]
theorem sum_zero {h : Nat → Rat} : ∀ {l : List Nat}, (∀ v ∈ l, h v = 0) → sumR h l = 0
  | [], _ => rfl
  | v :: r, e => by
    simp only [sumR]
    rw [e v (by simp), sum_zero fun u hu => e u (by simp [hu])]
    grind
theorem sum_map {h : Nat → Rat} (f : Nat → Nat) : ∀ l : List Nat, sumR h (l.map f) = sumR (fun v => h (f v)) l
  | [] => rfl
  | v :: r => by
    simp only [List.map_cons, sumR]
    rw [sum_map f r]
theorem dot_sum : ∀ (w z : List Rat), dotR w z = sumR (fun v => gR w v * gR z v) (List.range z.length)
  | w, [] => by cases w <;> simp only [dotR] <;> rfl
  | [], y :: z => by
    simp only [dotR]
    exact (sum_zero fun v _ => by rw [gR_nil, Rat.zero_mul]).symm
  | x :: w, y :: z => by
    simp only [dotR]
    rw [dot_sum w z, List.length_cons, List.range_succ_eq_map]
    simp only [sumR]
    rw [sum_map]
    rfl
theorem sum_filter {h : Nat → Rat} (p : Nat → Bool) : ∀ l : List Nat, sumR h l = sumR h (l.filter p) + sumR h (l.filter fun v => !p v)
  | [] => by show (0 : Rat) = 0 + 0; grind
  | v :: r => by
    simp only [sumR]
    rw [sum_filter p r]
    cases e : p v with
    | true =>
      rw [List.filter_cons_of_pos (by simpa using e), List.filter_cons_of_neg (by simp [e])]
      simp only [sumR]
      grind
    | false =>
      rw [List.filter_cons_of_neg (by simp [e]), List.filter_cons_of_pos (by simp [e])]
      simp only [sumR]
      grind
theorem sum_one {h : Nat → Rat} {a : Nat} : ∀ {l : List Nat}, l.Nodup → a ∈ l → (∀ v ∈ l, v ≠ a → h v = 0) → sumR h l = h a
  | [], _, m, _ => by cases m
  | v :: r, nd, m, z => by
    rw [List.nodup_cons] at nd
    simp only [sumR]
    by_cases e : v = a
    · subst e
      rw [sum_zero fun u hu => z u (by simp [hu]) (fun q => nd.1 (q ▸ hu))]
      grind
    · have m2 : a ∈ r := by
        rcases List.mem_cons.mp m with q | q
        · exact absurd q.symm e
        · exact q
      rw [z v (by simp) e, sum_one nd.2 m2 fun u hu => z u (by simp [hu])]
      grind
def putR : List Rat → List Nat → List Rat → List Rat
  | x, j :: js, v :: vs => putR (x.set j v) js vs
  | x, _, _ => x
theorem put_len : ∀ (x : List Rat) (js : List Nat) (vs : List Rat), (putR x js vs).length = x.length
  | x, [], _ => by simp only [putR]
  | x, _ :: _, [] => by simp only [putR]
  | x, j :: js, v :: vs => by simp only [putR]; rw [put_len]; simp
theorem gR_set {x : List Rat} {j v : Nat} {q : Rat} : gR (x.set j q) v = if v = j ∧ j < x.length then q else gR x v := by
  unfold gR
  rw [List.getD_eq_getElem?_getD, List.getD_eq_getElem?_getD, List.getElem?_set]
  by_cases e : j = v
  · subst e
    rw [if_pos rfl]
    by_cases hl : j < x.length
    · rw [if_pos hl, if_pos ⟨rfl, hl⟩]; rfl
    · rw [if_neg hl, if_neg (fun z => hl z.2), List.getElem?_eq_none (by omega)]
  · rw [if_neg e, if_neg (fun z => e z.1.symm)]
theorem gR_put : ∀ (x : List Rat) (js : List Nat) (vs : List Rat), js.Nodup → js.length = vs.length → (∀ j ∈ js, j < x.length) →
    (∀ i (hi : i < js.length) (hv : i < vs.length), gR (putR x js vs) js[i] = vs[i]) ∧ ∀ v, v ∉ js → gR (putR x js vs) v = gR x v
  | x, [], vs, _, _, _ => ⟨fun i hi => absurd hi (by simp), fun v _ => by simp only [putR]⟩
  | x, _ :: _, [], _, h, _ => by simp at h
  | x, j :: js, q :: vs, nd, hl, hx => by
    rw [List.nodup_cons] at nd
    have ih := gR_put (x.set j q) js vs nd.2 (by simpa using hl) (fun i hi => by rw [List.length_set]; exact hx i (by simp [hi]))
    simp only [putR]
    refine ⟨fun i hi hv => ?_, fun v hv => ?_⟩
    · cases i with
      | zero =>
        simp only [List.getElem_cons_zero]
        rw [ih.2 j nd.1, gR_set, if_pos ⟨rfl, hx j (by simp)⟩]
      | succ i =>
        simp only [List.getElem_cons_succ]
        exact ih.1 i (by simpa using hi) (by simpa using hv)
    · rw [ih.2 v (fun z => hv (List.mem_cons_of_mem _ z)), gR_set, if_neg (fun z => hv (by rw [z.1]; exact List.mem_cons_self ..))]
def addR (a b : List Rat) : List Rat := List.zipWith (fun x y => x + y) a b
theorem gR_addR : ∀ (a b : List Rat) (v : Nat), a.length = b.length → gR (addR a b) v = gR a v + gR b v
  | [], [], v, _ => by rw [show addR [] [] = [] from rfl, gR_nil]; grind
  | x :: a, y :: b, 0, _ => rfl
  | x :: a, y :: b, v + 1, h => by rw [show addR (x :: a) (y :: b) = (x + y) :: addR a b from rfl, gR_s, gR_s, gR_s, gR_addR a b v (by simpa using h)]
  | [], _ :: _, _, h => by simp at h
  | _ :: _, [], _, h => by simp at h
/-- x and the lists of base, each so many times -/
def sumdR : List Rat → List Rat → List (List Rat) → List Rat
  | x, s :: ss, b :: bs => sumdR (addR x (sclR b s)) ss bs
  | x, _, _ => x
theorem sumd_len : ∀ {bs : List (List Rat)} {x ss : List Rat}, (∀ b ∈ bs, b.length = x.length) → (sumdR x ss bs).length = x.length
  | [], x, ss, _ => by cases ss <;> simp only [sumdR]
  | b :: bs, x, [], _ => by simp only [sumdR]
  | b :: bs, x, s :: ss, h => by
    simp only [sumdR]
    have e : (addR x (sclR b s)).length = x.length := by unfold addR; simp [len_scl, h b (by simp)]
    rw [sumd_len fun c hc => by rw [e]; exact h c (by simp [hc]), e]
theorem gR_sumd {v : Nat} : ∀ (free : List Nat) (x : List Rat) (s : Nat → Rat) (base : Nat → List Rat), (∀ a ∈ free, (base a).length = x.length) →
    gR (sumdR x (free.map s) (free.map base)) v = gR x v + sumR (fun a => s a * gR (base a) v) free
  | [], x, s, base, _ => by simp only [List.map_nil, sumdR, sumR]; grind
  | a :: free, x, s, base, h => by
    simp only [List.map_cons, sumdR, sumR]
    have e : (addR x (sclR (base a) (s a))).length = x.length := by unfold addR; simp [len_scl, h a (by simp)]
    rw [gR_sumd free _ s base fun c hc => by rw [e]; exact h c (by simp [hc]), gR_addR _ _ _ (by rw [len_scl, h a (by simp)]), gR_scl]
    grind
theorem list_gR {a b : List Rat} (h : a.length = b.length) (e : ∀ v, v < a.length → gR a v = gR b v) : a = b := by
  refine List.ext_getElem h fun v h1 h2 => ?_
  have := e v h1
  rwa [gR_lt h1, gR_lt h2] at this
def freeR (m : Nat) (lead : List Nat) : List Nat := (List.range m).filter fun v => !lead.contains v
def xR (m : Nat) (led : List (List Rat)) (lead : List Nat) : List Rat := putR (List.replicate m 0) lead (led.map fun w => gR w m)
def oneR (m a : Nat) : List Rat := (List.range m).map fun v => if v = a then 1 else 0
def baseR (m : Nat) (led : List (List Rat)) (lead : List Nat) (a : Nat) : List Rat := putR (oneR m a) lead (led.map fun w => 0 - gR w a)
theorem gR_rep (m v : Nat) : gR (List.replicate m 0) v = 0 := by
  unfold gR
  rw [List.getD_eq_getElem?_getD, List.getElem?_replicate]
  split <;> rfl
theorem gR_one {m a v : Nat} (h : v < m) : gR (oneR m a) v = if v = a then 1 else 0 := by
  rw [gR_lt (by unfold oneR; simpa using h)]
  unfold oneR
  simp
theorem len_one (m a : Nat) : (oneR m a).length = m := by unfold oneR; simp
theorem mem_free {m v : Nat} {lead : List Nat} : v ∈ freeR m lead ↔ v < m ∧ v ∉ lead := by
  unfold freeR
  rw [List.mem_filter, List.mem_range]
  simp
theorem free_nd (m : Nat) (lead : List Nat) : (freeR m lead).Nodup := List.Pairwise.filter _ List.nodup_range
section
variable {m M : Nat} {led tail : List (List Rat)} {lead : List Nat}
theorem x_at (h : Swp m M m led lead tail) : (∀ i (hi : i < led.length) (hj : i < lead.length), gR (xR m led lead) lead[i] = gR led[i] m) ∧ ∀ v, v ∉ lead → gR (xR m led lead) v = 0 := by
  have q := gR_put (List.replicate m 0) lead (led.map fun w => gR w m) h.nd (by simp [h.ll]) (fun j hj => by simpa using h.lt j hj)
  refine ⟨fun i hi hj => ?_, fun v hv => ?_⟩
  · unfold xR
    rw [q.1 i hj (by simpa using hi)]
    simp
  · unfold xR
    rw [q.2 v hv, gR_rep]
theorem base_at (h : Swp m M m led lead tail) (a : Nat) : (∀ i (hi : i < led.length) (hj : i < lead.length), gR (baseR m led lead a) lead[i] = 0 - gR led[i] a) ∧ ∀ v, v ∉ lead → v < m → gR (baseR m led lead a) v = if v = a then 1 else 0 := by
  have q := gR_put (oneR m a) lead (led.map fun w => 0 - gR w a) h.nd (by simp [h.ll]) (fun j hj => by rw [len_one]; exact h.lt j hj)
  refine ⟨fun i hi hj => ?_, fun v hv hm => ?_⟩
  · unfold baseR
    rw [q.1 i hj (by simpa using hi)]
    simp
  · unfold baseR
    rw [q.2 v hv, gR_one hm]
theorem x_len : (xR m led lead).length = m := by unfold xR; rw [put_len]; simp
theorem base_len (a : Nat) : (baseR m led lead a).length = m := by unfold baseR; rw [put_len, len_one]
/-- a row that leads, its products with a list -/
theorem led_dot (h : Swp m M m led lead tail) {z : List Rat} (hz : z.length = m) {i : Nat} (hi : i < led.length) (hj : i < lead.length) : dotR led[i] z = gR z lead[i] + sumR (fun a => gR led[i] a * gR z a) (freeR m lead) := by
  rw [dot_sum, hz, sum_filter (fun v => lead.contains v)]
  have e1 : sumR (fun v => gR led[i] v * gR z v) ((List.range m).filter fun v => lead.contains v) = gR led[i] lead[i] * gR z lead[i] := by
    refine sum_one (List.Pairwise.filter _ List.nodup_range) (by rw [List.mem_filter, List.mem_range]; exact ⟨h.lt _ (List.getElem_mem _), by simp⟩) fun v hv ne => ?_
    rw [List.mem_filter] at hv
    obtain ⟨j, hj2, rfl⟩ := List.mem_iff_getElem.mp (List.contains_iff_mem.mp hv.2)
    rw [h.id i j hi hj2, if_neg (fun z => ne (by subst z; rfl)), Rat.zero_mul]
  rw [e1, h.id i i hi hj, if_pos rfl, Rat.one_mul]
  rfl
theorem summed_iff (h : Swp m M m led lead tail) {z : List Rat} (hz : z.length = m) : z = sumdR (xR m led lead) ((freeR m lead).map (gR z)) ((freeR m lead).map (baseR m led lead)) ↔ ∀ w ∈ led, dotR w z = gR w m := by
  have lb : ∀ a ∈ freeR m lead, (baseR m led lead a).length = (xR m led lead).length := fun a _ => by rw [x_len, base_len]
  have hl := h.ll
  have comp : ∀ v, gR (sumdR (xR m led lead) ((freeR m lead).map (gR z)) ((freeR m lead).map (baseR m led lead))) v = gR (xR m led lead) v + sumR (fun a => gR z a * gR (baseR m led lead a) v) (freeR m lead) := fun v => gR_sumd _ _ (gR z) _ lb
  have atl : ∀ i (hi : i < led.length) (hj : i < lead.length), gR (sumdR (xR m led lead) ((freeR m lead).map (gR z)) ((freeR m lead).map (baseR m led lead))) lead[i] = gR led[i] m - sumR (fun a => gR led[i] a * gR z a) (freeR m lead) := fun i hi hj => by
    rw [comp, (x_at h).1 i hi hj]
    have e : sumR (fun a => gR z a * gR (baseR m led lead a) lead[i]) (freeR m lead) = 0 - sumR (fun a => gR led[i] a * gR z a) (freeR m lead) := by
      have : ∀ l : List Nat, sumR (fun a => gR z a * gR (baseR m led lead a) lead[i]) l = 0 - sumR (fun a => gR led[i] a * gR z a) l := by
        intro l
        induction l with
        | nil => show (0 : Rat) = 0 - 0; grind
        | cons a r ih =>
          simp only [sumR]
          rw [ih, (base_at h a).1 i hi hj]
          grind
      exact this _
    rw [e]
    grind
  constructor
  · intro e w hw
    obtain ⟨i, hi, rfl⟩ := List.mem_iff_getElem.mp hw
    have hj : i < lead.length := by omega
    rw [led_dot h hz hi hj]
    have this : gR z lead[i] = gR (sumdR (xR m led lead) ((freeR m lead).map (gR z)) ((freeR m lead).map (baseR m led lead))) lead[i] := congrArg (fun y => gR y lead[i]) e
    rw [atl i hi hj] at this
    rw [this]
    grind
  · intro e
    refine list_gR (by rw [sumd_len (fun b hb => by
      obtain ⟨a, ha, rfl⟩ := List.mem_map.mp hb
      exact lb a ha), x_len, hz]) fun v hv => ?_
    by_cases hv2 : v ∈ lead
    · obtain ⟨i, hj, rfl⟩ := List.mem_iff_getElem.mp hv2
      have hi : i < led.length := by omega
      rw [atl i hi hj]
      have := e led[i] (List.getElem_mem _)
      rw [led_dot h hz hi hj] at this
      rw [← this]
      grind
    · rw [comp, (x_at h).2 v hv2]
      have vf : v ∈ freeR m lead := mem_free.mpr ⟨by omega, hv2⟩
      rw [sum_one (free_nd m lead) vf fun a ha ne => by rw [(base_at h a).2 v hv2 (by omega), if_neg (fun q => ne q.symm)]; grind]
      rw [(base_at h v).2 v hv2 (by omega), if_pos rfl]
      grind
theorem sol_end (h : Swp m M m led lead tail) (ht : ∀ w ∈ tail, gR w m = 0) {z : List Rat} (hz : z.length = m) : Sol m (led ++ tail) z ↔ z = sumdR (xR m led lead) ((freeR m lead).map (gR z)) ((freeR m lead).map (baseR m led lead)) := by
  rw [summed_iff h hz]
  constructor
  · exact fun s w hw => s w (List.mem_append_left _ hw)
  · intro s w hw
    rcases List.mem_append.mp hw with hw | hw
    · exact s w hw
    · rw [ht w hw]
      exact dot_zero w z fun v hv => h.ze w hw v (by omega)
theorem sol_none (h : Swp m M m led lead tail) {w : List Rat} (hw : w ∈ tail) (hn : gR w m ≠ 0) {z : List Rat} (hz : z.length = m) : ¬ Sol m (led ++ tail) z := fun s => by
  have := s w (List.mem_append_right _ hw)
  rw [dot_zero w z fun v hv => h.ze w hw v (by omega)] at this
  exact hn this.symm
/-- each sum of x and the lists of base is a solution -/
theorem sol_any (h : Swp m M m led lead tail) (ht : ∀ w ∈ tail, gR w m = 0) (s : Nat → Rat) : Sol m (led ++ tail) (sumdR (xR m led lead) ((freeR m lead).map s) ((freeR m lead).map (baseR m led lead))) := by
  have lb : ∀ a ∈ freeR m lead, (baseR m led lead a).length = (xR m led lead).length := fun a _ => by rw [x_len, base_len]
  have hz : (sumdR (xR m led lead) ((freeR m lead).map s) ((freeR m lead).map (baseR m led lead))).length = m := by
    rw [sumd_len (fun b hb => by
      obtain ⟨a, ha, rfl⟩ := List.mem_map.mp hb
      exact lb a ha), x_len]
  rw [sol_end h ht hz]
  have e : (freeR m lead).map (gR (sumdR (xR m led lead) ((freeR m lead).map s) ((freeR m lead).map (baseR m led lead)))) = (freeR m lead).map s := by
    refine List.map_congr_left fun v hv => ?_
    obtain ⟨v1, v2⟩ := mem_free.mp hv
    rw [gR_sumd _ _ s _ lb, (x_at h).2 v v2, sum_one (free_nd m lead) hv fun a ha ne => by rw [(base_at h a).2 v v2 v1, if_neg (fun q => ne q.symm)]; grind]
    rw [(base_at h v).2 v v2 v1, if_pos rfl]
    grind
  rw [e]
end
end Rc

/-! Root sums: pairs (d, fraction), gathered in a dict and sorted; squares taken out. -/
namespace Rc
open PySem
abbrev Pr := Int × Rat
def pd (p : Pr) : D := .tuple [.int p.1, fr p.2]
def qt (kv : List Pr) (k : Int) : Rat := ((kv.find? fun p => decide (p.1 = k)).map (·.2)).getD 0
def qp (kv : List Pr) (k : Int) (w : Rat) : List Pr := if (kv.any fun p => decide (p.1 = k)) = true then kv.map (fun p => if p.1 = k then (p.1, w) else p) else kv ++ [(k, w)]
def qa (kv : List Pr) (t : Pr) : List Pr := qp kv t.1 (qt kv t.1 + t.2)
def gq (ts : List Pr) : List Pr := ts.foldl qa []
/-- the sum of the fractions by k -/
def cq : List Pr → Int → Rat
  | [], _ => 0
  | t :: r, k => (if t.1 = k then t.2 else 0) + cq r k
def toQ (kv : List Pr) : List (Int × D) := kv.map fun p => (p.1, fr p.2)
theorem toQ_len (kv : List Pr) : (toQ kv).length = kv.length := by unfold toQ; rw [List.length_map]
theorem qt_nil (k : Int) : qt [] k = 0 := rfl
theorem qt_cons (p : Pr) (r : List Pr) (k : Int) : qt (p :: r) k = if p.1 = k then p.2 else qt r k := by
  unfold qt
  rw [List.find?_cons]
  by_cases e : p.1 = k
  · rw [decide_eq_true e, if_pos e]; rfl
  · rw [decide_eq_false e, if_neg e]
theorem lkp_toQ (kv : List Pr) (k : Int) : (lkp (toQ kv) k).getD (fr 0) = fr (qt kv k) := by
  induction kv with
  | nil => rfl
  | cons p r ih =>
    rw [qt_cons]
    unfold toQ at ih ⊢
    unfold lkp at ih ⊢
    rw [List.map_cons, List.find?_cons]
    by_cases e : p.1 = k
    · rw [if_pos e, decide_eq_true e]; rfl
    · rw [if_neg e, decide_eq_false e]; exact ih
theorem lkp_some (kv : List Pr) {k : Int} (h : k ∈ kv.map (·.1)) : lkp (toQ kv) k = some (fr (qt kv k)) := by
  induction kv with
  | nil => cases h
  | cons p r ih =>
    rw [qt_cons]
    unfold toQ at ih ⊢
    unfold lkp at ih ⊢
    rw [List.map_cons, List.find?_cons]
    by_cases e : p.1 = k
    · rw [if_pos e, decide_eq_true e]; rfl
    · rw [if_neg e, decide_eq_false e]
      refine ih ?_
      rcases List.mem_cons.mp h with z | z
      · exact absurd z.symm e
      · exact z
theorem qany (kv : List Pr) (k : Int) : (kv.any fun p => decide (p.1 = k)) = true ↔ k ∈ kv.map (·.1) := by
  rw [List.any_eq_true, List.mem_map]
  constructor
  · rintro ⟨p, h1, h2⟩; exact ⟨p, h1, of_decide_eq_true h2⟩
  · rintro ⟨p, h1, h2⟩; exact ⟨p, h1, decide_eq_true h2⟩
theorem putL_toQ (kv : List Pr) (k : Int) (w : Rat) : putL (toQ kv) k (fr w) = toQ (qp kv k w) := by
  have an : ((toQ kv).any fun p => decide (p.1 = k)) = kv.any fun p => decide (p.1 = k) := by
    unfold toQ
    rw [List.any_map]; rfl
  unfold putL qp
  rw [an]
  split
  · unfold toQ
    rw [List.map_map, List.map_map]
    refine List.map_congr_left fun p _ => ?_
    show (if p.1 = k then (p.1, fr w) else (p.1, fr p.2)) = ((if p.1 = k then (p.1, w) else p).1, fr (if p.1 = k then (p.1, w) else p).2)
    by_cases e : p.1 = k
    · rw [if_pos e, if_pos e]
    · rw [if_neg e, if_neg e]
  · unfold toQ
    rw [List.map_append]; rfl
theorem qp_keys (kv : List Pr) (k : Int) (w : Rat) : (qp kv k w).map (·.1) = if k ∈ kv.map (·.1) then kv.map (·.1) else kv.map (·.1) ++ [k] := by
  unfold qp
  by_cases h : k ∈ kv.map (·.1)
  · rw [if_pos ((qany kv k).mpr h), if_pos h, List.map_map]
    refine List.map_congr_left fun p _ => ?_
    show (if p.1 = k then (p.1, w) else p).1 = p.1
    split <;> rfl
  · rw [if_neg (fun z => h ((qany kv k).mp z)), if_neg h, List.map_append]; rfl
theorem qp_nodup {kv : List Pr} {k : Int} {w : Rat} (h : (kv.map (·.1)).Nodup) : ((qp kv k w).map (·.1)).Nodup := by
  rw [qp_keys]
  split
  · exact h
  · rename_i hk
    rw [List.nodup_append]
    refine ⟨h, by simp, fun a ha b hb => ?_⟩
    have : b = k := by simpa using hb
    subst this
    exact fun e => hk (e ▸ ha)
theorem qp_qt (kv : List Pr) (k j : Int) (w : Rat) : qt (qp kv k w) j = if j = k then w else qt kv j := by
  have g1 : ∀ kv : List Pr, k ∈ kv.map (·.1) → qt (kv.map (fun p => if p.1 = k then (p.1, w) else p)) j = if j = k then w else qt kv j := by
    intro kv
    induction kv with
    | nil => intro h; cases h
    | cons p r ih =>
      intro h
      rw [List.map_cons, qt_cons, qt_cons]
      by_cases e : p.1 = k
      · rw [if_pos e]
        show (if p.1 = j then w else _) = _
        by_cases ej : j = k
        · rw [if_pos (e.trans ej.symm), if_pos ej]
        · rw [if_neg (fun z => ej (z.symm.trans e)), if_neg ej, if_neg (fun z => ej (z.symm.trans e))]
          by_cases hr : k ∈ r.map (·.1)
          · rw [ih hr, if_neg ej]
          · have : r.map (fun p => if p.1 = k then (p.1, w) else p) = r := by
              conv => rhs; rw [← List.map_id r]
              refine List.map_congr_left fun q hq => if_neg fun z => hr (List.mem_map.mpr ⟨q, hq, z⟩)
            rw [this]
      · rw [if_neg e]
        have hr : k ∈ r.map (·.1) := by
          rcases List.mem_cons.mp h with z | z
          · exact absurd z.symm e
          · exact z
        rw [ih hr]
        by_cases ej : j = k
        · rw [if_pos ej, if_pos ej, if_neg (fun z => e (z.trans ej))]
        · rw [if_neg ej, if_neg ej]
  have g2 : ∀ kv : List Pr, k ∉ kv.map (·.1) → qt (kv ++ [(k, w)]) j = if j = k then w else qt kv j := by
    intro kv
    induction kv with
    | nil =>
      intro _
      show qt [(k, w)] j = _
      rw [qt_cons, qt_nil]
      by_cases ej : j = k
      · rw [if_pos ej.symm, if_pos ej]
      · rw [if_neg (fun z => ej z.symm), if_neg ej]
    | cons p r ih =>
      intro h
      have h1 : ¬ p.1 = k := fun z => h (by rw [List.map_cons, z]; exact List.mem_cons_self ..)
      have h2 : k ∉ r.map (·.1) := fun z => h (List.mem_cons_of_mem _ z)
      rw [List.cons_append, qt_cons, qt_cons, ih h2]
      by_cases ej : j = k
      · rw [if_pos ej, if_pos ej, if_neg (fun z => h1 (z.trans ej))]
      · rw [if_neg ej, if_neg ej]
  unfold qp
  by_cases h : k ∈ kv.map (·.1)
  · rw [if_pos ((qany kv k).mpr h)]; exact g1 kv h
  · rw [if_neg (fun z => h ((qany kv k).mp z))]; exact g2 kv h
theorem gq_go (ts : List Pr) : ∀ kv : List Pr, (kv.map (·.1)).Nodup → ((ts.foldl qa kv).map (·.1)).Nodup ∧ (∀ k, qt (ts.foldl qa kv) k = qt kv k + cq ts k) ∧ (∀ k ∈ (ts.foldl qa kv).map (·.1), k ∈ kv.map (·.1) ∨ k ∈ ts.map (·.1)) ∧ (ts.foldl qa kv).length ≤ kv.length + ts.length := by
  induction ts with
  | nil =>
    intro kv h
    refine ⟨h, fun k => ?_, fun k hk => .inl hk, Nat.le_refl _⟩
    show qt kv k = qt kv k + 0
    grind
  | cons t r ih =>
    intro kv h
    obtain ⟨a1, a2, a3, a4⟩ := ih (qa kv t) (qp_nodup h)
    refine ⟨a1, fun k => ?_, fun k hk => ?_, ?_⟩
    · show qt (r.foldl qa (qa kv t)) k = _
      rw [a2 k]
      unfold qa
      rw [qp_qt]
      show _ = qt kv k + ((if t.1 = k then t.2 else 0) + cq r k)
      by_cases e : k = t.1
      · rw [if_pos e, if_pos e.symm, e]; grind
      · rw [if_neg e, if_neg (fun z => e z.symm)]; grind
    · rcases a3 k hk with z | z
      · unfold qa at z
        rw [qp_keys] at z
        split at z
        · exact .inl z
        · rcases List.mem_append.mp z with z | z
          · exact .inl z
          · exact .inr (by rw [List.map_cons]; exact List.mem_cons.mpr (.inl (by simpa using z)))
      · exact .inr (List.mem_cons_of_mem _ z)
    · have : (qa kv t).length ≤ kv.length + 1 := by
        unfold qa qp
        split
        · rw [List.length_map]; omega
        · rw [List.length_append]; simp
      show (r.foldl qa (qa kv t)).length ≤ _
      rw [List.length_cons]
      omega
theorem gq_nodup (ts : List Pr) : ((gq ts).map (·.1)).Nodup := (gq_go ts [] List.nodup_nil).1
theorem gq_qt (ts : List Pr) (k : Int) : qt (gq ts) k = cq ts k := by
  have := (gq_go ts [] List.nodup_nil).2.1 k
  rw [qt_nil] at this
  show qt (ts.foldl qa []) k = _
  grind
theorem gq_mem {ts : List Pr} {k : Int} (h : k ∈ (gq ts).map (·.1)) : k ∈ ts.map (·.1) := by
  rcases (gq_go ts [] List.nodup_nil).2.2.1 k h with z | z
  · cases z
  · exact z
theorem gq_len (ts : List Pr) : (gq ts).length ≤ ts.length := by
  have := (gq_go ts [] List.nodup_nil).2.2.2
  show (ts.foldl qa []).length ≤ _
  simpa using this
theorem qt_none {kv : List Pr} {k : Int} (h : k ∉ kv.map (·.1)) : qt kv k = 0 := by
  induction kv with
  | nil => rfl
  | cons p r ih =>
    rw [qt_cons, if_neg (fun z => h (by rw [List.map_cons, z]; exact List.mem_cons_self ..))]
    exact ih fun z => h (List.mem_cons_of_mem _ z)
/-! ### in order -/
/-- rising, no fraction 0 -/
structure Rs (f : List Pr) : Prop where
  up : f.Pairwise fun a b => a.1 < b.1
  nz : ∀ p ∈ f, p.2 ≠ 0
theorem Rs.tail {a : Pr} {f : List Pr} (h : Rs (a :: f)) : Rs f := ⟨(List.pairwise_cons.mp h.up).2, fun p hp => h.nz p (List.mem_cons_of_mem _ hp)⟩
theorem Rs.uniq : ∀ {f g : List Pr}, Rs f → Rs g → (∀ k, qt f k = qt g k) → f = g
  | [], [], _, _, _ => rfl
  | [], b :: g, _, hg, h => by
    have := h b.1
    rw [qt_cons, if_pos rfl, qt_nil] at this
    exact absurd this.symm (hg.nz b (List.mem_cons_self ..))
  | a :: f, [], hf, _, h => by
    have := h a.1
    rw [qt_cons, if_pos rfl, qt_nil] at this
    exact absurd this (hf.nz a (List.mem_cons_self ..))
  | a :: f, b :: g, hf, hg, h => by
    have low : ∀ {c : Pr} {f : List Pr} {k : Int}, Rs (c :: f) → k ≤ c.1 → qt f k = 0 := fun {c f k} hc hk => qt_none fun z => by
      obtain ⟨p, hp, e⟩ := List.mem_map.mp z
      have := (List.pairwise_cons.mp hc.up).1 p hp
      omega
    have ha := h a.1
    have hb := h b.1
    rw [qt_cons, qt_cons, if_pos rfl] at ha
    rw [qt_cons, qt_cons, if_pos (rfl : b.1 = b.1)] at hb
    by_cases e : a.1 = b.1
    · rw [if_pos e.symm] at ha
      have e2 : a = b := Prod.ext e ha
      have : f = g := Rs.uniq hf.tail hg.tail fun k => by
        have hk := h k
        rw [qt_cons, qt_cons, ← e2] at hk
        by_cases ek : a.1 = k
        · rw [low hf (by omega), low hg (by omega)]
        · rw [if_neg ek, if_neg ek] at hk; exact hk
      rw [e2, this]
    · exfalso
      rw [if_neg (fun z => e z.symm)] at ha
      rw [if_neg e] at hb
      rcases Int.lt_or_le a.1 b.1 with z | z
      · rw [low hg (by omega)] at ha
        exact hf.nz a (List.mem_cons_self ..) ha
      · rw [low hf (by omega)] at hb
        exact hg.nz b (List.mem_cons_self ..) hb.symm
def srtK (ts : List Pr) : List Int := ((gq ts).map (·.1)).mergeSort fun x y => decide (x ≤ y)
def rs (ts : List Pr) : List Pr := ((srtK ts).filter fun k => decide (cq ts k ≠ 0)).map fun k => (k, cq ts k)
theorem srtK_perm (ts : List Pr) : (srtK ts).Perm ((gq ts).map (·.1)) := List.mergeSort_perm _ _
theorem srtK_up (ts : List Pr) : (srtK ts).Pairwise (· < ·) := by
  have s : (srtK ts).Pairwise fun a b => decide (a ≤ b) = true := List.pairwise_mergeSort (fun a b c h1 h2 => by simp at *; omega) (fun a b => by simp; omega) _
  have n : (srtK ts).Nodup := (srtK_perm ts).nodup_iff.mpr (gq_nodup ts)
  exact List.Pairwise.imp (fun ⟨h1, h2⟩ => by simp at h1; omega) (s.and n)
theorem rs_ok (ts : List Pr) : Rs (rs ts) where
  up := by
    unfold rs
    rw [List.pairwise_map]
    exact List.Pairwise.sublist List.filter_sublist (srtK_up ts)
  nz := fun p hp => by
    obtain ⟨k, hk, rfl⟩ := List.mem_map.mp hp
    exact of_decide_eq_true (List.mem_filter.mp hk).2
theorem qt_fn (c : Int → Rat) : ∀ (l : List Int) (k : Int), qt (l.map fun k => (k, c k)) k = if k ∈ l then c k else 0
  | [], k => rfl
  | a :: l, k => by
    rw [List.map_cons, qt_cons]
    show (if a = k then c a else _) = _
    by_cases e : a = k
    · subst e; rw [if_pos rfl, if_pos (List.mem_cons_self ..)]
    · rw [if_neg e, qt_fn c l k]
      by_cases h : k ∈ l
      · rw [if_pos h, if_pos (List.mem_cons_of_mem _ h)]
      · rw [if_neg h, if_neg (fun z => by rcases List.mem_cons.mp z with z | z; exact e z.symm; exact h z)]
theorem rs_qt (ts : List Pr) (k : Int) : qt (rs ts) k = cq ts k := by
  unfold rs
  rw [qt_fn]
  by_cases h : k ∈ (srtK ts).filter fun k => decide (cq ts k ≠ 0)
  · rw [if_pos h]
  · rw [if_neg h]
    by_cases z : cq ts k = 0
    · exact z.symm
    · exfalso
      refine h (List.mem_filter.mpr ⟨?_, decide_eq_true z⟩)
      refine (srtK_perm ts).mem_iff.mpr ?_
      by_cases hk : k ∈ (gq ts).map (·.1)
      · exact hk
      · have := qt_none hk
        rw [gq_qt] at this
        exact absurd this z
theorem rs_eq {ts us : List Pr} (h : ∀ k, cq ts k = cq us k) : rs ts = rs us := Rs.uniq (rs_ok ts) (rs_ok us) fun k => by rw [rs_qt, rs_qt, h k]
theorem rs_mem {ts : List Pr} {p : Pr} (h : p ∈ rs ts) : p.1 ∈ ts.map (·.1) := by
  obtain ⟨k, hk, rfl⟩ := List.mem_map.mp h
  exact gq_mem ((srtK_perm ts).mem_iff.mp (List.mem_filter.mp hk).1)
theorem rs_len (ts : List Pr) : (rs ts).length ≤ ts.length := by
  unfold rs
  rw [List.length_map]
  refine Nat.le_trans (List.length_filter_le _ _) ?_
  rw [(srtK_perm ts).length_eq, List.length_map]
  exact gq_len ts
theorem cq_app (a b : List Pr) (k : Int) : cq (a ++ b) k = cq a k + cq b k := by
  induction a with
  | nil => show cq b k = 0 + cq b k; grind
  | cons t r ih => show (if t.1 = k then t.2 else 0) + cq (r ++ b) k = (if t.1 = k then t.2 else 0) + cq r k + cq b k; rw [ih]; grind
theorem cq_perm {a b : List Pr} (h : a.Perm b) (k : Int) : cq a k = cq b k := by
  induction h with
  | nil => rfl
  | cons x _ ih => show _ + _ = _ + _; rw [ih]
  | swap x y l => show (if y.1 = k then y.2 else 0) + ((if x.1 = k then x.2 else 0) + cq l k) = (if x.1 = k then x.2 else 0) + ((if y.1 = k then y.2 else 0) + cq l k); grind
  | trans _ _ ih1 ih2 => rw [ih1, ih2]
theorem Rs.cq {f : List Pr} (h : Rs f) (k : Int) : cq f k = qt f k := by
  induction f with
  | nil => rfl
  | cons a f ih =>
    show (if a.1 = k then a.2 else 0) + Rc.cq f k = _
    rw [qt_cons, ih h.tail]
    by_cases e : a.1 = k
    · rw [if_pos e, if_pos e, qt_none fun z => by
        obtain ⟨p, hp, e2⟩ := List.mem_map.mp z
        have := (List.pairwise_cons.mp h.up).1 p hp
        omega]
      grind
    · rw [if_neg e, if_neg e]; grind
theorem Rs.rs {f : List Pr} (h : Rs f) : rs f = f := Rs.uniq (rs_ok f) h fun k => by rw [rs_qt, h.cq]
/-! ### squares taken out -/
def Sf (n : Nat) : Prop := ∀ k, 2 ≤ k → ¬ k * k ∣ n
def So (d o r : Nat) : Prop := o * o * r = d ∧ Sf r
theorem so_uniq {d o r o' r' : Nat} (h0 : 0 < d) (h : So d o r) (h' : So d o' r') : o = o' ∧ r = r' := by
  obtain ⟨e, s⟩ := h
  obtain ⟨e', s'⟩ := h'
  have o0 : 0 < o := Nat.pos_of_ne_zero fun z => by rw [z] at e; simp at e; omega
  have o0' : 0 < o' := Nat.pos_of_ne_zero fun z => by rw [z] at e'; simp at e'; omega
  have key : ∀ {o r o' r' : Nat}, 0 < o → 0 < o' → o * o * r = o' * o' * r' → Sf r' → o ∣ o' := fun {o r o' r'} p p' e s' => by
    have gp : 0 < Nat.gcd o o' := Nat.gcd_pos_of_pos_left _ p
    obtain ⟨a, ha⟩ := Nat.gcd_dvd_left o o'
    obtain ⟨b, hb⟩ := Nat.gcd_dvd_right o o'
    have cop : Nat.Coprime a b := by
      have := Nat.coprime_div_gcd_div_gcd (m := o) (n := o') gp
      have e1 : o / Nat.gcd o o' = a := Nat.div_eq_of_eq_mul_right gp ha
      have e2 : o' / Nat.gcd o o' = b := Nat.div_eq_of_eq_mul_right gp hb
      rw [e1, e2] at this
      exact this
    have e2 : a * a * r = b * b * r' := by
      have q : (Nat.gcd o o' * Nat.gcd o o') * (a * a * r) = (Nat.gcd o o' * Nat.gcd o o') * (b * b * r') := by
        have l : o * o * r = (Nat.gcd o o' * Nat.gcd o o') * (a * a * r) := by
          conv => lhs; rw [ha]
          simp only [Nat.mul_assoc, Nat.mul_comm, Nat.mul_left_comm]
        have l' : o' * o' * r' = (Nat.gcd o o' * Nat.gcd o o') * (b * b * r') := by
          conv => lhs; rw [hb]
          simp only [Nat.mul_assoc, Nat.mul_comm, Nat.mul_left_comm]
        rw [← l, ← l', e]
      exact Nat.eq_of_mul_eq_mul_left (Nat.mul_pos gp gp) q
    have dv : a * a ∣ b * b * r' := ⟨r, e2.symm⟩
    have c2 : Nat.Coprime (a * a) (b * b) := Nat.Coprime.mul_left (Nat.Coprime.mul_right cop cop) (Nat.Coprime.mul_right cop cop)
    have dv2 : a * a ∣ r' := c2.dvd_of_dvd_mul_left dv
    have a1 : a = 1 := by
      rcases Nat.lt_or_ge a 2 with z | z
      · have : a ≠ 0 := fun w => by rw [w] at ha; simp at ha; omega
        omega
      · exact absurd dv2 (s' a z)
    rw [a1, Nat.mul_one] at ha
    rw [ha]
    exact Nat.gcd_dvd_right o o'
  have d1 := key o0 o0' (e.trans e'.symm) s'
  have d2 := key o0' o0 (e'.trans e.symm) s
  have eo := Nat.dvd_antisymm d1 d2
  subst eo
  exact ⟨rfl, Nat.eq_of_mul_eq_mul_left (Nat.mul_pos o0 o0) (e.trans e'.symm)⟩
open Classical in
noncomputable def sqd (d : Nat) : Nat × Nat := if h : ∃ p : Nat × Nat, So d p.1 p.2 then h.choose else (1, d)
theorem sqd_of {d o r : Nat} (h0 : 0 < d) (h : So d o r) : sqd d = (o, r) := by
  have hx : ∃ p : Nat × Nat, So d p.1 p.2 := ⟨(o, r), h⟩
  unfold sqd
  rw [dif_pos hx]
  obtain ⟨e1, e2⟩ := so_uniq h0 hx.choose_spec h
  exact Prod.ext e1 e2
theorem so_dvd {d o r k : Nat} (h : So d o r) (hk : k * k ∣ r) : (k * o) * (k * o) ∣ d := by
  obtain ⟨c, hc⟩ := hk
  refine ⟨c, ?_⟩
  rw [← h.1, hc]
  simp only [Nat.mul_assoc, Nat.mul_comm, Nat.mul_left_comm]
/-! ### what is a root sum -/
def topD : D → Int
  | .tuple (.int t :: _) => t
  | _ => 0
open Classical in
noncomputable def isPr : D → Bool
  | .tuple [.int d, y] => fracV y && (decide (0 < d) && (decide (d ≤ 1000000000000) && (decide (topD y ≠ 0) && decide (Sf d.toNat))))
  | _ => false
def kof : D → Int
  | .tuple (.int d :: _) => d
  | _ => 0
def ris (ks : List Int) : Bool := (ks.zip (ks.drop 1)).all fun p => decide (p.1 < p.2)
noncomputable def isRsB : D → Bool
  | .tuple xs => xs.all isPr && (ris (xs.map kof) && decide ((xs.filter fun x => decide (1 < kof x)).length ≤ 3))
  | _ => false
theorem isPr_kof {x : D} (h : isPr x = true) : ∃ d y, x = .tuple [.int d, y] ∧ kof x = d := by
  unfold isPr at h
  split at h
  · exact ⟨_, _, rfl, rfl⟩
  · cases h
theorem fracV_fr (q : Rat) : fracV (fr q) = true := by
  show (decide ((0 : Int) < q.den) && decide (Int.gcd q.num q.den = 1)) = true
  rw [decide_eq_true (by have := q.den_pos; omega), Bool.true_and, decide_eq_true]
  exact q.reduced
open Classical in
theorem isPr_pd {p : Pr} (h1 : 0 < p.1) (h2 : p.1 ≤ 1000000000000) (h3 : p.2 ≠ 0) (h4 : Sf p.1.toNat) : isPr (pd p) = true := by
  show (fracV (fr p.2) && (decide (0 < p.1) && (decide (p.1 ≤ 1000000000000) && (decide (topD (fr p.2) ≠ 0) && _)))) = true
  rw [fracV_fr, decide_eq_true h1, decide_eq_true h2, decide_eq_true (show topD (fr p.2) ≠ 0 from fun z => h3 (num0.mp z)), decide_eq_true h4]
  rfl
theorem ris_up : ∀ {ks : List Int}, ks.Pairwise (· < ·) → ris ks = true
  | [], _ => rfl
  | [_], _ => rfl
  | a :: b :: r, h => by
    have ih := ris_up (List.pairwise_cons.mp h).2
    have e : ris (a :: b :: r) = (decide (a < b) && ris (b :: r)) := by
      unfold ris
      rfl
    rw [e, ih, decide_eq_true ((List.pairwise_cons.mp h).1 b (List.mem_cons_self ..))]
    rfl
def gok (f : List Pr) : Bool := decide ((f.filter fun p => decide (1 < p.1)).length ≤ 3) && f.all fun p => decide (p.1 ≤ 1000000000000)
theorem isRsB_pd {f : List Pr} (h : Rs f) (g : gok f = true) (p : ∀ a ∈ f, 0 < a.1 ∧ Sf a.1.toNat) : isRsB (.tuple (f.map pd)) = true := by
  unfold gok at g
  rw [Bool.and_eq_true, decide_eq_true_eq, List.all_eq_true] at g
  have e : (f.map pd).map kof = f.map (·.1) := by rw [List.map_map]; rfl
  have e2 : ((f.map pd).filter fun x => decide (1 < kof x)) = (f.filter fun p => decide (1 < p.1)).map pd := by rw [List.filter_map]; rfl
  show ((f.map pd).all isPr && (ris ((f.map pd).map kof) && decide (((f.map pd).filter fun x => decide (1 < kof x)).length ≤ 3))) = true
  rw [e, e2, List.length_map, decide_eq_true g.1, ris_up (by rw [List.pairwise_map]; exact h.up), Bool.and_true, Bool.and_true, List.all_eq_true]
  intro x hx
  obtain ⟨a, ha, rfl⟩ := List.mem_map.mp hx
  exact isPr_pd (p a ha).1 (of_decide_eq_true (g.2 a ha)) (h.nz a ha) (p a ha).2
theorem zips_ints : ∀ a b : List Int, zips (a.map .int) (b.map .int) = (a.zip b).map fun p => PyData.tuple [.int p.1, .int p.2]
  | [], b => by cases b <;> rfl
  | x :: a, [] => rfl
  | x :: a, y :: b => by
    show PyData.tuple [.int x, .int y] :: zips (a.map .int) (b.map .int) = _
    rw [zips_ints a b]
    rfl
theorem shPd (n : Nat) (p : Pr) : Sh (n + 2) (pd p) := shTup fun x hx => by
  simp only [List.mem_cons, List.not_mem_nil, or_false] at hx
  rcases hx with rfl | rfl
  · exact shInt _
  · exact shTup fun y hy => by
      simp only [List.mem_cons, List.not_mem_nil, or_false] at hy
      rcases hy with rfl | rfl <;> exact shInt _
theorem eqvPd (a b : Pr) : PyData.eqv (pd a) (pd b) = decide (a = b) := by
  show (PyData.eqv (.int a.1) (.int b.1) && (PyData.eqv (fr a.2) (fr b.2) && true)) = _
  rw [fr_eq]
  show ((a.1 == b.1) && (decide (a.2 = b.2) && true)) = _
  by_cases h1 : a.1 = b.1 <;> by_cases h2 : a.2 = b.2 <;> simp [Prod.ext_iff, h1, h2]
theorem eqvPds : ∀ a b : List Pr, PyData.eqvAll (a.map pd) (b.map pd) = decide (a = b)
  | [], [] => rfl
  | [], _ :: _ => rfl
  | _ :: _, [] => rfl
  | x :: a, y :: b => by
    show (PyData.eqv (pd x) (pd y) && PyData.eqvAll (a.map pd) (b.map pd)) = _
    rw [eqvPd, eqvPds a b]
    by_cases h1 : x = y <;> by_cases h2 : a = b <;> simp [h1, h2]
theorem eqvPdL (a b : List Pr) : PyData.eqv (.list (a.map pd)) (.list (b.map pd)) = decide (a = b) := eqvPds a b
theorem eqvPdT (a b : List Pr) : PyData.eqv (.tuple (a.map pd)) (.tuple (b.map pd)) = decide (a = b) := eqvPds a b
theorem shPdL (a : List Pr) : SeqAt.shaped (.list (a.map pd)) = true := shaped_of (shLst (n := 2) fun x hx => by
  obtain ⟨p, _, rfl⟩ := List.mem_map.mp hx
  exact shPd 0 p) (by decide)
theorem shPdT (a : List Pr) : SeqAt.shaped (.tuple (a.map pd)) = true := shaped_of (shTup (n := 2) fun x hx => by
  obtain ⟨p, _, rfl⟩ := List.mem_map.mp hx
  exact shPd 0 p) (by decide)
/-- the squares taken out of terms -/
noncomputable def outs (ts : List (Nat × Rat)) : List Pr := ts.map fun t => (((sqd t.1).2 : Int), t.2 * (((sqd t.1).1 : Int) : Rat))
/-- each number has its greatest square -/
theorem so_ex : ∀ d : Nat, 0 < d → ∃ o r, So d o r ∧ 0 < o ∧ 0 < r := by
  intro d
  induction d using Nat.strongRecOn with
  | ind d ih =>
    intro h0
    by_cases hs : Sf d
    · exact ⟨1, d, ⟨by simp, hs⟩, by decide, h0⟩
    · obtain ⟨k, hk⟩ := Classical.not_forall.mp hs
      obtain ⟨k2, hk⟩ := Classical.not_imp.mp hk
      have hk := Classical.not_not.mp hk
      obtain ⟨c, hc⟩ := hk
      have c0 : 0 < c := Nat.pos_of_ne_zero fun z => by rw [z] at hc; simp at hc; omega
      have k4 : 4 ≤ k * k := Nat.mul_le_mul k2 k2
      have lt : c < d := by
        rw [hc]
        have : 4 * c ≤ k * k * c := Nat.mul_le_mul_right _ k4
        omega
      obtain ⟨o, r, ⟨e, s⟩, o0, r0⟩ := ih c lt c0
      refine ⟨k * o, r, ⟨?_, s⟩, Nat.mul_pos (by omega) o0, r0⟩
      rw [hc, ← e]
      simp only [Nat.mul_assoc, Nat.mul_comm, Nat.mul_left_comm]
theorem sqd_so {d : Nat} (h : 0 < d) : So d (sqd d).1 (sqd d).2 ∧ 0 < (sqd d).1 ∧ 0 < (sqd d).2 := by
  obtain ⟨o, r, so, o0, r0⟩ := so_ex d h
  rw [sqd_of h so]
  exact ⟨so, o0, r0⟩
theorem sqd_le {d : Nat} (h : 0 < d) : (sqd d).1 ≤ d ∧ (sqd d).2 ≤ d := by
  obtain ⟨so, o0, r0⟩ := sqd_so h
  have e := so.1
  constructor
  · conv => rhs; rw [← e, Nat.mul_assoc]
    exact Nat.le_mul_of_pos_right _ (Nat.mul_pos o0 r0)
  · conv => rhs; rw [← e]
    exact Nat.le_mul_of_pos_left _ (Nat.mul_pos o0 o0)
theorem outs_sz {s : Nat} {t : Nat × Rat} (hd : 0 < t.1 ∧ t.1 < 2 ^ 60) (h : Sz s t.2) : Sz (s + 61) (t.2 * (((sqd t.1).1 : Int) : Rat)) := by
  refine sz_mulA h ⟨?_, ?_⟩
  · show Bt 61 ((sqd t.1).1 : Int)
    unfold Bt
    have := (sqd_le hd.1).1
    omega
  · show Bt 61 (1 : Int)
    exact bt_c (by decide)
theorem sz_nil {a : Nat} (h : 1 ≤ a) : Sz a 0 := ⟨Bt.mono (a := 1) (bt_c (by decide)) h, Bt.mono (a := 1) (bt_c (by decide)) h⟩
theorem not_sf {n k : Nat} (h : 2 ≤ k) (d : k * k ∣ n) : ¬ Sf n := fun s => s k h d
theorem ris_dup : ∀ (a : List Int) (x : Int), ris (a ++ [x, x]) = false
  | [], x => by
    show (decide (x < x) && true) = false
    rw [decide_eq_false (by omega)]; rfl
  | [b], x => by
    show (decide (b < x) && (decide (x < x) && true)) = false
    rw [decide_eq_false (show ¬ x < x by omega)]; simp
  | b :: c :: a, x => by
    have ih := ris_dup (c :: a) x
    show (decide (b < c) && ris (c :: a ++ [x, x])) = false
    rw [ih, Bool.and_false]
def tn (t : Nat × Rat) : D := .tuple [.int (t.1 : Nat), fr t.2]
def ip (t : Nat × Rat) : Pr := ((t.1 : Int), t.2)
theorem tn_pd (ts : List (Nat × Rat)) : ts.map tn = (ts.map ip).map pd := by rw [List.map_map]; rfl
theorem outs_rev (ts : List (Nat × Rat)) : outs ts.reverse = (outs ts).reverse := by unfold outs; rw [List.map_reverse]
theorem rs_rev (ts : List (Nat × Rat)) : rs (outs ts.reverse) = rs (outs ts) := rs_eq fun k => by rw [outs_rev]; exact cq_perm (List.reverse_perm _) k
/-- a told root sum's own pairs -/
theorem rs_again {f : List Pr} (h : Rs f) (hp : ∀ a ∈ f, 0 < a.1 ∧ Sf a.1.toNat) : f.map pd = (f.map fun a => (a.1.toNat, a.2)).map tn ∧ rs (outs (f.map fun a => (a.1.toNat, a.2))) = f := by
  have e1 : outs (f.map fun a => (a.1.toNat, a.2)) = f := by
    unfold outs
    rw [List.map_map]
    conv => rhs; rw [← List.map_id f]
    refine List.map_congr_left fun a ha => ?_
    obtain ⟨a0, as⟩ := hp a ha
    have : sqd a.1.toNat = (1, a.1.toNat) := sqd_of (by omega) ⟨by omega, as⟩
    show (((sqd a.1.toNat).2 : Int), a.2 * (((sqd a.1.toNat).1 : Int) : Rat)) = a
    rw [this]
    refine Prod.ext (by show ((a.1.toNat : Nat) : Int) = a.1; omega) ?_
    show a.2 * (((1 : Nat) : Int) : Rat) = a.2
    have : (((1 : Nat) : Int) : Rat) = 1 := rfl
    rw [this]; grind
  refine ⟨?_, by rw [e1]; exact h.rs⟩
  rw [List.map_map]
  refine List.map_congr_left fun a ha => ?_
  obtain ⟨a0, as⟩ := hp a ha
  show PyData.tuple [.int a.1, fr a.2] = .tuple [.int ((a.1.toNat : Nat) : Int), fr a.2]
  rw [show ((a.1.toNat : Nat) : Int) = a.1 by omega]
theorem outs_key {ts : List (Nat × Rat)} (hd : ∀ t ∈ ts, 0 < t.1) {a : Pr} (h : a ∈ rs (outs ts)) : 0 < a.1 ∧ Sf a.1.toNat ∧ ∃ t ∈ ts, a.1 ≤ (t.1 : Nat) := by
  have := rs_mem h
  unfold outs at this
  rw [List.map_map] at this
  obtain ⟨t, ht, e⟩ := List.mem_map.mp this
  have e : (((sqd t.1).2 : Nat) : Int) = a.1 := e
  obtain ⟨so, o0, r0⟩ := sqd_so (hd t ht)
  have le := (sqd_le (hd t ht)).2
  refine ⟨by omega, ?_, t, ht, by omega⟩
  rw [← e, Int.toNat_natCast]
  exact so.2
theorem ix_in {Q : D → Prop} {q : Tok Q} {xs : List D} {i : Int} (h0 : 0 ≤ i) (h1 : i < (xs.length : Int)) (h : ∀ v ∈ xs, Q v) : ixF Q q (.list xs) (.int i) := by
  obtain ⟨n, rfl⟩ : ∃ n : Nat, i = n := ⟨i.toNat, by omega⟩
  have hn : n < xs.length := by omega
  exact ix_lst (atI_nat (v := xs[n]) (by simp [hn])) (h _ (List.getElem_mem hn))
theorem md_lt {a b : Int} (h : 0 < b) : 0 ≤ a.fmod b ∧ a.fmod b < b := by
  rw [fmod_pos h]
  exact ⟨Int.emod_nonneg _ (by omega), Int.emod_lt_of_pos _ h⟩
end Rc

/-! The ring laws of root sums: told through the linear readings of a list of pairs. -/
namespace Rc
open PySem
def lin (φ : Int → Rat) : List Pr → Rat
  | [] => 0
  | t :: r => t.2 * φ t.1 + lin φ r
theorem lin_app (φ : Int → Rat) (a b : List Pr) : lin φ (a ++ b) = lin φ a + lin φ b := by
  induction a with
  | nil => show lin φ b = 0 + lin φ b; grind
  | cons t r ih => show t.2 * φ t.1 + lin φ (r ++ b) = t.2 * φ t.1 + lin φ r + lin φ b; rw [ih]; grind
theorem lin_congr {φ ψ : Int → Rat} (h : ∀ i, φ i = ψ i) (a : List Pr) : lin φ a = lin ψ a := by
  induction a with
  | nil => rfl
  | cons t r ih => show t.2 * φ t.1 + lin φ r = t.2 * ψ t.1 + lin ψ r; rw [h, ih]
def ng (b : List Pr) : List Pr := b.map fun p => (p.1, -p.2)
theorem ng_len (b : List Pr) : (ng b).length = b.length := List.length_map ..
theorem cq_ng (b : List Pr) (k : Int) : cq (ng b) k = - cq b k := by
  induction b with
  | nil => show (0 : Rat) = -0; grind
  | cons t r ih =>
    show (if t.1 = k then -t.2 else 0) + cq (ng r) k = -((if t.1 = k then t.2 else 0) + cq r k)
    rw [ih]
    split <;> grind
theorem lin_ng (φ : Int → Rat) (b : List Pr) : lin φ (ng b) = - lin φ b := by
  induction b with
  | nil => show (0 : Rat) = -0; grind
  | cons t r ih =>
    show -t.2 * φ t.1 + lin φ (ng r) = -(t.2 * φ t.1 + lin φ r)
    rw [ih]
    grind
/-- one key's share taken out -/
theorem lin_out (φ : Int → Rat) (i : Int) (l : List Pr) : lin φ l = cq l i * φ i + lin φ (l.filter fun p => decide (p.1 ≠ i)) := by
  induction l with
  | nil => show (0 : Rat) = 0 * φ i + 0; grind
  | cons t r ih =>
    show t.2 * φ t.1 + lin φ r = ((if t.1 = i then t.2 else 0) + cq r i) * φ i + _
    rw [List.filter_cons]
    by_cases e : t.1 = i
    · rw [if_pos e, if_neg (by simp [e]), ih, e]; grind
    · rw [if_neg e, if_pos (by simp [e])]
      show _ = _ + (t.2 * φ t.1 + lin φ _)
      rw [ih]; grind
theorem cq_out (i k : Int) (l : List Pr) : cq (l.filter fun p => decide (p.1 ≠ i)) k = if k = i then 0 else cq l k := by
  induction l with
  | nil => show (0 : Rat) = if k = i then 0 else 0; split <;> rfl
  | cons t r ih =>
    rw [List.filter_cons]
    by_cases e : t.1 = i
    · rw [if_neg (by simp [e]), ih]
      show _ = if k = i then 0 else (if t.1 = k then t.2 else 0) + cq r k
      by_cases z : k = i
      · rw [if_pos z, if_pos z]
      · rw [if_neg z, if_neg z, if_neg (by omega)]; grind
    · rw [if_pos (by simp [e])]
      show (if t.1 = k then t.2 else 0) + cq _ k = if k = i then 0 else (if t.1 = k then t.2 else 0) + cq r k
      rw [ih]
      by_cases z : k = i
      · rw [if_pos z, if_pos z, if_neg (by omega)]; grind
      · rw [if_neg z, if_neg z]
theorem lin_zero (φ : Int → Rat) : ∀ (n : Nat) (l : List Pr), l.length ≤ n → (∀ k, cq l k = 0) → lin φ l = 0
  | _, [], _, _ => rfl
  | 0, _ :: _, h, _ => absurd h (by simp)
  | n + 1, t :: r, h, hz => by
    rw [lin_out φ t.1, hz, lin_zero φ n _ ?_ fun k => by rw [cq_out, hz]; split <;> rfl]
    · grind
    · rw [List.filter_cons, if_neg (by simp)]
      exact Nat.le_trans (List.length_filter_le _ _) (by simpa using h)
theorem lin_eq (φ : Int → Rat) {a b : List Pr} (h : ∀ k, cq a k = cq b k) : lin φ a = lin φ b := by
  have := lin_zero φ (a ++ ng b).length (a ++ ng b) (Nat.le_refl _) fun k => by rw [cq_app, cq_ng, h]; grind
  rw [lin_app, lin_ng] at this
  grind
theorem cq_rs (ts : List Pr) (k : Int) : cq (rs ts) k = cq ts k := by rw [(rs_ok ts).cq, rs_qt]
/-! ### the product -/
def gg (d e : Int) : Int := (Int.gcd d e : Nat)
def pk (d e : Int) : Int := d.fdiv (gg d e) * e.fdiv (gg d e)
def tm (a b : List Pr) : List Pr := a.flatMap fun p => b.map fun q => (pk p.1 q.1, p.2 * q.2 * (gg p.1 q.1 : Rat))
theorem cq_tm1 (p : Pr) (b : List Pr) (k : Int) : cq (b.map fun q => (pk p.1 q.1, p.2 * q.2 * (gg p.1 q.1 : Rat))) k = p.2 * lin (fun e => if pk p.1 e = k then (gg p.1 e : Rat) else 0) b := by
  induction b with
  | nil => show (0 : Rat) = p.2 * 0; grind
  | cons q r ih =>
    show (if pk p.1 q.1 = k then p.2 * q.2 * (gg p.1 q.1 : Rat) else 0) + cq _ k = p.2 * (q.2 * (if pk p.1 q.1 = k then (gg p.1 q.1 : Rat) else 0) + lin _ r)
    rw [ih]
    split <;> grind
theorem cq_tm (a b : List Pr) (k : Int) : cq (tm a b) k = lin (fun d => lin (fun e => if pk d e = k then (gg d e : Rat) else 0) b) a := by
  induction a with
  | nil => rfl
  | cons p r ih =>
    show cq (_ ++ tm r b) k = p.2 * _ + lin _ r
    rw [cq_app, ih, cq_tm1]
theorem cq_tm_eq {a b c d : List Pr} (h1 : ∀ k, cq a k = cq c k) (h2 : ∀ k, cq b k = cq d k) (k : Int) : cq (tm a b) k = cq (tm c d) k := by
  rw [cq_tm, cq_tm, lin_eq _ h1]
  exact lin_congr (fun i => lin_eq _ h2) c
/-- many added, then multiplied -/
theorem st_add (a b m : List Pr) : rs (rs (tm a m) ++ rs (tm b m)) = rs (tm (rs (a ++ b)) m) := rs_eq fun k => by
  rw [cq_app, cq_rs, cq_rs, cq_tm_eq (cq_rs (a ++ b)) (fun _ => rfl), cq_tm, cq_tm, cq_tm, lin_app]
theorem sm_self (a : List Pr) : rs (a ++ ng a) = [] := by
  rw [show ([] : List Pr) = rs [] from (List.length_eq_zero_iff.mp (by have := rs_len []; simpa using this)).symm]
  refine rs_eq fun k => ?_
  rw [cq_app, cq_ng]
  show _ = (0 : Rat)
  grind
theorem sp_comm (a b : List Pr) : rs (a ++ b) = rs (b ++ a) := rs_eq fun k => by rw [cq_app, cq_app]; grind
theorem sm_back {a : List Pr} (h : Rs a) (b : List Pr) : rs (rs (a ++ b) ++ ng b) = a := by
  rw [← h.rs]
  refine Eq.trans (rs_eq fun k => ?_) (rs_eq fun k => rfl)
  rw [cq_app, cq_rs, cq_app, cq_ng, h.rs]; grind
/-! ### keys -/
theorem Sf.dvd {n d : Nat} (h : Sf n) (hd : d ∣ n) : Sf d := fun k k2 kd => h k k2 (Nat.dvd_trans kd hd)
theorem sf_mul {a b : Nat} (h : Nat.Coprime a b) (ha : Sf a) (hb : Sf b) : Sf (a * b) := by
  intro k k2 kd
  have k0 : 0 < k := by omega
  have one : ∀ {a b : Nat}, Nat.Coprime a b → Sf a → k * k ∣ a * b → Nat.Coprime k a := fun {a b} h ha kd => by
    have uk : Nat.gcd k a ∣ k := Nat.gcd_dvd_left ..
    have ua : Nat.gcd k a ∣ a := Nat.gcd_dvd_right ..
    have d1 : Nat.gcd k a * Nat.gcd k a ∣ a * b := Nat.dvd_trans (Nat.mul_dvd_mul uk uk) kd
    have cu : Nat.Coprime (Nat.gcd k a) b := Nat.Coprime.coprime_dvd_left ua h
    have d2 : Nat.gcd k a * Nat.gcd k a ∣ a := (Nat.Coprime.mul_left cu cu).dvd_of_dvd_mul_right d1
    have g0 : 0 < Nat.gcd k a := Nat.gcd_pos_of_pos_left _ k0
    have : ¬ 2 ≤ Nat.gcd k a := fun z => ha _ z d2
    show Nat.gcd k a = 1
    omega
  have c1 := one h ha kd
  have c2 := one h.symm hb (by rw [Nat.mul_comm b a]; exact kd)
  have c3 : Nat.Coprime k (a * b) := Nat.Coprime.mul_right c1 c2
  have d3 : k ∣ a * b := Nat.dvd_trans (Nat.dvd_mul_right k k) kd
  have : Nat.gcd k (a * b) = k := Nat.gcd_eq_left d3
  rw [show Nat.gcd k (a * b) = 1 from c3] at this
  omega
theorem pk_ok {d e : Int} (d0 : 0 < d) (e0 : 0 < e) (hd : Sf d.toNat) (he : Sf e.toNat) : 0 < pk d e ∧ pk d e ≤ d * e ∧ Sf (pk d e).toNat := by
  obtain ⟨n, rfl⟩ : ∃ n : Nat, d = n := ⟨d.toNat, by omega⟩
  obtain ⟨m, rfl⟩ : ∃ m : Nat, e = m := ⟨e.toNat, by omega⟩
  rw [Int.toNat_natCast] at hd he
  have n0 : 0 < n := by omega
  have m0 : 0 < m := by omega
  have g0 : 0 < Nat.gcd n m := Nat.gcd_pos_of_pos_left _ n0
  have ep : pk (n : Int) (m : Int) = ((n / Nat.gcd n m * (m / Nat.gcd n m) : Nat) : Int) := by
    unfold pk gg
    rw [show Int.gcd (n : Int) (m : Int) = Nat.gcd n m from rfl, fdiv_nat, fdiv_nat]
    push_cast; rfl
  have dn : n / Nat.gcd n m ∣ n := Nat.div_dvd_of_dvd (Nat.gcd_dvd_left ..)
  have dm : m / Nat.gcd n m ∣ m := Nat.div_dvd_of_dvd (Nat.gcd_dvd_right ..)
  have p1 : 0 < n / Nat.gcd n m := Nat.div_pos (Nat.le_of_dvd n0 (Nat.gcd_dvd_left ..)) g0
  have p2 : 0 < m / Nat.gcd n m := Nat.div_pos (Nat.le_of_dvd m0 (Nat.gcd_dvd_right ..)) g0
  rw [ep]
  refine ⟨by have := Nat.mul_pos p1 p2; omega, ?_, ?_⟩
  · have : n / Nat.gcd n m * (m / Nat.gcd n m) ≤ n * m := Nat.mul_le_mul (Nat.div_le_self ..) (Nat.div_le_self ..)
    have e : (n : Int) * m = ((n * m : Nat) : Int) := by push_cast; rfl
    rw [e]; omega
  · rw [Int.toNat_natCast]
    exact sf_mul (Nat.coprime_div_gcd_div_gcd g0) (hd.dvd dn) (he.dvd dm)
theorem sf_of {n : Nat} (B : Nat) (hb : n < B * B) (h : (List.range B).all (fun k => decide (k < 2 ∨ n % (k * k) ≠ 0)) = true) (n0 : 0 < n) : Sf n := by
  intro k k2 kd
  have kb : k < B := by
    rcases Nat.lt_or_ge k B with z | z
    · exact z
    · have : B * B ≤ k * k := Nat.mul_le_mul z z
      have := Nat.le_of_dvd n0 kd
      omega
  have := of_decide_eq_true (List.all_eq_true.mp h k (List.mem_range.mpr kb))
  rcases this with z | z
  · omega
  · exact z (Nat.mod_eq_zero_of_dvd kd)
/-- a squarefree number's own pair -/
theorem sqd_sf {n : Nat} (n0 : 0 < n) (h : Sf n) : sqd n = (1, n) := sqd_of n0 ⟨by rw [Nat.one_mul], h⟩
/-! ### what a list of pairs may be -/
structure Kd (s n : Nat) (K : Int) (a : List Pr) : Prop where
  key : ∀ p ∈ a, 0 < p.1 ∧ Sf p.1.toNat
  top : ∀ p ∈ a, p.1 ≤ K
  sz : ∀ p ∈ a, Sz s p.2
  len : a.length ≤ n
theorem sz_cq {s : Nat} {ps : List Pr} (h : ∀ p ∈ ps, Sz s p.2) (i : Int) : Sz ((s + 1) * ps.length + 1) (cq ps i) := by
  induction ps with
  | nil => exact sz_nil (by omega)
  | cons t r ih =>
    have ih := ih fun p hp => h p (List.mem_cons_of_mem _ hp)
    show Sz _ ((if t.1 = i then t.2 else 0) + cq r i)
    have ht := h t (List.mem_cons_self ..)
    have m : (s + 1) * (t :: r).length = (s + 1) * r.length + (s + 1) := Nat.mul_succ ..
    by_cases z : t.1 = i
    · rw [if_pos z]
      exact (sz_addA ht ih).mono (by omega)
    · rw [if_neg z, Rat.zero_add]
      exact ih.mono (by omega)
theorem Kd.rs {s n : Nat} {K : Int} {a : List Pr} (h : Kd s n K a) : Kd ((s + 1) * n + 1) n K (rs a) where
  key := fun p hp => by
    obtain ⟨q, hq, e⟩ := List.mem_map.mp (rs_mem hp)
    rw [← e]; exact h.key q hq
  top := fun p hp => by
    obtain ⟨q, hq, e⟩ := List.mem_map.mp (rs_mem hp)
    rw [← e]; exact h.top q hq
  sz := fun p hp => by
    obtain ⟨i, _, rfl⟩ := List.mem_map.mp hp
    exact (sz_cq h.sz i).mono (by have := Nat.mul_le_mul_left (s + 1) h.len; omega)
  len := Nat.le_trans (rs_len a) h.len
theorem Kd.ng {s n : Nat} {K : Int} {a : List Pr} (h : Kd s n K a) : Kd s n K (ng a) where
  key := fun p hp => by obtain ⟨q, hq, rfl⟩ := List.mem_map.mp hp; exact h.key q hq
  top := fun p hp => by obtain ⟨q, hq, rfl⟩ := List.mem_map.mp hp; exact h.top q hq
  sz := fun p hp => by obtain ⟨q, hq, rfl⟩ := List.mem_map.mp hp; exact ⟨by show Bt s (-q.2).num; rw [Rat.neg_num]; have := (h.sz q hq).1; unfold Bt at this ⊢; omega, by show Bt s ((-q.2).den : Int); rw [Rat.neg_den]; exact (h.sz q hq).2⟩
  len := by rw [ng_len]; exact h.len
theorem Kd.mono {s n s' n' : Nat} {K K' : Int} {a : List Pr} (h : Kd s n K a) (hs : s ≤ s') (hn : n ≤ n') (hk : K ≤ K') : Kd s' n' K' a := ⟨h.key, fun p hp => Int.le_trans (h.top p hp) hk, fun p hp => (h.sz p hp).mono hs, Nat.le_trans h.len hn⟩
theorem Kd.app {s n m : Nat} {K : Int} {a b : List Pr} (h : Kd s n K a) (g : Kd s m K b) : Kd s (n + m) K (a ++ b) where
  key := fun p hp => by rcases List.mem_append.mp hp with z | z; exact h.key p z; exact g.key p z
  top := fun p hp => by rcases List.mem_append.mp hp with z | z; exact h.top p z; exact g.top p z
  sz := fun p hp => by rcases List.mem_append.mp hp with z | z; exact h.sz p z; exact g.sz p z
  len := by rw [List.length_append]; have := h.len; have := g.len; omega
theorem tm_mem {a b : List Pr} {p : Pr} (h : p ∈ tm a b) : ∃ x ∈ a, ∃ y ∈ b, p = (pk x.1 y.1, x.2 * y.2 * (gg x.1 y.1 : Rat)) := by
  obtain ⟨x, hx, h⟩ := List.mem_flatMap.mp h
  obtain ⟨y, hy, rfl⟩ := List.mem_map.mp h
  exact ⟨x, hx, y, hy, rfl⟩
theorem tm_len (a b : List Pr) : (tm a b).length = a.length * b.length := by
  induction a with
  | nil => show 0 = 0 * _; rw [Nat.zero_mul]
  | cons x r ih =>
    show (_ ++ tm r b).length = (r.length + 1) * b.length
    rw [List.length_append, ih, List.length_map, Nat.succ_mul]; omega
theorem sz_gg {d e : Int} {K : Int} (d0 : 0 < d) (dk : d ≤ K) (hk : K ≤ 1000000000000) : Sz 41 (gg d e : Rat) := by
  have : Int.gcd d e ≤ d.natAbs := Nat.le_of_dvd (by omega) (Nat.gcd_dvd_left ..)
  refine ⟨?_, ?_⟩
  · show Bt 41 (gg d e)
    unfold gg Bt; omega
  · show Bt 41 (1 : Int)
    exact bt_c (by decide)
theorem Kd.tm {s n m : Nat} {K : Int} {a b : List Pr} (h : Kd s n K a) (g : Kd s m K b) (K0 : 0 ≤ K) (hk : K ≤ 1000000000000) : Kd (2 * s + 41) (n * m) (K * K) (tm a b) where
  key := fun p hp => by
    obtain ⟨x, hx, y, hy, rfl⟩ := tm_mem hp
    have := pk_ok (h.key x hx).1 (g.key y hy).1 (h.key x hx).2 (g.key y hy).2
    exact ⟨this.1, this.2.2⟩
  top := fun p hp => by
    obtain ⟨x, hx, y, hy, rfl⟩ := tm_mem hp
    have := pk_ok (h.key x hx).1 (g.key y hy).1 (h.key x hx).2 (g.key y hy).2
    exact Int.le_trans this.2.1 (Int.mul_le_mul (h.top x hx) (g.top y hy) (by have := (g.key y hy).1; omega) K0)
  sz := fun p hp => by
    obtain ⟨x, hx, y, hy, rfl⟩ := tm_mem hp
    exact (sz_mulA (sz_mulA (h.sz x hx) (g.sz y hy)) (sz_gg (h.key x hx).1 (h.top x hx) hk)).mono (by omega)
  len := by rw [tm_len]; exact Nat.mul_le_mul h.len g.len
theorem gok_three {K : Int} {a : List Pr} (h : ∀ p ∈ a, p.1 ≤ K) (hk : K ≤ 1000000000000) : gok a = decide ((a.filter fun p => decide (1 < p.1)).length ≤ 3) := by
  unfold gok
  rw [show (a.all fun p => decide (p.1 ≤ 1000000000000)) = true from List.all_eq_true.mpr fun p hp => decide_eq_true (Int.le_trans (h p hp) hk), Bool.and_true]
/-- (√m + t√2)(√m - t√2) -/
theorem tm_like (m : Int) (t : Rat) (hm : gg m m = m) (h1 : pk m m = 1) : rs (tm (rs [(m, 1), (2, t)]) (rs [(m, 1), (2, -t)])) = rs [(1, (m : Rat) - t * t * 2)] := by
  have e : gg m 2 = gg 2 m := by unfold gg; rw [Int.gcd_comm]
  have e2 : pk m 2 = pk 2 m := by unfold pk; rw [e, Int.mul_comm]
  refine rs_eq fun k => ?_
  rw [cq_tm_eq (cq_rs _) (cq_rs _)]
  show (if pk m m = k then (1 : Rat) * 1 * (gg m m : Rat) else 0) + ((if pk m 2 = k then 1 * -t * (gg m 2 : Rat) else 0) + ((if pk 2 m = k then t * 1 * (gg 2 m : Rat) else 0) + ((if pk 2 2 = k then t * -t * (gg 2 2 : Rat) else 0) + 0))) = (if 1 = k then (m : Rat) - t * t * 2 else 0) + 0
  rw [hm, h1, e, e2, show pk 2 2 = 1 from by decide, show ((gg 2 2 : Int) : Rat) = 2 from by decide +kernel]
  split <;> split <;> grind
end Rc

namespace K65
open PySem Rc
local macro_rules | `(tactic| walk_at "s") => `(tactic| simp only [↓wE.eq_1, ↓wE.eq_2, ↓wE.eq_3, ↓wE.eq_4, ↓wE.eq_5, ↓wE.eq_6, ↓wE.eq_7, ↓wE.eq_8, ↓wE.eq_9, ↓wE.eq_10, ↓wE.eq_11, ↓wE.eq_12, ↓wE.eq_13, ↓wE.eq_14, ↓wE.eq_15, ↓wE.eq_16, ↓wE.eq_18, ↓wE.eq_19, ↓wE.eq_22, ↓wE.eq_23, ↓wE.eq_24, ↓wE.eq_25, ↓wE.eq_26, ↓wE.eq_27, ↓wE.eq_28, ↓wE.eq_29, ↓wE.eq_30, ↓wE.eq_31, ↓wE.eq_32, ↓wE.eq_34, ↓wE.eq_35, ↓wE.eq_36, ↓wE.eq_37, ↓wE.eq_38, ↓wE.eq_39, ↓wE.eq_40, ↓wE.eq_41, ↓wE_call, ↓wE_callP, ↓wE_lc, ↓wE_lcg, ↓wE_isv, ↓wE_ix, ↓ix_fr0, ↓ix_fr1, ↓cmp_fr, ↓cmp_frn, ↓cmp_fr0, ↓cmp_tz, ↓cmp_tzn, ↓cmp_tz0, ↓cmp_tzn0, ↓bi_list_tz, ↓add_tz,   ↓len_tz, ↓len_fr, ↓isT_fr, items_tz, ↓cmp_bb, ↓cmp_bbn, ↓wS_whl, ↓wS_for, ↓wS_forP, ↓wS_asg, ↓wS_par, ↓wS_setIx, ↓wS_app, ↓tgW_one, ↓tgW_tup, pvF_eq, ↓wS.eq_1, ↓wS.eq_2, ↓wS.eq_3, ↓wS.eq_5, ↓wS.eq_7, ↓wS.eq_10, ↓wS.eq_11, ↓wS.eq_12, ↓wS.eq_13, ↓wS.eq_14, ↓wS.eq_15, ↓wS.eq_16, ↓wS.eq_17, ↓wS.eq_20, ↓wS.eq_21, ↓wS.eq_22, ↓wS.eq_23, ↓wS.eq_24, ↓wS.eq_25, ↓wS.eq_26, ↓wS.eq_27, ↓wS.eq_28, ↓wS.eq_29, ↓wS.eq_30, ↓augW.eq_1, ↓augW.eq_2, ↓augW.eq_3, ↓augW.eq_4, ↓inW.eq_1, ↓inW.eq_2, ↓inW.eq_3, ↓inW.eq_4, ↓zipW.eq_1, ↓zipW.eq_2, ↓cntW.eq_1, ↓dspW.eq_1, ↓idxW.eq_1, ↓opW.eq_1, ↓opW.eq_2, ↓opW.eq_3, ↓opW.eq_4, ↓opW.eq_5, ↓opW.eq_6, ↓opW.eq_7, ↓opW.eq_8, ↓opW.eq_9, ↓opW.eq_10, ↓opW.eq_11, ↓opW.eq_12, ↓opW.eq_13, ↓opW.eq_14, ↓cmpW.eq_1, ↓cmpW.eq_2, ↓cmpW.eq_5, ↓cmpW.eq_6, ↓cmpW.eq_7, ↓cmpW.eq_8, ↓cmpW.eq_9, ↓cmpW.eq_10, ↓cmpW.eq_11, ↓cmpW.eq_12, ↓cmp_ll, ↓cmp_lln, ↓cmp_tt, ↓cmp_ttn, ↓biW.eq_1, ↓biW.eq_2, ↓biW.eq_3, ↓biW.eq_4, ↓biW.eq_5, ↓biW.eq_6, ↓biW.eq_7, ↓biW.eq_8, ↓biW.eq_9, ↓biW.eq_10, ↓biW.eq_11, ↓biW.eq_12, ↓biW.eq_13, ↓biW.eq_14, ↓biW.eq_15, ↓biW.eq_16, ↓biW.eq_17, ↓lenW.eq_1, ↓lenW.eq_2, ↓slW.eq_1, ↓slW.eq_2, ↓revW.eq_1, ↓revW.eq_2, ↓pkW_var, ↓ptW_nil, ↓ptK_i, ↓pkW_cst, ↓pkW_tup, ↓pkW_lst, ↓pkW_bin, ↓pkW_neg, ↓pkW_ix, ↓pkW_sl, ↓pkW_rev, ↓pkW_call, ↓pkW_callP, ↓pkW_bi, ↓pkW_len, ↓pkW_lc, ↓pkW_ite, ↓pkW_gc, ↓pkW_mov, ↓pkW_dsp, ↓pkW_bone, ↓pkW_cmp, ↓pkW_cnt, ↓ptW_cst, ↓ptW_tup, ↓ptW_lst, ↓ptW_bin, ↓ptW_neg, ↓ptW_ix, ↓ptW_sl, ↓ptW_rev, ↓ptW_call, ↓ptW_callP, ↓ptW_bi, ↓ptW_len, ↓ptW_lc, ↓ptW_ite, ↓ptW_gc, ↓ptW_mov, ↓ptW_dsp, ↓ptW_bone, ↓ptW_cmp, ↓ptW_cnt, ↓ptW_var, ↓peek, ↓ownAt, ↓kD.eq_1, ↓kD.eq_2, ↓kM.eq_1, ↓kB.eq_1, ↓kV.eq_1, ↓kV.eq_2, ↓setW, ↓rngW1.eq_1, ↓rngW2.eq_1, ↓rngWd.eq_1, isVar, isNil, isT, gv, pv, setAll, ev0, items.eq_1, items.eq_2, tgs, wipeE, blind_cons, blind_nil, bl1, runB, List.map_cons, List.map_nil, List.replicate, List.cons_append, List.nil_append, if_true, if_false, ite_true, ite_false, reduceCtorEq, Bool.true_and, Bool.and_true, Bool.not_true, Bool.not_false, Bool.false_eq_true, ↓reduceIte, Nat.reduceSub, Nat.reduceAdd, List.length_cons, List.length_nil, decide_eq_true_eq, Bool.not_eq_true', decide_eq_false_iff_not, Bool.and_false, Bool.false_and, true_and, and_true, Nat.sub_self, Nat.succ_eq_add_one, flat, Nat.reduceLeDiff, Int.reduceLE, Int.reduceLT, Int.reduceEq, ne_eq, not_false_eq_true, s10, la_2, la_3, la_4, la_5, la_6, la_7, la_8, la_9, la_10, la_11, la_12, la_13, la_14, la_15, la_16, la_18, la_19, la_20, la_21, la_24, la_25, la_28, la_30, la_35, la_36, la_39, la_40, la_41, la_44, la_45, la_49, la_50, la_52, la_54, la_57, la_63, la_64, la_65, la_72, la_78, la_81, la_90, la_100, la_121, la_123, la_125, la_126, la_144, la_162, la_168, la_176, la_196, la_200, la_216, la_240, la_360, la_369, la_400, la_402, la_441, la_540, la_550, la_900, la_907, la_997, la_1009, la_1100, la_1152, la_1440, la_1764, la_2001, la_2003, la_2200, la_3150, la_4099, la_16807, la_22500, la_24200, la_72600, Nat.reduceLT, ↓ix_t0, ↓ix_t1, ↓ix_t2, ↓ix_t3, ↓ix_t4, ↓ix_t5, ↓ix_t6, ↓ix_l0, ↓ix_l1, ↓ix_l2, ↓ix_l3, ↓ix_l4, ↓ix_l5, ↓ix_l6, ↓add_ttz, ↓isT_tz, ↓sl_tz, isN_non, isN_tup, isN_lst, isN_int, isN_str, isN_bl, isN_fr, isN_tz, ↓hS.eq_1, ↓hS.eq_2, ↓hS.eq_3, ↓hS.eq_4, hE, hB, ↓hide.eq_1, ↓hide.eq_2, isS, Nat.reduceBEq, Bool.or_true, Bool.or_false, Bool.true_or, Bool.false_or, beq_self_eq_true, not_true_eq_false, Int.cast_ofNat_Int, ↓wE_callL, ↓wE_callLP, ↓kR_d, ↓kR_o, ↓kT_twoO, ↓kTP_two, ↓kTP_twoO, ↓pkW_callLP, ↓wE_lemp, ↓wE_lix, ↓wE_lpop0, ↓wE_lcL, ↓wE_lcK, ↓pkW_lcK, ↓kT_two, ↓lentAt, unlend_nil, unlend_cons, ul1_n, ul1_d, ul1_o, ul1_l, ↓wS_lend, ↓wS_lfn, ↓wS_retL, ↓wS_lset, ↓wS_asgN, ↓tgW_nst, noTwo_d, noTwo_o, ↓pkW_callL, ↓pkW_lix, ↓pkW_lemp, ↓pkW_lpop0, ↓pkW_lcL, ↓ptW_callL, ↓ptW_lix, ↓wE_lit, ↓pkW_lit, ↓ptW_lit, ↓cmp_geT, ↓wE_dget, ↓wE_dix, ↓wE_dsrt, ↓wE_dlc, ↓wE_lcD, ↓wE_srt, ↓wS_dnewT, ↓wS_dnewI, ↓wS_dset, ↓dictAt, itemsD_I, itemsD_T, ↓pkW_dget, ↓ptW_dget, ↓pkW_dix, ↓ptW_dix, ↓pkW_dsrt, ↓ptW_dsrt, ↓pkW_dlc, ↓ptW_dlc, ↓pkW_lcD, ↓ptW_lcD, ↓pkW_srt, ↓ptW_srt])
section
variable {k : Nat} {X : Nat → Prop} {Q : Val → Prop}
theorem p_whole {x : D} (h : Q (.d (.bool (isW x)))) : sem fns (k + 1) 0 [x] X Q := by
  refine sem_at rfl ⟨rfl, ?_⟩
  cases x <;> ((simp only [b_is_whole]; walk_at "s"); exact h)

theorem p_divisor {a b : Int} (h : Q (.d (.int (Int.gcd a b)))) : sem fns (k + 1) 1 [.int a, .int b] X Q := by
  refine sem_at rfl ⟨rfl, ?_⟩
  (simp only [b_divisor]; walk_at "s")
  rw [absI, absI]
  refine whl_at (fun m ε => ∃ x y : Nat, ε = [some (.d (.int x)), some (.d (.int y))] ∧ Nat.gcd x y = Int.gcd a b ∧ m = y) b.natAbs ⟨_, _, rfl, rfl, rfl⟩ ?_
  rintro m ε1 ⟨x, y, rfl, hg, rfl⟩
  (simp only [c_divisor_1, b_divisor_2, b_divisor_3]; walk_at "s")
  split
  · rename_i hp
    refine ⟨by omega, x % m, Nat.mod_lt _ (by omega), _, _, by rw [fmod_nat], ?_, rfl⟩
    rw [← hg, Nat.gcd_comm m, ← Nat.gcd_rec, Nat.gcd_comm]
  · rename_i hp
    have e : m = 0 := by omega
    subst e
    rw [Nat.gcd_zero_right] at hg
    rw [hg]
    exact h

theorem p_is_fraction {d : D} (h : Q (.d (.bool (fracV d)))) : sem fns (k + 2) 2 [d] X Q := by
  refine sem_at rfl ⟨rfl, ?_⟩
  cases d with
  | tuple xs =>
    (simp only [b_is_fraction]; walk_at "s")
    by_cases hl : xs.length = 2
    · obtain ⟨x, y, rfl⟩ : ∃ x y, xs = [x, y] := by
        match xs, hl with
        | [x, y], _ => exact ⟨x, y, rfl⟩
      walk_at "s"
      refine p_whole ?_
      cases hx : isW x with
      | false =>
        rw [fracV_l hx] at h
        walk_at "s"
        exact h
      | true =>
        cases x with
        | int i =>
          walk_at "s"
          refine p_whole ?_
          cases hy : isW y with
          | false =>
            rw [fracV_r hy] at h
            walk_at "s"
            exact h
          | true =>
            cases y with
            | int j =>
              walk_at "s"
              have h' : Q (.d (.bool (decide (0 < j) && decide (Int.gcd i j = 1)))) := h
              split
              · rename_i hj
                refine p_divisor ?_
                walk_at "s"
                have e : decide ((Int.gcd i j : Int) = 1) = decide (Int.gcd i j = 1) := by
                  by_cases z : Int.gcd i j = 1
                  · simp [z]
                  · rw [decide_eq_false z, decide_eq_false (by omega)]
                rw [e]
                simpa [hj] using h'
              · rename_i hj
                simpa [hj] using h'
            | _ => cases hy
        | _ => cases hx
    · rw [fracV_len hl] at h
      rw [if_pos (by omega)]
      exact h
  | _ =>
    (simp only [b_is_fraction]; walk_at "s")
    exact h

theorem p_fraction0 {t : Int} (h : X 1) : sem fns (k + 2) 3 [.int t, .int 0] X Q := by
  refine sem_at rfl ⟨rfl, ?_⟩
  (simp only [b_fraction]; walk_at "s")
  exact h
theorem p_fraction {t b : Int} (hb : b ≠ 0) (h : Q (.d (fr (Rat.divInt t b)))) : sem fns (k + 2) 3 [.int t, .int b] X Q := by
  refine sem_at rfl ⟨rfl, ?_⟩
  (simp only [b_fraction]; walk_at "s")
  rw [if_neg hb]
  refine p_divisor ?_
  walk_at "s"
  have g0 := gsg0 (t := t) hb
  have e1 := fr_num (t := t) hb
  have e2 := fr_den (t := t) hb
  unfold gsg at g0 e1 e2
  split
  · rename_i hn
    rw [if_pos hn] at g0 e1 e2
    (simp only [b_fraction_1]; walk_at "s")
    refine ⟨g0, g0, ?_⟩
    rw [e1, e2]
    exact h
  · rename_i hn
    rw [if_neg hn] at g0 e1 e2
    (simp only [b_fraction_1]; walk_at "s")
    refine ⟨g0, g0, ?_⟩
    rw [e1, e2]
    exact h

theorem p_plus {a : Nat} {p q : Rat} (hp : Sz a p) (hq : Sz a q) (ha : a ≤ 60000000) (h : Q (.d (fr (p + q)))) : sem fns (k + 3) 4 [fr p, fr q] X Q := by
  refine sem_at rfl ⟨rfl, ?_⟩
  (simp only [b_plus]; walk_at "s")
  refine ⟨mulOk_of hp.1 hq.2 (by omega), mulOk_of hq.1 hp.2 (by omega), mulOk_of hp.2 hq.2 (by omega), ?_⟩
  refine p_fraction (mul_den0 p q) ?_
  rw [frac_add]
  exact h

theorem p_times {a : Nat} {p q : Rat} (hp : Sz a p) (hq : Sz a q) (ha : a ≤ 60000000) (h : Q (.d (fr (p * q)))) : sem fns (k + 3) 5 [fr p, fr q] X Q := by
  refine sem_at rfl ⟨rfl, ?_⟩
  (simp only [b_times]; walk_at "s")
  refine ⟨mulOk_of hp.1 hq.1 (by omega), mulOk_of hp.2 hq.2 (by omega), ?_⟩
  refine p_fraction (mul_den0 p q) ?_
  rw [frac_mul]
  exact h

theorem p_square_out {d : Nat} (h0 : 0 < d) (hb : d < 2 ^ 60) (h : ∀ o r : Nat, So d o r → 0 < r → 0 < o → Q (.d (.tuple [.int o, .int r]))) : sem fns (k + 1) 6 [.int d] X Q := by
  refine sem_at rfl ⟨rfl, ?_⟩
  (simp only [b_square_out]; walk_at "s")
  refine whl_at' (fun m ε => ∃ o r s : Nat, ε = [some (.d (.int d)), some (.d (.int o)), some (.d (.int r)), some (.d (.int s))] ∧ o * o * r = d ∧ 0 < r ∧ 2 ≤ s ∧ s ≤ d + 2 ∧ (∀ k, 2 ≤ k → k < s → ¬ k * k ∣ r) ∧ m = r + (d + 2 - s)) _ ⟨1, d, 2, rfl, by simp, h0, by omega, by omega, (fun k h1 h2 => by omega), rfl⟩ ?_
  rintro m ε1 ⟨o, r, s, rfl, e, r0, s2, sd, hs, rfl⟩
  have o0 : 0 < o := Nat.pos_of_ne_zero fun z => by rw [z] at e; simp at e; omega
  have rd : r ≤ d := by
    rw [← e]
    exact Nat.le_mul_of_pos_left _ (Nat.mul_pos o0 o0)
  have od : o ≤ d := by
    rw [← e]
    have : o * 1 ≤ o * (o * r) := Nat.mul_le_mul_left _ (Nat.mul_pos o0 r0)
    rw [Nat.mul_assoc]; omega
  have bs : Bt 61 (s : Int) := by unfold Bt; omega
  have bo : Bt 61 (o : Int) := by unfold Bt; omega
  (simp only [c_square_out_1]; walk_at "s")
  refine ⟨mulOk_of bs bs (by decide), ?_⟩
  split
  · rename_i hle
    have hle : s * s ≤ r := by exact_mod_cast hle
    have s0 : (s : Int) * s ≠ 0 := Int.mul_ne_zero (by omega) (by omega)
    (simp only [b_square_out_2]; walk_at "s")
    refine ⟨mulOk_of bs bs (by decide), s0, ?_⟩
    have ef : (r : Int).fmod ((s : Int) * s) = ((r % (s * s) : Nat) : Int) := by
      rw [show (s : Int) * s = ((s * s : Nat) : Int) by push_cast; rfl, fmod_nat]
    rw [ef]
    split
    · rename_i hz
      have hz : r % (s * s) = 0 := by omega
      have dv : s * s ∣ r := Nat.dvd_of_mod_eq_zero hz
      obtain ⟨c, hc⟩ := dv
      have ss4 : 4 ≤ s * s := Nat.mul_le_mul s2 s2
      have ed : r / (s * s) = c := by rw [hc]; exact Nat.mul_div_cancel_left c (by omega)
      have c0 : 0 < c := Nat.pos_of_ne_zero fun z => by rw [z] at hc; omega
      refine ⟨mulOk_of bs bs (by decide), s0, mulOk_of bo bs (by decide), ?_⟩
      have ef2 : (r : Int).fdiv ((s : Int) * s) = ((c : Nat) : Int) := by
        rw [show (s : Int) * s = ((s * s : Nat) : Int) by push_cast; rfl, fdiv_nat, ed]
      rw [ef2]
      have lt : c < r := by
        rw [hc]
        have : 4 * c ≤ s * s * c := Nat.mul_le_mul_right _ ss4
        omega
      refine ⟨c + (d + 2 - s), by omega, o * s, c, s, by push_cast; rfl, ?_, c0, s2, sd, fun k h1 h2 z => hs k h1 h2 (by rw [hc]; exact Nat.dvd_trans z (Nat.dvd_mul_left _ _)), rfl⟩
      rw [← e, hc]
      simp only [Nat.mul_assoc, Nat.mul_comm, Nat.mul_left_comm]
    · rename_i hz
      have hz : ¬ r % (s * s) = 0 := fun z => hz (by omega)
      have sr : s ≤ r := by
        have : s * 1 ≤ s * s := Nat.mul_le_mul_left _ (by omega)
        omega
      refine ⟨r + (d + 2 - (s + 1)), by omega, o, r, s + 1, by push_cast; rfl, e, r0, by omega, by omega, fun k h1 h2 z => ?_, rfl⟩
      by_cases ek : k = s
      · rw [ek] at z
        exact hz (Nat.mod_eq_zero_of_dvd z)
      · exact hs k h1 (by omega) z
  · rename_i hle
    have hle : ¬ s * s ≤ r := fun z => hle (by exact_mod_cast z)
    (simp only [b_square_out_3]; walk_at "s")
    refine h o r ⟨e, fun k h1 z => ?_⟩ r0 o0
    have : k * k ≤ r := Nat.le_of_dvd r0 z
    by_cases ek : k < s
    · exact hs k h1 ek z
    · have : s * s ≤ k * k := Nat.mul_le_mul (by omega) (by omega)
      omega

open Classical in
theorem p_is_pair {x : D} (h : Q (.d (.bool (isPr x)))) : sem fns (k + 3) 7 [x] X Q := by
  refine sem_at rfl ⟨rfl, ?_⟩
  cases x with
  | tuple xs =>
    rcases xs with _ | ⟨a, _ | ⟨c, _ | ⟨e, r⟩⟩⟩
    · (simp only [b_is_pair]; walk_at "s")
      exact h
    · rw [show isPr (.tuple [a]) = false by unfold isPr; split <;> simp_all] at h
      (simp only [b_is_pair]; walk_at "s")
      exact h
    · (simp only [b_is_pair]; walk_at "s")
      refine p_whole ?_
      cases a with
      | int d =>
        simp only [isW, ↓wE.eq_1, ↓wE.eq_2, ↓wE.eq_3, ↓wE.eq_4, ↓wE.eq_5, ↓wE.eq_6, ↓wE.eq_7, ↓wE.eq_8, ↓wE.eq_9, ↓wE.eq_10, ↓wE.eq_11, ↓wE.eq_12, ↓wE.eq_13, ↓wE.eq_14, ↓wE.eq_15, ↓wE.eq_16, ↓wE.eq_18, ↓wE.eq_19, ↓wE.eq_22, ↓wE.eq_23, ↓wE.eq_24, ↓wE.eq_25, ↓wE.eq_26, ↓wE.eq_27, ↓wE.eq_28, ↓wE.eq_29, ↓wE.eq_30, ↓wE.eq_31, ↓wE.eq_32, ↓wE.eq_34, ↓wE.eq_35, ↓wE.eq_36, ↓wE.eq_37, ↓wE.eq_38, ↓wE.eq_39, ↓wE.eq_40, ↓wE.eq_41, ↓wE_call, ↓wE_callP, ↓wE_lc, ↓wE_lcg, ↓wE_isv, ↓wE_ix, ↓ix_fr0, ↓ix_fr1, ↓cmp_fr, ↓cmp_frn, ↓cmp_fr0, ↓cmp_tz, ↓cmp_tzn, ↓cmp_tz0, ↓cmp_tzn0, ↓bi_list_tz, ↓add_tz,   ↓len_tz, ↓len_fr, ↓isT_fr, items_tz, ↓cmp_bb, ↓cmp_bbn, ↓wS_whl, ↓wS_for, ↓wS_forP, ↓wS_asg, ↓wS_par, ↓wS_setIx, ↓wS_app, ↓tgW_one, ↓tgW_tup, pvF_eq, ↓wS.eq_1, ↓wS.eq_2, ↓wS.eq_3, ↓wS.eq_5, ↓wS.eq_7, ↓wS.eq_10, ↓wS.eq_11, ↓wS.eq_12, ↓wS.eq_13, ↓wS.eq_14, ↓wS.eq_15, ↓wS.eq_16, ↓wS.eq_17, ↓wS.eq_20, ↓wS.eq_21, ↓wS.eq_22, ↓wS.eq_23, ↓wS.eq_24, ↓wS.eq_25, ↓wS.eq_26, ↓wS.eq_27, ↓wS.eq_28, ↓wS.eq_29, ↓wS.eq_30, ↓augW.eq_1, ↓augW.eq_2, ↓augW.eq_3, ↓augW.eq_4, ↓inW.eq_1, ↓inW.eq_2, ↓inW.eq_3, ↓inW.eq_4, ↓zipW.eq_1, ↓zipW.eq_2, ↓cntW.eq_1, ↓dspW.eq_1, ↓idxW.eq_1, ↓opW.eq_1, ↓opW.eq_2, ↓opW.eq_3, ↓opW.eq_4, ↓opW.eq_5, ↓opW.eq_6, ↓opW.eq_7, ↓opW.eq_8, ↓opW.eq_9, ↓opW.eq_10, ↓opW.eq_11, ↓opW.eq_12, ↓opW.eq_13, ↓opW.eq_14, ↓cmpW.eq_1, ↓cmpW.eq_2, ↓cmpW.eq_5, ↓cmpW.eq_6, ↓cmpW.eq_7, ↓cmpW.eq_8, ↓cmpW.eq_9, ↓cmpW.eq_10, ↓cmpW.eq_11, ↓cmpW.eq_12, ↓cmp_ll, ↓cmp_lln, ↓cmp_tt, ↓cmp_ttn, ↓biW.eq_1, ↓biW.eq_2, ↓biW.eq_3, ↓biW.eq_4, ↓biW.eq_5, ↓biW.eq_6, ↓biW.eq_7, ↓biW.eq_8, ↓biW.eq_9, ↓biW.eq_10, ↓biW.eq_11, ↓biW.eq_12, ↓biW.eq_13, ↓biW.eq_14, ↓biW.eq_15, ↓biW.eq_16, ↓biW.eq_17, ↓lenW.eq_1, ↓lenW.eq_2, ↓slW.eq_1, ↓slW.eq_2, ↓revW.eq_1, ↓revW.eq_2, ↓pkW_var, ↓ptW_nil, ↓ptK_i, ↓pkW_cst, ↓pkW_tup, ↓pkW_lst, ↓pkW_bin, ↓pkW_neg, ↓pkW_ix, ↓pkW_sl, ↓pkW_rev, ↓pkW_call, ↓pkW_callP, ↓pkW_bi, ↓pkW_len, ↓pkW_lc, ↓pkW_ite, ↓pkW_gc, ↓pkW_mov, ↓pkW_dsp, ↓pkW_bone, ↓pkW_cmp, ↓pkW_cnt, ↓ptW_cst, ↓ptW_tup, ↓ptW_lst, ↓ptW_bin, ↓ptW_neg, ↓ptW_ix, ↓ptW_sl, ↓ptW_rev, ↓ptW_call, ↓ptW_callP, ↓ptW_bi, ↓ptW_len, ↓ptW_lc, ↓ptW_ite, ↓ptW_gc, ↓ptW_mov, ↓ptW_dsp, ↓ptW_bone, ↓ptW_cmp, ↓ptW_cnt, ↓ptW_var, ↓peek, ↓ownAt, ↓kD.eq_1, ↓kD.eq_2, ↓kM.eq_1, ↓kB.eq_1, ↓kV.eq_1, ↓kV.eq_2, ↓setW, ↓rngW1.eq_1, ↓rngW2.eq_1, ↓rngWd.eq_1, isVar, isNil, isT, gv, pv, setAll, ev0, items.eq_1, items.eq_2, tgs, wipeE, blind_cons, blind_nil, bl1, runB, List.map_cons, List.map_nil, List.replicate, List.cons_append, List.nil_append, if_true, if_false, ite_true, ite_false, reduceCtorEq, Bool.true_and, Bool.and_true, Bool.not_true, Bool.not_false, Bool.false_eq_true, ↓reduceIte, Nat.reduceSub, Nat.reduceAdd, List.length_cons, List.length_nil, decide_eq_true_eq, Bool.not_eq_true', decide_eq_false_iff_not, Bool.and_false, Bool.false_and, true_and, and_true, Nat.sub_self, Nat.succ_eq_add_one, flat, Nat.reduceLeDiff, Int.reduceLE, Int.reduceLT, Int.reduceEq, ne_eq, not_false_eq_true, s10, la_2, la_3, la_4, la_5, la_6, la_7, la_8, la_9, la_10, la_11, la_12, la_13, la_14, la_15, la_16, la_18, la_19, la_20, la_21, la_24, la_25, la_28, la_30, la_35, la_36, la_39, la_40, la_41, la_44, la_45, la_49, la_50, la_52, la_54, la_57, la_63, la_64, la_65, la_72, la_78, la_81, la_90, la_100, la_121, la_123, la_125, la_126, la_144, la_162, la_168, la_176, la_196, la_200, la_216, la_240, la_360, la_369, la_400, la_402, la_441, la_540, la_550, la_900, la_907, la_997, la_1009, la_1100, la_1152, la_1440, la_1764, la_2001, la_2003, la_2200, la_3150, la_4099, la_16807, la_22500, la_24200, la_72600, Nat.reduceLT, ↓ix_t0, ↓ix_t1, ↓ix_t2, ↓ix_t3, ↓ix_t4, ↓ix_t5, ↓ix_t6, ↓ix_l0, ↓ix_l1, ↓ix_l2, ↓ix_l3, ↓ix_l4, ↓ix_l5, ↓ix_l6, ↓add_ttz, ↓isT_tz, ↓sl_tz, isN_non, isN_tup, isN_lst, isN_int, isN_str, isN_bl, isN_fr, isN_tz, ↓hS.eq_1, ↓hS.eq_2, ↓hS.eq_3, ↓hS.eq_4, hE, hB, ↓hide.eq_1, ↓hide.eq_2, isS, Nat.reduceBEq, Bool.or_true, Bool.or_false, Bool.true_or, Bool.false_or, beq_self_eq_true, not_true_eq_false, Int.cast_ofNat_Int, ↓wE_callL, ↓wE_callLP, ↓kR_d, ↓kR_o, ↓kT_twoO, ↓kTP_two, ↓kTP_twoO, ↓pkW_callLP, ↓wE_lemp, ↓wE_lix, ↓wE_lpop0, ↓wE_lcL, ↓wE_lcK, ↓pkW_lcK, ↓kT_two, ↓lentAt, unlend_nil, unlend_cons, ul1_n, ul1_d, ul1_o, ul1_l, ↓wS_lend, ↓wS_lfn, ↓wS_retL, ↓wS_lset, ↓wS_asgN, ↓tgW_nst, noTwo_d, noTwo_o, ↓pkW_callL, ↓pkW_lix, ↓pkW_lemp, ↓pkW_lpop0, ↓pkW_lcL, ↓ptW_callL, ↓ptW_lix, ↓wE_lit, ↓pkW_lit, ↓ptW_lit, ↓cmp_geT, ↓wE_dget, ↓wE_dix, ↓wE_dsrt, ↓wE_dlc, ↓wE_lcD, ↓wE_srt, ↓wS_dnewT, ↓wS_dnewI, ↓wS_dset, ↓dictAt, itemsD_I, itemsD_T, ↓pkW_dget, ↓ptW_dget, ↓pkW_dix, ↓ptW_dix, ↓pkW_dsrt, ↓ptW_dsrt, ↓pkW_dlc, ↓ptW_dlc, ↓pkW_lcD, ↓ptW_lcD, ↓pkW_srt, ↓ptW_srt]
        refine p_is_fraction ?_
        have ei : isPr (.tuple [.int d, c]) = (fracV c && (decide (0 < d) && (decide (d ≤ 1000000000000) && (decide (topD c ≠ 0) && decide (Sf d.toNat))))) := by
          show (fracV c && (decide (0 < d) && (decide (d ≤ 1000000000000) && (decide (topD c ≠ 0) && _)))) = _
          rfl
        rw [ei] at h
        cases hf : fracV c with
        | false =>
          rw [hf, Bool.false_and] at h
          walk_at "s"
          exact h
        | true =>
          rw [hf, Bool.true_and] at h
          obtain ⟨t, u, rfl⟩ : ∃ t u, c = .tuple [.int t, .int u] := by
            unfold fracV at hf
            split at hf
            · exact ⟨_, _, rfl⟩
            · cases hf
          walk_at "s"
          by_cases d0 : 0 < d
          · rw [decide_eq_true d0, Bool.true_and] at h
            rw [if_pos d0]
            by_cases d1 : d ≤ 1000000000000
            · rw [decide_eq_true d1, Bool.true_and] at h
              rw [if_pos d1]
              have et : topD (.tuple [.int t, .int u]) = t := rfl
              rw [et] at h
              by_cases t0 : t = 0
              · subst t0
                walk_at "s"
                simpa using h
              · simp only [t0, decide_false, ↓wE.eq_1, ↓wE.eq_2, ↓wE.eq_3, ↓wE.eq_4, ↓wE.eq_5, ↓wE.eq_6, ↓wE.eq_7, ↓wE.eq_8, ↓wE.eq_9, ↓wE.eq_10, ↓wE.eq_11, ↓wE.eq_12, ↓wE.eq_13, ↓wE.eq_14, ↓wE.eq_15, ↓wE.eq_16, ↓wE.eq_18, ↓wE.eq_19, ↓wE.eq_22, ↓wE.eq_23, ↓wE.eq_24, ↓wE.eq_25, ↓wE.eq_26, ↓wE.eq_27, ↓wE.eq_28, ↓wE.eq_29, ↓wE.eq_30, ↓wE.eq_31, ↓wE.eq_32, ↓wE.eq_34, ↓wE.eq_35, ↓wE.eq_36, ↓wE.eq_37, ↓wE.eq_38, ↓wE.eq_39, ↓wE.eq_40, ↓wE.eq_41, ↓wE_call, ↓wE_callP, ↓wE_lc, ↓wE_lcg, ↓wE_isv, ↓wE_ix, ↓ix_fr0, ↓ix_fr1, ↓cmp_fr, ↓cmp_frn, ↓cmp_fr0, ↓cmp_tz, ↓cmp_tzn, ↓cmp_tz0, ↓cmp_tzn0, ↓bi_list_tz, ↓add_tz,   ↓len_tz, ↓len_fr, ↓isT_fr, items_tz, ↓cmp_bb, ↓cmp_bbn, ↓wS_whl, ↓wS_for, ↓wS_forP, ↓wS_asg, ↓wS_par, ↓wS_setIx, ↓wS_app, ↓tgW_one, ↓tgW_tup, pvF_eq, ↓wS.eq_1, ↓wS.eq_2, ↓wS.eq_3, ↓wS.eq_5, ↓wS.eq_7, ↓wS.eq_10, ↓wS.eq_11, ↓wS.eq_12, ↓wS.eq_13, ↓wS.eq_14, ↓wS.eq_15, ↓wS.eq_16, ↓wS.eq_17, ↓wS.eq_20, ↓wS.eq_21, ↓wS.eq_22, ↓wS.eq_23, ↓wS.eq_24, ↓wS.eq_25, ↓wS.eq_26, ↓wS.eq_27, ↓wS.eq_28, ↓wS.eq_29, ↓wS.eq_30, ↓augW.eq_1, ↓augW.eq_2, ↓augW.eq_3, ↓augW.eq_4, ↓inW.eq_1, ↓inW.eq_2, ↓inW.eq_3, ↓inW.eq_4, ↓zipW.eq_1, ↓zipW.eq_2, ↓cntW.eq_1, ↓dspW.eq_1, ↓idxW.eq_1, ↓opW.eq_1, ↓opW.eq_2, ↓opW.eq_3, ↓opW.eq_4, ↓opW.eq_5, ↓opW.eq_6, ↓opW.eq_7, ↓opW.eq_8, ↓opW.eq_9, ↓opW.eq_10, ↓opW.eq_11, ↓opW.eq_12, ↓opW.eq_13, ↓opW.eq_14, ↓cmpW.eq_1, ↓cmpW.eq_2, ↓cmpW.eq_5, ↓cmpW.eq_6, ↓cmpW.eq_7, ↓cmpW.eq_8, ↓cmpW.eq_9, ↓cmpW.eq_10, ↓cmpW.eq_11, ↓cmpW.eq_12, ↓cmp_ll, ↓cmp_lln, ↓cmp_tt, ↓cmp_ttn, ↓biW.eq_1, ↓biW.eq_2, ↓biW.eq_3, ↓biW.eq_4, ↓biW.eq_5, ↓biW.eq_6, ↓biW.eq_7, ↓biW.eq_8, ↓biW.eq_9, ↓biW.eq_10, ↓biW.eq_11, ↓biW.eq_12, ↓biW.eq_13, ↓biW.eq_14, ↓biW.eq_15, ↓biW.eq_16, ↓biW.eq_17, ↓lenW.eq_1, ↓lenW.eq_2, ↓slW.eq_1, ↓slW.eq_2, ↓revW.eq_1, ↓revW.eq_2, ↓pkW_var, ↓ptW_nil, ↓ptK_i, ↓pkW_cst, ↓pkW_tup, ↓pkW_lst, ↓pkW_bin, ↓pkW_neg, ↓pkW_ix, ↓pkW_sl, ↓pkW_rev, ↓pkW_call, ↓pkW_callP, ↓pkW_bi, ↓pkW_len, ↓pkW_lc, ↓pkW_ite, ↓pkW_gc, ↓pkW_mov, ↓pkW_dsp, ↓pkW_bone, ↓pkW_cmp, ↓pkW_cnt, ↓ptW_cst, ↓ptW_tup, ↓ptW_lst, ↓ptW_bin, ↓ptW_neg, ↓ptW_ix, ↓ptW_sl, ↓ptW_rev, ↓ptW_call, ↓ptW_callP, ↓ptW_bi, ↓ptW_len, ↓ptW_lc, ↓ptW_ite, ↓ptW_gc, ↓ptW_mov, ↓ptW_dsp, ↓ptW_bone, ↓ptW_cmp, ↓ptW_cnt, ↓ptW_var, ↓peek, ↓ownAt, ↓kD.eq_1, ↓kD.eq_2, ↓kM.eq_1, ↓kB.eq_1, ↓kV.eq_1, ↓kV.eq_2, ↓setW, ↓rngW1.eq_1, ↓rngW2.eq_1, ↓rngWd.eq_1, isVar, isNil, isT, gv, pv, setAll, ev0, items.eq_1, items.eq_2, tgs, wipeE, blind_cons, blind_nil, bl1, runB, List.map_cons, List.map_nil, List.replicate, List.cons_append, List.nil_append, if_true, if_false, ite_true, ite_false, reduceCtorEq, Bool.true_and, Bool.and_true, Bool.not_true, Bool.not_false, Bool.false_eq_true, ↓reduceIte, Nat.reduceSub, Nat.reduceAdd, List.length_cons, List.length_nil, decide_eq_true_eq, Bool.not_eq_true', decide_eq_false_iff_not, Bool.and_false, Bool.false_and, true_and, and_true, Nat.sub_self, Nat.succ_eq_add_one, flat, Nat.reduceLeDiff, Int.reduceLE, Int.reduceLT, Int.reduceEq, ne_eq, not_false_eq_true, s10, la_2, la_3, la_4, la_5, la_6, la_7, la_8, la_9, la_10, la_11, la_12, la_13, la_14, la_15, la_16, la_18, la_19, la_20, la_21, la_24, la_25, la_28, la_30, la_35, la_36, la_39, la_40, la_41, la_44, la_45, la_49, la_50, la_52, la_54, la_57, la_63, la_64, la_65, la_72, la_78, la_81, la_90, la_100, la_121, la_123, la_125, la_126, la_144, la_162, la_168, la_176, la_196, la_200, la_216, la_240, la_360, la_369, la_400, la_402, la_441, la_540, la_550, la_900, la_907, la_997, la_1009, la_1100, la_1152, la_1440, la_1764, la_2001, la_2003, la_2200, la_3150, la_4099, la_16807, la_22500, la_24200, la_72600, Nat.reduceLT, ↓ix_t0, ↓ix_t1, ↓ix_t2, ↓ix_t3, ↓ix_t4, ↓ix_t5, ↓ix_t6, ↓ix_l0, ↓ix_l1, ↓ix_l2, ↓ix_l3, ↓ix_l4, ↓ix_l5, ↓ix_l6, ↓add_ttz, ↓isT_tz, ↓sl_tz, isN_non, isN_tup, isN_lst, isN_int, isN_str, isN_bl, isN_fr, isN_tz, ↓hS.eq_1, ↓hS.eq_2, ↓hS.eq_3, ↓hS.eq_4, hE, hB, ↓hide.eq_1, ↓hide.eq_2, isS, Nat.reduceBEq, Bool.or_true, Bool.or_false, Bool.true_or, Bool.false_or, beq_self_eq_true, not_true_eq_false, Int.cast_ofNat_Int, ↓wE_callL, ↓wE_callLP, ↓kR_d, ↓kR_o, ↓kT_twoO, ↓kTP_two, ↓kTP_twoO, ↓pkW_callLP, ↓wE_lemp, ↓wE_lix, ↓wE_lpop0, ↓wE_lcL, ↓wE_lcK, ↓pkW_lcK, ↓kT_two, ↓lentAt, unlend_nil, unlend_cons, ul1_n, ul1_d, ul1_o, ul1_l, ↓wS_lend, ↓wS_lfn, ↓wS_retL, ↓wS_lset, ↓wS_asgN, ↓tgW_nst, noTwo_d, noTwo_o, ↓pkW_callL, ↓pkW_lix, ↓pkW_lemp, ↓pkW_lpop0, ↓pkW_lcL, ↓ptW_callL, ↓ptW_lix, ↓wE_lit, ↓pkW_lit, ↓ptW_lit, ↓cmp_geT, ↓wE_dget, ↓wE_dix, ↓wE_dsrt, ↓wE_dlc, ↓wE_lcD, ↓wE_srt, ↓wS_dnewT, ↓wS_dnewI, ↓wS_dset, ↓dictAt, itemsD_I, itemsD_T, ↓pkW_dget, ↓ptW_dget, ↓pkW_dix, ↓ptW_dix, ↓pkW_dsrt, ↓ptW_dsrt, ↓pkW_dlc, ↓ptW_dlc, ↓pkW_lcD, ↓ptW_lcD, ↓pkW_srt, ↓ptW_srt]
                obtain ⟨n, rfl⟩ : ∃ n : Nat, d = n := ⟨d.toNat, by omega⟩
                rw [decide_eq_true (show t ≠ 0 from t0), Bool.true_and] at h
                refine p_square_out (by omega) (by omega) fun o r so r0 o0 => ?_
                walk_at "s"
                have eo : decide ((o : Int) = 1) = decide (Sf ((n : Int).toNat)) := by
                  rw [Int.toNat_natCast]
                  by_cases z : o = 1
                  · rw [decide_eq_true (by omega), decide_eq_true]
                    have e1 := so.1
                    rw [z] at e1
                    have : r = n := by omega
                    rw [← this]; exact so.2
                  · rw [decide_eq_false (by omega), decide_eq_false]
                    exact fun q => z (so_uniq (by omega) so (show So n 1 n from ⟨by omega, q⟩)).1
                rw [eo]
                exact h
            · rw [decide_eq_false d1, Bool.false_and] at h
              rw [if_neg d1]
              exact h
          · rw [decide_eq_false d0, Bool.false_and] at h
            rw [if_neg d0]
            exact h
      | _ =>
        simp only [isW, ↓wE.eq_1, ↓wE.eq_2, ↓wE.eq_3, ↓wE.eq_4, ↓wE.eq_5, ↓wE.eq_6, ↓wE.eq_7, ↓wE.eq_8, ↓wE.eq_9, ↓wE.eq_10, ↓wE.eq_11, ↓wE.eq_12, ↓wE.eq_13, ↓wE.eq_14, ↓wE.eq_15, ↓wE.eq_16, ↓wE.eq_18, ↓wE.eq_19, ↓wE.eq_22, ↓wE.eq_23, ↓wE.eq_24, ↓wE.eq_25, ↓wE.eq_26, ↓wE.eq_27, ↓wE.eq_28, ↓wE.eq_29, ↓wE.eq_30, ↓wE.eq_31, ↓wE.eq_32, ↓wE.eq_34, ↓wE.eq_35, ↓wE.eq_36, ↓wE.eq_37, ↓wE.eq_38, ↓wE.eq_39, ↓wE.eq_40, ↓wE.eq_41, ↓wE_call, ↓wE_callP, ↓wE_lc, ↓wE_lcg, ↓wE_isv, ↓wE_ix, ↓ix_fr0, ↓ix_fr1, ↓cmp_fr, ↓cmp_frn, ↓cmp_fr0, ↓cmp_tz, ↓cmp_tzn, ↓cmp_tz0, ↓cmp_tzn0, ↓bi_list_tz, ↓add_tz,   ↓len_tz, ↓len_fr, ↓isT_fr, items_tz, ↓cmp_bb, ↓cmp_bbn, ↓wS_whl, ↓wS_for, ↓wS_forP, ↓wS_asg, ↓wS_par, ↓wS_setIx, ↓wS_app, ↓tgW_one, ↓tgW_tup, pvF_eq, ↓wS.eq_1, ↓wS.eq_2, ↓wS.eq_3, ↓wS.eq_5, ↓wS.eq_7, ↓wS.eq_10, ↓wS.eq_11, ↓wS.eq_12, ↓wS.eq_13, ↓wS.eq_14, ↓wS.eq_15, ↓wS.eq_16, ↓wS.eq_17, ↓wS.eq_20, ↓wS.eq_21, ↓wS.eq_22, ↓wS.eq_23, ↓wS.eq_24, ↓wS.eq_25, ↓wS.eq_26, ↓wS.eq_27, ↓wS.eq_28, ↓wS.eq_29, ↓wS.eq_30, ↓augW.eq_1, ↓augW.eq_2, ↓augW.eq_3, ↓augW.eq_4, ↓inW.eq_1, ↓inW.eq_2, ↓inW.eq_3, ↓inW.eq_4, ↓zipW.eq_1, ↓zipW.eq_2, ↓cntW.eq_1, ↓dspW.eq_1, ↓idxW.eq_1, ↓opW.eq_1, ↓opW.eq_2, ↓opW.eq_3, ↓opW.eq_4, ↓opW.eq_5, ↓opW.eq_6, ↓opW.eq_7, ↓opW.eq_8, ↓opW.eq_9, ↓opW.eq_10, ↓opW.eq_11, ↓opW.eq_12, ↓opW.eq_13, ↓opW.eq_14, ↓cmpW.eq_1, ↓cmpW.eq_2, ↓cmpW.eq_5, ↓cmpW.eq_6, ↓cmpW.eq_7, ↓cmpW.eq_8, ↓cmpW.eq_9, ↓cmpW.eq_10, ↓cmpW.eq_11, ↓cmpW.eq_12, ↓cmp_ll, ↓cmp_lln, ↓cmp_tt, ↓cmp_ttn, ↓biW.eq_1, ↓biW.eq_2, ↓biW.eq_3, ↓biW.eq_4, ↓biW.eq_5, ↓biW.eq_6, ↓biW.eq_7, ↓biW.eq_8, ↓biW.eq_9, ↓biW.eq_10, ↓biW.eq_11, ↓biW.eq_12, ↓biW.eq_13, ↓biW.eq_14, ↓biW.eq_15, ↓biW.eq_16, ↓biW.eq_17, ↓lenW.eq_1, ↓lenW.eq_2, ↓slW.eq_1, ↓slW.eq_2, ↓revW.eq_1, ↓revW.eq_2, ↓pkW_var, ↓ptW_nil, ↓ptK_i, ↓pkW_cst, ↓pkW_tup, ↓pkW_lst, ↓pkW_bin, ↓pkW_neg, ↓pkW_ix, ↓pkW_sl, ↓pkW_rev, ↓pkW_call, ↓pkW_callP, ↓pkW_bi, ↓pkW_len, ↓pkW_lc, ↓pkW_ite, ↓pkW_gc, ↓pkW_mov, ↓pkW_dsp, ↓pkW_bone, ↓pkW_cmp, ↓pkW_cnt, ↓ptW_cst, ↓ptW_tup, ↓ptW_lst, ↓ptW_bin, ↓ptW_neg, ↓ptW_ix, ↓ptW_sl, ↓ptW_rev, ↓ptW_call, ↓ptW_callP, ↓ptW_bi, ↓ptW_len, ↓ptW_lc, ↓ptW_ite, ↓ptW_gc, ↓ptW_mov, ↓ptW_dsp, ↓ptW_bone, ↓ptW_cmp, ↓ptW_cnt, ↓ptW_var, ↓peek, ↓ownAt, ↓kD.eq_1, ↓kD.eq_2, ↓kM.eq_1, ↓kB.eq_1, ↓kV.eq_1, ↓kV.eq_2, ↓setW, ↓rngW1.eq_1, ↓rngW2.eq_1, ↓rngWd.eq_1, isVar, isNil, isT, gv, pv, setAll, ev0, items.eq_1, items.eq_2, tgs, wipeE, blind_cons, blind_nil, bl1, runB, List.map_cons, List.map_nil, List.replicate, List.cons_append, List.nil_append, if_true, if_false, ite_true, ite_false, reduceCtorEq, Bool.true_and, Bool.and_true, Bool.not_true, Bool.not_false, Bool.false_eq_true, ↓reduceIte, Nat.reduceSub, Nat.reduceAdd, List.length_cons, List.length_nil, decide_eq_true_eq, Bool.not_eq_true', decide_eq_false_iff_not, Bool.and_false, Bool.false_and, true_and, and_true, Nat.sub_self, Nat.succ_eq_add_one, flat, Nat.reduceLeDiff, Int.reduceLE, Int.reduceLT, Int.reduceEq, ne_eq, not_false_eq_true, s10, la_2, la_3, la_4, la_5, la_6, la_7, la_8, la_9, la_10, la_11, la_12, la_13, la_14, la_15, la_16, la_18, la_19, la_20, la_21, la_24, la_25, la_28, la_30, la_35, la_36, la_39, la_40, la_41, la_44, la_45, la_49, la_50, la_52, la_54, la_57, la_63, la_64, la_65, la_72, la_78, la_81, la_90, la_100, la_121, la_123, la_125, la_126, la_144, la_162, la_168, la_176, la_196, la_200, la_216, la_240, la_360, la_369, la_400, la_402, la_441, la_540, la_550, la_900, la_907, la_997, la_1009, la_1100, la_1152, la_1440, la_1764, la_2001, la_2003, la_2200, la_3150, la_4099, la_16807, la_22500, la_24200, la_72600, Nat.reduceLT, ↓ix_t0, ↓ix_t1, ↓ix_t2, ↓ix_t3, ↓ix_t4, ↓ix_t5, ↓ix_t6, ↓ix_l0, ↓ix_l1, ↓ix_l2, ↓ix_l3, ↓ix_l4, ↓ix_l5, ↓ix_l6, ↓add_ttz, ↓isT_tz, ↓sl_tz, isN_non, isN_tup, isN_lst, isN_int, isN_str, isN_bl, isN_fr, isN_tz, ↓hS.eq_1, ↓hS.eq_2, ↓hS.eq_3, ↓hS.eq_4, hE, hB, ↓hide.eq_1, ↓hide.eq_2, isS, Nat.reduceBEq, Bool.or_true, Bool.or_false, Bool.true_or, Bool.false_or, beq_self_eq_true, not_true_eq_false, Int.cast_ofNat_Int, ↓wE_callL, ↓wE_callLP, ↓kR_d, ↓kR_o, ↓kT_twoO, ↓kTP_two, ↓kTP_twoO, ↓pkW_callLP, ↓wE_lemp, ↓wE_lix, ↓wE_lpop0, ↓wE_lcL, ↓wE_lcK, ↓pkW_lcK, ↓kT_two, ↓lentAt, unlend_nil, unlend_cons, ul1_n, ul1_d, ul1_o, ul1_l, ↓wS_lend, ↓wS_lfn, ↓wS_retL, ↓wS_lset, ↓wS_asgN, ↓tgW_nst, noTwo_d, noTwo_o, ↓pkW_callL, ↓pkW_lix, ↓pkW_lemp, ↓pkW_lpop0, ↓pkW_lcL, ↓ptW_callL, ↓ptW_lix, ↓wE_lit, ↓pkW_lit, ↓ptW_lit, ↓cmp_geT, ↓wE_dget, ↓wE_dix, ↓wE_dsrt, ↓wE_dlc, ↓wE_lcD, ↓wE_srt, ↓wS_dnewT, ↓wS_dnewI, ↓wS_dset, ↓dictAt, itemsD_I, itemsD_T, ↓pkW_dget, ↓ptW_dget, ↓pkW_dix, ↓ptW_dix, ↓pkW_dsrt, ↓ptW_dsrt, ↓pkW_dlc, ↓ptW_dlc, ↓pkW_lcD, ↓ptW_lcD, ↓pkW_srt, ↓ptW_srt]
        rw [show ∀ y, isPr y = isPr y from fun _ => rfl] at h
        exact h
    · have l3 : ¬ (((r.length + 1 + 1 + 1 : Nat) : Int) = 2) := by omega
      have ei : isPr (.tuple (a :: c :: e :: r)) = false := by unfold isPr; split <;> simp_all
      rw [ei] at h
      simp only [b_is_pair, l3, decide_false, ↓wE.eq_1, ↓wE.eq_2, ↓wE.eq_3, ↓wE.eq_4, ↓wE.eq_5, ↓wE.eq_6, ↓wE.eq_7, ↓wE.eq_8, ↓wE.eq_9, ↓wE.eq_10, ↓wE.eq_11, ↓wE.eq_12, ↓wE.eq_13, ↓wE.eq_14, ↓wE.eq_15, ↓wE.eq_16, ↓wE.eq_18, ↓wE.eq_19, ↓wE.eq_22, ↓wE.eq_23, ↓wE.eq_24, ↓wE.eq_25, ↓wE.eq_26, ↓wE.eq_27, ↓wE.eq_28, ↓wE.eq_29, ↓wE.eq_30, ↓wE.eq_31, ↓wE.eq_32, ↓wE.eq_34, ↓wE.eq_35, ↓wE.eq_36, ↓wE.eq_37, ↓wE.eq_38, ↓wE.eq_39, ↓wE.eq_40, ↓wE.eq_41, ↓wE_call, ↓wE_callP, ↓wE_lc, ↓wE_lcg, ↓wE_isv, ↓wE_ix, ↓ix_fr0, ↓ix_fr1, ↓cmp_fr, ↓cmp_frn, ↓cmp_fr0, ↓cmp_tz, ↓cmp_tzn, ↓cmp_tz0, ↓cmp_tzn0, ↓bi_list_tz, ↓add_tz,   ↓len_tz, ↓len_fr, ↓isT_fr, items_tz, ↓cmp_bb, ↓cmp_bbn, ↓wS_whl, ↓wS_for, ↓wS_forP, ↓wS_asg, ↓wS_par, ↓wS_setIx, ↓wS_app, ↓tgW_one, ↓tgW_tup, pvF_eq, ↓wS.eq_1, ↓wS.eq_2, ↓wS.eq_3, ↓wS.eq_5, ↓wS.eq_7, ↓wS.eq_10, ↓wS.eq_11, ↓wS.eq_12, ↓wS.eq_13, ↓wS.eq_14, ↓wS.eq_15, ↓wS.eq_16, ↓wS.eq_17, ↓wS.eq_20, ↓wS.eq_21, ↓wS.eq_22, ↓wS.eq_23, ↓wS.eq_24, ↓wS.eq_25, ↓wS.eq_26, ↓wS.eq_27, ↓wS.eq_28, ↓wS.eq_29, ↓wS.eq_30, ↓augW.eq_1, ↓augW.eq_2, ↓augW.eq_3, ↓augW.eq_4, ↓inW.eq_1, ↓inW.eq_2, ↓inW.eq_3, ↓inW.eq_4, ↓zipW.eq_1, ↓zipW.eq_2, ↓cntW.eq_1, ↓dspW.eq_1, ↓idxW.eq_1, ↓opW.eq_1, ↓opW.eq_2, ↓opW.eq_3, ↓opW.eq_4, ↓opW.eq_5, ↓opW.eq_6, ↓opW.eq_7, ↓opW.eq_8, ↓opW.eq_9, ↓opW.eq_10, ↓opW.eq_11, ↓opW.eq_12, ↓opW.eq_13, ↓opW.eq_14, ↓cmpW.eq_1, ↓cmpW.eq_2, ↓cmpW.eq_5, ↓cmpW.eq_6, ↓cmpW.eq_7, ↓cmpW.eq_8, ↓cmpW.eq_9, ↓cmpW.eq_10, ↓cmpW.eq_11, ↓cmpW.eq_12, ↓cmp_ll, ↓cmp_lln, ↓cmp_tt, ↓cmp_ttn, ↓biW.eq_1, ↓biW.eq_2, ↓biW.eq_3, ↓biW.eq_4, ↓biW.eq_5, ↓biW.eq_6, ↓biW.eq_7, ↓biW.eq_8, ↓biW.eq_9, ↓biW.eq_10, ↓biW.eq_11, ↓biW.eq_12, ↓biW.eq_13, ↓biW.eq_14, ↓biW.eq_15, ↓biW.eq_16, ↓biW.eq_17, ↓lenW.eq_1, ↓lenW.eq_2, ↓slW.eq_1, ↓slW.eq_2, ↓revW.eq_1, ↓revW.eq_2, ↓pkW_var, ↓ptW_nil, ↓ptK_i, ↓pkW_cst, ↓pkW_tup, ↓pkW_lst, ↓pkW_bin, ↓pkW_neg, ↓pkW_ix, ↓pkW_sl, ↓pkW_rev, ↓pkW_call, ↓pkW_callP, ↓pkW_bi, ↓pkW_len, ↓pkW_lc, ↓pkW_ite, ↓pkW_gc, ↓pkW_mov, ↓pkW_dsp, ↓pkW_bone, ↓pkW_cmp, ↓pkW_cnt, ↓ptW_cst, ↓ptW_tup, ↓ptW_lst, ↓ptW_bin, ↓ptW_neg, ↓ptW_ix, ↓ptW_sl, ↓ptW_rev, ↓ptW_call, ↓ptW_callP, ↓ptW_bi, ↓ptW_len, ↓ptW_lc, ↓ptW_ite, ↓ptW_gc, ↓ptW_mov, ↓ptW_dsp, ↓ptW_bone, ↓ptW_cmp, ↓ptW_cnt, ↓ptW_var, ↓peek, ↓ownAt, ↓kD.eq_1, ↓kD.eq_2, ↓kM.eq_1, ↓kB.eq_1, ↓kV.eq_1, ↓kV.eq_2, ↓setW, ↓rngW1.eq_1, ↓rngW2.eq_1, ↓rngWd.eq_1, isVar, isNil, isT, gv, pv, setAll, ev0, items.eq_1, items.eq_2, tgs, wipeE, blind_cons, blind_nil, bl1, runB, List.map_cons, List.map_nil, List.replicate, List.cons_append, List.nil_append, if_true, if_false, ite_true, ite_false, reduceCtorEq, Bool.true_and, Bool.and_true, Bool.not_true, Bool.not_false, Bool.false_eq_true, ↓reduceIte, Nat.reduceSub, Nat.reduceAdd, List.length_cons, List.length_nil, decide_eq_true_eq, Bool.not_eq_true', decide_eq_false_iff_not, Bool.and_false, Bool.false_and, true_and, and_true, Nat.sub_self, Nat.succ_eq_add_one, flat, Nat.reduceLeDiff, Int.reduceLE, Int.reduceLT, Int.reduceEq, ne_eq, not_false_eq_true, s10, la_2, la_3, la_4, la_5, la_6, la_7, la_8, la_9, la_10, la_11, la_12, la_13, la_14, la_15, la_16, la_18, la_19, la_20, la_21, la_24, la_25, la_28, la_30, la_35, la_36, la_39, la_40, la_41, la_44, la_45, la_49, la_50, la_52, la_54, la_57, la_63, la_64, la_65, la_72, la_78, la_81, la_90, la_100, la_121, la_123, la_125, la_126, la_144, la_162, la_168, la_176, la_196, la_200, la_216, la_240, la_360, la_369, la_400, la_402, la_441, la_540, la_550, la_900, la_907, la_997, la_1009, la_1100, la_1152, la_1440, la_1764, la_2001, la_2003, la_2200, la_3150, la_4099, la_16807, la_22500, la_24200, la_72600, Nat.reduceLT, ↓ix_t0, ↓ix_t1, ↓ix_t2, ↓ix_t3, ↓ix_t4, ↓ix_t5, ↓ix_t6, ↓ix_l0, ↓ix_l1, ↓ix_l2, ↓ix_l3, ↓ix_l4, ↓ix_l5, ↓ix_l6, ↓add_ttz, ↓isT_tz, ↓sl_tz, isN_non, isN_tup, isN_lst, isN_int, isN_str, isN_bl, isN_fr, isN_tz, ↓hS.eq_1, ↓hS.eq_2, ↓hS.eq_3, ↓hS.eq_4, hE, hB, ↓hide.eq_1, ↓hide.eq_2, isS, Nat.reduceBEq, Bool.or_true, Bool.or_false, Bool.true_or, Bool.false_or, beq_self_eq_true, not_true_eq_false, Int.cast_ofNat_Int, ↓wE_callL, ↓wE_callLP, ↓kR_d, ↓kR_o, ↓kT_twoO, ↓kTP_two, ↓kTP_twoO, ↓pkW_callLP, ↓wE_lemp, ↓wE_lix, ↓wE_lpop0, ↓wE_lcL, ↓wE_lcK, ↓pkW_lcK, ↓kT_two, ↓lentAt, unlend_nil, unlend_cons, ul1_n, ul1_d, ul1_o, ul1_l, ↓wS_lend, ↓wS_lfn, ↓wS_retL, ↓wS_lset, ↓wS_asgN, ↓tgW_nst, noTwo_d, noTwo_o, ↓pkW_callL, ↓pkW_lix, ↓pkW_lemp, ↓pkW_lpop0, ↓pkW_lcL, ↓ptW_callL, ↓ptW_lix, ↓wE_lit, ↓pkW_lit, ↓ptW_lit, ↓cmp_geT, ↓wE_dget, ↓wE_dix, ↓wE_dsrt, ↓wE_dlc, ↓wE_lcD, ↓wE_srt, ↓wS_dnewT, ↓wS_dnewI, ↓wS_dset, ↓dictAt, itemsD_I, itemsD_T, ↓pkW_dget, ↓ptW_dget, ↓pkW_dix, ↓ptW_dix, ↓pkW_dsrt, ↓ptW_dsrt, ↓pkW_dlc, ↓ptW_dlc, ↓pkW_lcD, ↓ptW_lcD, ↓pkW_srt, ↓ptW_srt]
      exact h
  | _ =>
    (simp only [b_is_pair]; walk_at "s")
    exact h

theorem p_roots_in {v : D} {xs : List D} (hv : items v = some xs) (hl : xs.length ≤ 1000000) (hk : ∀ x ∈ xs, ∃ d y, x = PyData.tuple [.int d, y]) (h : Q (.own (xs.filter fun x => decide (1 < kof x)))) : sem fns (k + 1) 9 [v] X Q := by
  refine sem_at rfl ⟨rfl, ?_⟩
  (simp only [b_roots_in]; walk_at "s")
  rw [hv]
  walk_at "s"
  have key := lc_flt (ε := [some (.d v), none]) (t := .one 1) (fun x : D => x) (fun x : D => x) (fun x => decide (1 < kof x)) (as := xs)
    (C := fun ε2 k' => if isNil c_roots_in_1 = true then k' true ε2 else wE (sem fns k) c_roots_in_1 ε2 (fun _ _ => False) (kB k')) (E := fun ε2 k' => wE (sem fns k) (.var 1) ε2 (fun _ _ => False) (kD k')) (K := fun ys => Q (.own ys)) (q := .mk)
    (fun x hx k1 k0 h1 h0 => by
      obtain ⟨d, y, rfl⟩ := hk x hx
      (simp only [c_roots_in_1]; walk_at "s")
      split
      · rename_i z; exact h1 (decide_eq_true z) _
      · rename_i z; exact h0 (decide_eq_false z)) (by omega) (by simpa using h)
  rw [show xs.map (fun x : D => x) = xs from List.map_id' xs] at key
  exact key

theorem p_is_root_sum {x : D} (hx : ∀ xs, x = .tuple xs → xs.length ≤ 1000) (h : Q (.d (.bool (isRsB x)))) : sem fns (k + 4) 8 [x] X Q := by
  refine sem_at rfl ⟨rfl, ?_⟩
  cases x with
  | tuple xs =>
    have hl := hx xs rfl
    (simp only [b_is_root_sum]; walk_at "s")
    refine lc_map' (fun d => .bool (isPr d)) (fun x hx kk hk => ?_) (by omega) ?_
    · (simp only [e_is_root_sum_1]; walk_at "s")
      refine p_is_pair ?_
      walk_at "s"
      exact hk _
    walk_at "s"
    refine ⟨_, asBools_map isPr xs, ?_⟩
    rw [show (xs.map isPr).all id = xs.all isPr by rw [List.all_map]; rfl]
    have ei : isRsB (.tuple xs) = (xs.all isPr && (ris (xs.map kof) && decide ((xs.filter fun x => decide (1 < kof x)).length ≤ 3))) := rfl
    rw [ei] at h
    cases ha : xs.all isPr with
    | false =>
      rw [ha, Bool.false_and] at h
      walk_at "s"
      exact h
    | true =>
      rw [ha, Bool.true_and] at h
      have pk : ∀ x ∈ xs, ∃ d y, x = PyData.tuple [.int d, y] ∧ kof x = d := fun x hx => isPr_kof (List.all_eq_true.mp ha x hx)
      walk_at "s"
      refine lc_map' (fun x => .int (kof x)) (fun x hx kk hk => ?_) (by omega) ?_
      · obtain ⟨d, y, rfl, e⟩ := pk x hx
        (simp only [e_is_root_sum_2]; walk_at "s")
        rw [e] at hk
        exact hk _
      walk_at "s"
      have em : xs.map (fun x => PyData.int (kof x)) = (xs.map kof).map .int := by rw [List.map_map]; rfl
      rw [em]
      have ec : cut ((xs.map kof).map PyData.int) (some 1) none = ((xs.map kof).drop 1).map .int := by
        rw [cut_map]
        congr 1
        unfold cut
        rw [show (1 : Int) = ((1 : Nat) : Int) from rfl, HT.sIx_none, HT.sIx_nat]
        rcases Nat.le_total 1 (xs.map kof).length with z | z
        · rw [Nat.min_eq_left z, List.take_of_length_le (by rw [List.length_drop]; omega)]
        · rw [Nat.min_eq_right z, List.drop_length, List.take_nil, List.drop_eq_nil_of_le z]
      rw [ec, zips_ints]
      refine lc_as (fun p : Int × Int => PyData.tuple [.int p.1, .int p.2]) (fun p => .bool (decide (p.1 < p.2))) (fun p hp kk hk => ?_) (by simp; omega) ?_
      · (simp only [e_is_root_sum_3]; walk_at "s")
        exact hk _
      walk_at "s"
      refine ⟨_, asBools_map (fun p : Int × Int => decide (p.1 < p.2)) _, ?_⟩
      rw [List.all_map]
      have er : ((xs.map kof).zip ((xs.map kof).drop 1)).all (id ∘ fun p => decide (p.1 < p.2)) = ris (xs.map kof) := rfl
      rw [er]
      cases hr : ris (xs.map kof) with
      | false =>
        rw [hr, Bool.false_and] at h
        walk_at "s"
        exact h
      | true =>
        rw [hr, Bool.true_and] at h
        walk_at "s"
        refine p_roots_in rfl (by omega) (fun x hx => by obtain ⟨d, y, e, _⟩ := pk x hx; exact ⟨d, y, e⟩) ?_
        walk_at "s"
        have e3 : decide ((((xs.filter fun x => decide (1 < kof x)).length : Nat) : Int) ≤ 3) = decide ((xs.filter fun x => decide (1 < kof x)).length ≤ 3) := by
          by_cases z : (xs.filter fun x => decide (1 < kof x)).length ≤ 3
          · rw [decide_eq_true z, decide_eq_true (by omega)]
          · rw [decide_eq_false z, decide_eq_false (by omega)]
        rw [e3]
        exact h
  | _ =>
    (simp only [b_is_root_sum]; walk_at "s")
    exact h

theorem p_gathered {ps : List Pr} {v : D} {s n : Nat} (hv : items v = some (ps.map pd)) (hs : ∀ p ∈ ps, Sz s p.2) (hn : ps.length ≤ n) (n4 : n < 64) (bd : (s + 1) * (n + 1) + 1 ≤ 50000000)
    (h : gok (rs ps) = true → Q (.d (.tuple ((rs ps).map pd)))) (hx : gok (rs ps) = false → X 2) : sem fns (k + 4) 10 [v] X Q := by
  refine sem_at rfl ⟨rfl, ?_⟩
  (simp only [b_gathered]; walk_at "s")
  rw [hv]
  walk_at "s"
  refine for_at' (fun q ε => ∃ (us kv : List Pr) (j : Nat) (o2 o3 : Option Val), q = us.map pd ∧ us.foldl qa kv = gq ps ∧ us.length + kv.length ≤ n ∧ j + us.length ≤ n ∧ (∀ p ∈ us, Sz s p.2) ∧ (∀ i, Sz ((s + 1) * j + 1) (qt kv i)) ∧ ε = [some (.d v), some (.dI (toQ kv)), o2, o3, none]) ?_ ?_ _ _
    ⟨ps, [], 0, none, none, rfl, rfl, by simpa using hn, by simpa using hn, hs, (fun i => by rw [qt_nil]; exact sz_nil (by omega)), rfl⟩
  · rintro x q ε ⟨us, kv, j, o2, o3, hq, e, l1, l2, hs2, hz, rfl⟩ hnx
    cases us with
    | nil => cases hq
    | cons t us =>
      cases hq
      have l3 : (qa kv t).length ≤ kv.length + 1 := by
        unfold qa qp
        split
        · rw [List.length_map]; omega
        · rw [List.length_append]; simp
      have m1 : (s + 1) * (j + 1) ≤ (s + 1) * (n + 1) := Nat.mul_le_mul_left _ (by simp at l2; omega)
      have m2 : (s + 1) * (j + 1) = (s + 1) * j + (s + 1) := Nat.mul_succ ..
      have st := hs2 t (by simp)
      simp only [pd, b_gathered_1, ↓wE.eq_1, ↓wE.eq_2, ↓wE.eq_3, ↓wE.eq_4, ↓wE.eq_5, ↓wE.eq_6, ↓wE.eq_7, ↓wE.eq_8, ↓wE.eq_9, ↓wE.eq_10, ↓wE.eq_11, ↓wE.eq_12, ↓wE.eq_13, ↓wE.eq_14, ↓wE.eq_15, ↓wE.eq_16, ↓wE.eq_18, ↓wE.eq_19, ↓wE.eq_22, ↓wE.eq_23, ↓wE.eq_24, ↓wE.eq_25, ↓wE.eq_26, ↓wE.eq_27, ↓wE.eq_28, ↓wE.eq_29, ↓wE.eq_30, ↓wE.eq_31, ↓wE.eq_32, ↓wE.eq_34, ↓wE.eq_35, ↓wE.eq_36, ↓wE.eq_37, ↓wE.eq_38, ↓wE.eq_39, ↓wE.eq_40, ↓wE.eq_41, ↓wE_call, ↓wE_callP, ↓wE_lc, ↓wE_lcg, ↓wE_isv, ↓wE_ix, ↓ix_fr0, ↓ix_fr1, ↓cmp_fr, ↓cmp_frn, ↓cmp_fr0, ↓cmp_tz, ↓cmp_tzn, ↓cmp_tz0, ↓cmp_tzn0, ↓bi_list_tz, ↓add_tz,   ↓len_tz, ↓len_fr, ↓isT_fr, items_tz, ↓cmp_bb, ↓cmp_bbn, ↓wS_whl, ↓wS_for, ↓wS_forP, ↓wS_asg, ↓wS_par, ↓wS_setIx, ↓wS_app, ↓tgW_one, ↓tgW_tup, pvF_eq, ↓wS.eq_1, ↓wS.eq_2, ↓wS.eq_3, ↓wS.eq_5, ↓wS.eq_7, ↓wS.eq_10, ↓wS.eq_11, ↓wS.eq_12, ↓wS.eq_13, ↓wS.eq_14, ↓wS.eq_15, ↓wS.eq_16, ↓wS.eq_17, ↓wS.eq_20, ↓wS.eq_21, ↓wS.eq_22, ↓wS.eq_23, ↓wS.eq_24, ↓wS.eq_25, ↓wS.eq_26, ↓wS.eq_27, ↓wS.eq_28, ↓wS.eq_29, ↓wS.eq_30, ↓augW.eq_1, ↓augW.eq_2, ↓augW.eq_3, ↓augW.eq_4, ↓inW.eq_1, ↓inW.eq_2, ↓inW.eq_3, ↓inW.eq_4, ↓zipW.eq_1, ↓zipW.eq_2, ↓cntW.eq_1, ↓dspW.eq_1, ↓idxW.eq_1, ↓opW.eq_1, ↓opW.eq_2, ↓opW.eq_3, ↓opW.eq_4, ↓opW.eq_5, ↓opW.eq_6, ↓opW.eq_7, ↓opW.eq_8, ↓opW.eq_9, ↓opW.eq_10, ↓opW.eq_11, ↓opW.eq_12, ↓opW.eq_13, ↓opW.eq_14, ↓cmpW.eq_1, ↓cmpW.eq_2, ↓cmpW.eq_5, ↓cmpW.eq_6, ↓cmpW.eq_7, ↓cmpW.eq_8, ↓cmpW.eq_9, ↓cmpW.eq_10, ↓cmpW.eq_11, ↓cmpW.eq_12, ↓cmp_ll, ↓cmp_lln, ↓cmp_tt, ↓cmp_ttn, ↓biW.eq_1, ↓biW.eq_2, ↓biW.eq_3, ↓biW.eq_4, ↓biW.eq_5, ↓biW.eq_6, ↓biW.eq_7, ↓biW.eq_8, ↓biW.eq_9, ↓biW.eq_10, ↓biW.eq_11, ↓biW.eq_12, ↓biW.eq_13, ↓biW.eq_14, ↓biW.eq_15, ↓biW.eq_16, ↓biW.eq_17, ↓lenW.eq_1, ↓lenW.eq_2, ↓slW.eq_1, ↓slW.eq_2, ↓revW.eq_1, ↓revW.eq_2, ↓pkW_var, ↓ptW_nil, ↓ptK_i, ↓pkW_cst, ↓pkW_tup, ↓pkW_lst, ↓pkW_bin, ↓pkW_neg, ↓pkW_ix, ↓pkW_sl, ↓pkW_rev, ↓pkW_call, ↓pkW_callP, ↓pkW_bi, ↓pkW_len, ↓pkW_lc, ↓pkW_ite, ↓pkW_gc, ↓pkW_mov, ↓pkW_dsp, ↓pkW_bone, ↓pkW_cmp, ↓pkW_cnt, ↓ptW_cst, ↓ptW_tup, ↓ptW_lst, ↓ptW_bin, ↓ptW_neg, ↓ptW_ix, ↓ptW_sl, ↓ptW_rev, ↓ptW_call, ↓ptW_callP, ↓ptW_bi, ↓ptW_len, ↓ptW_lc, ↓ptW_ite, ↓ptW_gc, ↓ptW_mov, ↓ptW_dsp, ↓ptW_bone, ↓ptW_cmp, ↓ptW_cnt, ↓ptW_var, ↓peek, ↓ownAt, ↓kD.eq_1, ↓kD.eq_2, ↓kM.eq_1, ↓kB.eq_1, ↓kV.eq_1, ↓kV.eq_2, ↓setW, ↓rngW1.eq_1, ↓rngW2.eq_1, ↓rngWd.eq_1, isVar, isNil, isT, gv, pv, setAll, ev0, items.eq_1, items.eq_2, tgs, wipeE, blind_cons, blind_nil, bl1, runB, List.map_cons, List.map_nil, List.replicate, List.cons_append, List.nil_append, if_true, if_false, ite_true, ite_false, reduceCtorEq, Bool.true_and, Bool.and_true, Bool.not_true, Bool.not_false, Bool.false_eq_true, ↓reduceIte, Nat.reduceSub, Nat.reduceAdd, List.length_cons, List.length_nil, decide_eq_true_eq, Bool.not_eq_true', decide_eq_false_iff_not, Bool.and_false, Bool.false_and, true_and, and_true, Nat.sub_self, Nat.succ_eq_add_one, flat, Nat.reduceLeDiff, Int.reduceLE, Int.reduceLT, Int.reduceEq, ne_eq, not_false_eq_true, s10, la_2, la_3, la_4, la_5, la_6, la_7, la_8, la_9, la_10, la_11, la_12, la_13, la_14, la_15, la_16, la_18, la_19, la_20, la_21, la_24, la_25, la_28, la_30, la_35, la_36, la_39, la_40, la_41, la_44, la_45, la_49, la_50, la_52, la_54, la_57, la_63, la_64, la_65, la_72, la_78, la_81, la_90, la_100, la_121, la_123, la_125, la_126, la_144, la_162, la_168, la_176, la_196, la_200, la_216, la_240, la_360, la_369, la_400, la_402, la_441, la_540, la_550, la_900, la_907, la_997, la_1009, la_1100, la_1152, la_1440, la_1764, la_2001, la_2003, la_2200, la_3150, la_4099, la_16807, la_22500, la_24200, la_72600, Nat.reduceLT, ↓ix_t0, ↓ix_t1, ↓ix_t2, ↓ix_t3, ↓ix_t4, ↓ix_t5, ↓ix_t6, ↓ix_l0, ↓ix_l1, ↓ix_l2, ↓ix_l3, ↓ix_l4, ↓ix_l5, ↓ix_l6, ↓add_ttz, ↓isT_tz, ↓sl_tz, isN_non, isN_tup, isN_lst, isN_int, isN_str, isN_bl, isN_fr, isN_tz, ↓hS.eq_1, ↓hS.eq_2, ↓hS.eq_3, ↓hS.eq_4, hE, hB, ↓hide.eq_1, ↓hide.eq_2, isS, Nat.reduceBEq, Bool.or_true, Bool.or_false, Bool.true_or, Bool.false_or, beq_self_eq_true, not_true_eq_false, Int.cast_ofNat_Int, ↓wE_callL, ↓wE_callLP, ↓kR_d, ↓kR_o, ↓kT_twoO, ↓kTP_two, ↓kTP_twoO, ↓pkW_callLP, ↓wE_lemp, ↓wE_lix, ↓wE_lpop0, ↓wE_lcL, ↓wE_lcK, ↓pkW_lcK, ↓kT_two, ↓lentAt, unlend_nil, unlend_cons, ul1_n, ul1_d, ul1_o, ul1_l, ↓wS_lend, ↓wS_lfn, ↓wS_retL, ↓wS_lset, ↓wS_asgN, ↓tgW_nst, noTwo_d, noTwo_o, ↓pkW_callL, ↓pkW_lix, ↓pkW_lemp, ↓pkW_lpop0, ↓pkW_lcL, ↓ptW_callL, ↓ptW_lix, ↓wE_lit, ↓pkW_lit, ↓ptW_lit, ↓cmp_geT, ↓wE_dget, ↓wE_dix, ↓wE_dsrt, ↓wE_dlc, ↓wE_lcD, ↓wE_srt, ↓wS_dnewT, ↓wS_dnewI, ↓wS_dset, ↓dictAt, itemsD_I, itemsD_T, ↓pkW_dget, ↓ptW_dget, ↓pkW_dix, ↓ptW_dix, ↓pkW_dsrt, ↓ptW_dsrt, ↓pkW_dlc, ↓ptW_dlc, ↓pkW_lcD, ↓ptW_lcD, ↓pkW_srt, ↓ptW_srt]
      refine dg_I ?_
      rw [fr0, lkp_toQ]
      walk_at "s"
      refine p_plus (a := (s + 1) * (n + 1)) ((hz t.1).mono (by omega)) (st.mono (by omega)) (by omega) ?_
      walk_at "s"
      refine dp_I (by rw [toQ_len]; simp at l1; omega) ?_
      rw [putL_toQ]
      walk_at "s"
      refine hnx _ ⟨us, qa kv t, j + 1, _, _, rfl, e, by simp at l1; omega, by simp at l2; omega, fun p hp => hs2 p (by simp [hp]), fun i => ?_, rfl⟩
      unfold qa
      rw [qp_qt]
      split
      · exact (sz_addA (hz t.1) st).mono (by omega)
      · exact (hz i).mono (by omega)
  · rintro ε ⟨us, kv, j, o2, o3, hq, e, l1, l2, hs2, hz, rfl⟩
    cases us with
    | cons _ _ => cases hq
    | nil =>
      have e : kv = gq ps := e
      subst e
      have kl : (gq ps).length ≤ n := by simpa using l1
      (simp only [b_gathered_5]; walk_at "s")
      refine ds_I (by rw [toQ_len]; omega) ?_
      have ek : ((toQ (gq ps)).map (·.1)) = (gq ps).map (·.1) := by unfold toQ; rw [List.map_map]; rfl
      rw [ek]
      walk_at "s"
      have em : ∀ i ∈ srtK ps, i ∈ (gq ps).map (·.1) := fun i hi => (srtK_perm ps).mem_iff.mp hi
      refine lcd_flt (as := srtK ps) (fun i : Int => .int i) (fun i => pd (i, cq ps i)) (fun i => decide (cq ps i ≠ 0)) rfl (fun i hi k1 k0 h1 h0 => ?_) ?_ ?_
      · have lk := lkp_some (gq ps) (em i hi)
        rw [gq_qt] at lk
        (simp only [c_gathered_2]; walk_at "s")
        refine dg_I ?_
        rw [lk]
        refine ⟨_, rfl, ?_⟩
        simp only [fr0, ↓wE.eq_1, ↓wE.eq_2, ↓wE.eq_3, ↓wE.eq_4, ↓wE.eq_5, ↓wE.eq_6, ↓wE.eq_7, ↓wE.eq_8, ↓wE.eq_9, ↓wE.eq_10, ↓wE.eq_11, ↓wE.eq_12, ↓wE.eq_13, ↓wE.eq_14, ↓wE.eq_15, ↓wE.eq_16, ↓wE.eq_18, ↓wE.eq_19, ↓wE.eq_22, ↓wE.eq_23, ↓wE.eq_24, ↓wE.eq_25, ↓wE.eq_26, ↓wE.eq_27, ↓wE.eq_28, ↓wE.eq_29, ↓wE.eq_30, ↓wE.eq_31, ↓wE.eq_32, ↓wE.eq_34, ↓wE.eq_35, ↓wE.eq_36, ↓wE.eq_37, ↓wE.eq_38, ↓wE.eq_39, ↓wE.eq_40, ↓wE.eq_41, ↓wE_call, ↓wE_callP, ↓wE_lc, ↓wE_lcg, ↓wE_isv, ↓wE_ix, ↓ix_fr0, ↓ix_fr1, ↓cmp_fr, ↓cmp_frn, ↓cmp_fr0, ↓cmp_tz, ↓cmp_tzn, ↓cmp_tz0, ↓cmp_tzn0, ↓bi_list_tz, ↓add_tz,   ↓len_tz, ↓len_fr, ↓isT_fr, items_tz, ↓cmp_bb, ↓cmp_bbn, ↓wS_whl, ↓wS_for, ↓wS_forP, ↓wS_asg, ↓wS_par, ↓wS_setIx, ↓wS_app, ↓tgW_one, ↓tgW_tup, pvF_eq, ↓wS.eq_1, ↓wS.eq_2, ↓wS.eq_3, ↓wS.eq_5, ↓wS.eq_7, ↓wS.eq_10, ↓wS.eq_11, ↓wS.eq_12, ↓wS.eq_13, ↓wS.eq_14, ↓wS.eq_15, ↓wS.eq_16, ↓wS.eq_17, ↓wS.eq_20, ↓wS.eq_21, ↓wS.eq_22, ↓wS.eq_23, ↓wS.eq_24, ↓wS.eq_25, ↓wS.eq_26, ↓wS.eq_27, ↓wS.eq_28, ↓wS.eq_29, ↓wS.eq_30, ↓augW.eq_1, ↓augW.eq_2, ↓augW.eq_3, ↓augW.eq_4, ↓inW.eq_1, ↓inW.eq_2, ↓inW.eq_3, ↓inW.eq_4, ↓zipW.eq_1, ↓zipW.eq_2, ↓cntW.eq_1, ↓dspW.eq_1, ↓idxW.eq_1, ↓opW.eq_1, ↓opW.eq_2, ↓opW.eq_3, ↓opW.eq_4, ↓opW.eq_5, ↓opW.eq_6, ↓opW.eq_7, ↓opW.eq_8, ↓opW.eq_9, ↓opW.eq_10, ↓opW.eq_11, ↓opW.eq_12, ↓opW.eq_13, ↓opW.eq_14, ↓cmpW.eq_1, ↓cmpW.eq_2, ↓cmpW.eq_5, ↓cmpW.eq_6, ↓cmpW.eq_7, ↓cmpW.eq_8, ↓cmpW.eq_9, ↓cmpW.eq_10, ↓cmpW.eq_11, ↓cmpW.eq_12, ↓cmp_ll, ↓cmp_lln, ↓cmp_tt, ↓cmp_ttn, ↓biW.eq_1, ↓biW.eq_2, ↓biW.eq_3, ↓biW.eq_4, ↓biW.eq_5, ↓biW.eq_6, ↓biW.eq_7, ↓biW.eq_8, ↓biW.eq_9, ↓biW.eq_10, ↓biW.eq_11, ↓biW.eq_12, ↓biW.eq_13, ↓biW.eq_14, ↓biW.eq_15, ↓biW.eq_16, ↓biW.eq_17, ↓lenW.eq_1, ↓lenW.eq_2, ↓slW.eq_1, ↓slW.eq_2, ↓revW.eq_1, ↓revW.eq_2, ↓pkW_var, ↓ptW_nil, ↓ptK_i, ↓pkW_cst, ↓pkW_tup, ↓pkW_lst, ↓pkW_bin, ↓pkW_neg, ↓pkW_ix, ↓pkW_sl, ↓pkW_rev, ↓pkW_call, ↓pkW_callP, ↓pkW_bi, ↓pkW_len, ↓pkW_lc, ↓pkW_ite, ↓pkW_gc, ↓pkW_mov, ↓pkW_dsp, ↓pkW_bone, ↓pkW_cmp, ↓pkW_cnt, ↓ptW_cst, ↓ptW_tup, ↓ptW_lst, ↓ptW_bin, ↓ptW_neg, ↓ptW_ix, ↓ptW_sl, ↓ptW_rev, ↓ptW_call, ↓ptW_callP, ↓ptW_bi, ↓ptW_len, ↓ptW_lc, ↓ptW_ite, ↓ptW_gc, ↓ptW_mov, ↓ptW_dsp, ↓ptW_bone, ↓ptW_cmp, ↓ptW_cnt, ↓ptW_var, ↓peek, ↓ownAt, ↓kD.eq_1, ↓kD.eq_2, ↓kM.eq_1, ↓kB.eq_1, ↓kV.eq_1, ↓kV.eq_2, ↓setW, ↓rngW1.eq_1, ↓rngW2.eq_1, ↓rngWd.eq_1, isVar, isNil, isT, gv, pv, setAll, ev0, items.eq_1, items.eq_2, tgs, wipeE, blind_cons, blind_nil, bl1, runB, List.map_cons, List.map_nil, List.replicate, List.cons_append, List.nil_append, if_true, if_false, ite_true, ite_false, reduceCtorEq, Bool.true_and, Bool.and_true, Bool.not_true, Bool.not_false, Bool.false_eq_true, ↓reduceIte, Nat.reduceSub, Nat.reduceAdd, List.length_cons, List.length_nil, decide_eq_true_eq, Bool.not_eq_true', decide_eq_false_iff_not, Bool.and_false, Bool.false_and, true_and, and_true, Nat.sub_self, Nat.succ_eq_add_one, flat, Nat.reduceLeDiff, Int.reduceLE, Int.reduceLT, Int.reduceEq, ne_eq, not_false_eq_true, s10, la_2, la_3, la_4, la_5, la_6, la_7, la_8, la_9, la_10, la_11, la_12, la_13, la_14, la_15, la_16, la_18, la_19, la_20, la_21, la_24, la_25, la_28, la_30, la_35, la_36, la_39, la_40, la_41, la_44, la_45, la_49, la_50, la_52, la_54, la_57, la_63, la_64, la_65, la_72, la_78, la_81, la_90, la_100, la_121, la_123, la_125, la_126, la_144, la_162, la_168, la_176, la_196, la_200, la_216, la_240, la_360, la_369, la_400, la_402, la_441, la_540, la_550, la_900, la_907, la_997, la_1009, la_1100, la_1152, la_1440, la_1764, la_2001, la_2003, la_2200, la_3150, la_4099, la_16807, la_22500, la_24200, la_72600, Nat.reduceLT, ↓ix_t0, ↓ix_t1, ↓ix_t2, ↓ix_t3, ↓ix_t4, ↓ix_t5, ↓ix_t6, ↓ix_l0, ↓ix_l1, ↓ix_l2, ↓ix_l3, ↓ix_l4, ↓ix_l5, ↓ix_l6, ↓add_ttz, ↓isT_tz, ↓sl_tz, isN_non, isN_tup, isN_lst, isN_int, isN_str, isN_bl, isN_fr, isN_tz, ↓hS.eq_1, ↓hS.eq_2, ↓hS.eq_3, ↓hS.eq_4, hE, hB, ↓hide.eq_1, ↓hide.eq_2, isS, Nat.reduceBEq, Bool.or_true, Bool.or_false, Bool.true_or, Bool.false_or, beq_self_eq_true, not_true_eq_false, Int.cast_ofNat_Int, ↓wE_callL, ↓wE_callLP, ↓kR_d, ↓kR_o, ↓kT_twoO, ↓kTP_two, ↓kTP_twoO, ↓pkW_callLP, ↓wE_lemp, ↓wE_lix, ↓wE_lpop0, ↓wE_lcL, ↓wE_lcK, ↓pkW_lcK, ↓kT_two, ↓lentAt, unlend_nil, unlend_cons, ul1_n, ul1_d, ul1_o, ul1_l, ↓wS_lend, ↓wS_lfn, ↓wS_retL, ↓wS_lset, ↓wS_asgN, ↓tgW_nst, noTwo_d, noTwo_o, ↓pkW_callL, ↓pkW_lix, ↓pkW_lemp, ↓pkW_lpop0, ↓pkW_lcL, ↓ptW_callL, ↓ptW_lix, ↓wE_lit, ↓pkW_lit, ↓ptW_lit, ↓cmp_geT, ↓wE_dget, ↓wE_dix, ↓wE_dsrt, ↓wE_dlc, ↓wE_lcD, ↓wE_srt, ↓wS_dnewT, ↓wS_dnewI, ↓wS_dset, ↓dictAt, itemsD_I, itemsD_T, ↓pkW_dget, ↓ptW_dget, ↓pkW_dix, ↓ptW_dix, ↓pkW_dsrt, ↓ptW_dsrt, ↓pkW_dlc, ↓ptW_dlc, ↓pkW_lcD, ↓ptW_lcD, ↓pkW_srt, ↓ptW_srt]
        by_cases z : cq ps i = 0
        · simp only [z, decide_true, ↓wE.eq_1, ↓wE.eq_2, ↓wE.eq_3, ↓wE.eq_4, ↓wE.eq_5, ↓wE.eq_6, ↓wE.eq_7, ↓wE.eq_8, ↓wE.eq_9, ↓wE.eq_10, ↓wE.eq_11, ↓wE.eq_12, ↓wE.eq_13, ↓wE.eq_14, ↓wE.eq_15, ↓wE.eq_16, ↓wE.eq_18, ↓wE.eq_19, ↓wE.eq_22, ↓wE.eq_23, ↓wE.eq_24, ↓wE.eq_25, ↓wE.eq_26, ↓wE.eq_27, ↓wE.eq_28, ↓wE.eq_29, ↓wE.eq_30, ↓wE.eq_31, ↓wE.eq_32, ↓wE.eq_34, ↓wE.eq_35, ↓wE.eq_36, ↓wE.eq_37, ↓wE.eq_38, ↓wE.eq_39, ↓wE.eq_40, ↓wE.eq_41, ↓wE_call, ↓wE_callP, ↓wE_lc, ↓wE_lcg, ↓wE_isv, ↓wE_ix, ↓ix_fr0, ↓ix_fr1, ↓cmp_fr, ↓cmp_frn, ↓cmp_fr0, ↓cmp_tz, ↓cmp_tzn, ↓cmp_tz0, ↓cmp_tzn0, ↓bi_list_tz, ↓add_tz,   ↓len_tz, ↓len_fr, ↓isT_fr, items_tz, ↓cmp_bb, ↓cmp_bbn, ↓wS_whl, ↓wS_for, ↓wS_forP, ↓wS_asg, ↓wS_par, ↓wS_setIx, ↓wS_app, ↓tgW_one, ↓tgW_tup, pvF_eq, ↓wS.eq_1, ↓wS.eq_2, ↓wS.eq_3, ↓wS.eq_5, ↓wS.eq_7, ↓wS.eq_10, ↓wS.eq_11, ↓wS.eq_12, ↓wS.eq_13, ↓wS.eq_14, ↓wS.eq_15, ↓wS.eq_16, ↓wS.eq_17, ↓wS.eq_20, ↓wS.eq_21, ↓wS.eq_22, ↓wS.eq_23, ↓wS.eq_24, ↓wS.eq_25, ↓wS.eq_26, ↓wS.eq_27, ↓wS.eq_28, ↓wS.eq_29, ↓wS.eq_30, ↓augW.eq_1, ↓augW.eq_2, ↓augW.eq_3, ↓augW.eq_4, ↓inW.eq_1, ↓inW.eq_2, ↓inW.eq_3, ↓inW.eq_4, ↓zipW.eq_1, ↓zipW.eq_2, ↓cntW.eq_1, ↓dspW.eq_1, ↓idxW.eq_1, ↓opW.eq_1, ↓opW.eq_2, ↓opW.eq_3, ↓opW.eq_4, ↓opW.eq_5, ↓opW.eq_6, ↓opW.eq_7, ↓opW.eq_8, ↓opW.eq_9, ↓opW.eq_10, ↓opW.eq_11, ↓opW.eq_12, ↓opW.eq_13, ↓opW.eq_14, ↓cmpW.eq_1, ↓cmpW.eq_2, ↓cmpW.eq_5, ↓cmpW.eq_6, ↓cmpW.eq_7, ↓cmpW.eq_8, ↓cmpW.eq_9, ↓cmpW.eq_10, ↓cmpW.eq_11, ↓cmpW.eq_12, ↓cmp_ll, ↓cmp_lln, ↓cmp_tt, ↓cmp_ttn, ↓biW.eq_1, ↓biW.eq_2, ↓biW.eq_3, ↓biW.eq_4, ↓biW.eq_5, ↓biW.eq_6, ↓biW.eq_7, ↓biW.eq_8, ↓biW.eq_9, ↓biW.eq_10, ↓biW.eq_11, ↓biW.eq_12, ↓biW.eq_13, ↓biW.eq_14, ↓biW.eq_15, ↓biW.eq_16, ↓biW.eq_17, ↓lenW.eq_1, ↓lenW.eq_2, ↓slW.eq_1, ↓slW.eq_2, ↓revW.eq_1, ↓revW.eq_2, ↓pkW_var, ↓ptW_nil, ↓ptK_i, ↓pkW_cst, ↓pkW_tup, ↓pkW_lst, ↓pkW_bin, ↓pkW_neg, ↓pkW_ix, ↓pkW_sl, ↓pkW_rev, ↓pkW_call, ↓pkW_callP, ↓pkW_bi, ↓pkW_len, ↓pkW_lc, ↓pkW_ite, ↓pkW_gc, ↓pkW_mov, ↓pkW_dsp, ↓pkW_bone, ↓pkW_cmp, ↓pkW_cnt, ↓ptW_cst, ↓ptW_tup, ↓ptW_lst, ↓ptW_bin, ↓ptW_neg, ↓ptW_ix, ↓ptW_sl, ↓ptW_rev, ↓ptW_call, ↓ptW_callP, ↓ptW_bi, ↓ptW_len, ↓ptW_lc, ↓ptW_ite, ↓ptW_gc, ↓ptW_mov, ↓ptW_dsp, ↓ptW_bone, ↓ptW_cmp, ↓ptW_cnt, ↓ptW_var, ↓peek, ↓ownAt, ↓kD.eq_1, ↓kD.eq_2, ↓kM.eq_1, ↓kB.eq_1, ↓kV.eq_1, ↓kV.eq_2, ↓setW, ↓rngW1.eq_1, ↓rngW2.eq_1, ↓rngWd.eq_1, isVar, isNil, isT, gv, pv, setAll, ev0, items.eq_1, items.eq_2, tgs, wipeE, blind_cons, blind_nil, bl1, runB, List.map_cons, List.map_nil, List.replicate, List.cons_append, List.nil_append, if_true, if_false, ite_true, ite_false, reduceCtorEq, Bool.true_and, Bool.and_true, Bool.not_true, Bool.not_false, Bool.false_eq_true, ↓reduceIte, Nat.reduceSub, Nat.reduceAdd, List.length_cons, List.length_nil, decide_eq_true_eq, Bool.not_eq_true', decide_eq_false_iff_not, Bool.and_false, Bool.false_and, true_and, and_true, Nat.sub_self, Nat.succ_eq_add_one, flat, Nat.reduceLeDiff, Int.reduceLE, Int.reduceLT, Int.reduceEq, ne_eq, not_false_eq_true, s10, la_2, la_3, la_4, la_5, la_6, la_7, la_8, la_9, la_10, la_11, la_12, la_13, la_14, la_15, la_16, la_18, la_19, la_20, la_21, la_24, la_25, la_28, la_30, la_35, la_36, la_39, la_40, la_41, la_44, la_45, la_49, la_50, la_52, la_54, la_57, la_63, la_64, la_65, la_72, la_78, la_81, la_90, la_100, la_121, la_123, la_125, la_126, la_144, la_162, la_168, la_176, la_196, la_200, la_216, la_240, la_360, la_369, la_400, la_402, la_441, la_540, la_550, la_900, la_907, la_997, la_1009, la_1100, la_1152, la_1440, la_1764, la_2001, la_2003, la_2200, la_3150, la_4099, la_16807, la_22500, la_24200, la_72600, Nat.reduceLT, ↓ix_t0, ↓ix_t1, ↓ix_t2, ↓ix_t3, ↓ix_t4, ↓ix_t5, ↓ix_t6, ↓ix_l0, ↓ix_l1, ↓ix_l2, ↓ix_l3, ↓ix_l4, ↓ix_l5, ↓ix_l6, ↓add_ttz, ↓isT_tz, ↓sl_tz, isN_non, isN_tup, isN_lst, isN_int, isN_str, isN_bl, isN_fr, isN_tz, ↓hS.eq_1, ↓hS.eq_2, ↓hS.eq_3, ↓hS.eq_4, hE, hB, ↓hide.eq_1, ↓hide.eq_2, isS, Nat.reduceBEq, Bool.or_true, Bool.or_false, Bool.true_or, Bool.false_or, beq_self_eq_true, not_true_eq_false, Int.cast_ofNat_Int, ↓wE_callL, ↓wE_callLP, ↓kR_d, ↓kR_o, ↓kT_twoO, ↓kTP_two, ↓kTP_twoO, ↓pkW_callLP, ↓wE_lemp, ↓wE_lix, ↓wE_lpop0, ↓wE_lcL, ↓wE_lcK, ↓pkW_lcK, ↓kT_two, ↓lentAt, unlend_nil, unlend_cons, ul1_n, ul1_d, ul1_o, ul1_l, ↓wS_lend, ↓wS_lfn, ↓wS_retL, ↓wS_lset, ↓wS_asgN, ↓tgW_nst, noTwo_d, noTwo_o, ↓pkW_callL, ↓pkW_lix, ↓pkW_lemp, ↓pkW_lpop0, ↓pkW_lcL, ↓ptW_callL, ↓ptW_lix, ↓wE_lit, ↓pkW_lit, ↓ptW_lit, ↓cmp_geT, ↓wE_dget, ↓wE_dix, ↓wE_dsrt, ↓wE_dlc, ↓wE_lcD, ↓wE_srt, ↓wS_dnewT, ↓wS_dnewI, ↓wS_dset, ↓dictAt, itemsD_I, itemsD_T, ↓pkW_dget, ↓ptW_dget, ↓pkW_dix, ↓ptW_dix, ↓pkW_dsrt, ↓ptW_dsrt, ↓pkW_dlc, ↓ptW_dlc, ↓pkW_lcD, ↓ptW_lcD, ↓pkW_srt, ↓ptW_srt]
          exact h0 (by simpa using z) _ rfl
        · simp only [z, decide_false, e_gathered_3, ↓wE.eq_1, ↓wE.eq_2, ↓wE.eq_3, ↓wE.eq_4, ↓wE.eq_5, ↓wE.eq_6, ↓wE.eq_7, ↓wE.eq_8, ↓wE.eq_9, ↓wE.eq_10, ↓wE.eq_11, ↓wE.eq_12, ↓wE.eq_13, ↓wE.eq_14, ↓wE.eq_15, ↓wE.eq_16, ↓wE.eq_18, ↓wE.eq_19, ↓wE.eq_22, ↓wE.eq_23, ↓wE.eq_24, ↓wE.eq_25, ↓wE.eq_26, ↓wE.eq_27, ↓wE.eq_28, ↓wE.eq_29, ↓wE.eq_30, ↓wE.eq_31, ↓wE.eq_32, ↓wE.eq_34, ↓wE.eq_35, ↓wE.eq_36, ↓wE.eq_37, ↓wE.eq_38, ↓wE.eq_39, ↓wE.eq_40, ↓wE.eq_41, ↓wE_call, ↓wE_callP, ↓wE_lc, ↓wE_lcg, ↓wE_isv, ↓wE_ix, ↓ix_fr0, ↓ix_fr1, ↓cmp_fr, ↓cmp_frn, ↓cmp_fr0, ↓cmp_tz, ↓cmp_tzn, ↓cmp_tz0, ↓cmp_tzn0, ↓bi_list_tz, ↓add_tz,   ↓len_tz, ↓len_fr, ↓isT_fr, items_tz, ↓cmp_bb, ↓cmp_bbn, ↓wS_whl, ↓wS_for, ↓wS_forP, ↓wS_asg, ↓wS_par, ↓wS_setIx, ↓wS_app, ↓tgW_one, ↓tgW_tup, pvF_eq, ↓wS.eq_1, ↓wS.eq_2, ↓wS.eq_3, ↓wS.eq_5, ↓wS.eq_7, ↓wS.eq_10, ↓wS.eq_11, ↓wS.eq_12, ↓wS.eq_13, ↓wS.eq_14, ↓wS.eq_15, ↓wS.eq_16, ↓wS.eq_17, ↓wS.eq_20, ↓wS.eq_21, ↓wS.eq_22, ↓wS.eq_23, ↓wS.eq_24, ↓wS.eq_25, ↓wS.eq_26, ↓wS.eq_27, ↓wS.eq_28, ↓wS.eq_29, ↓wS.eq_30, ↓augW.eq_1, ↓augW.eq_2, ↓augW.eq_3, ↓augW.eq_4, ↓inW.eq_1, ↓inW.eq_2, ↓inW.eq_3, ↓inW.eq_4, ↓zipW.eq_1, ↓zipW.eq_2, ↓cntW.eq_1, ↓dspW.eq_1, ↓idxW.eq_1, ↓opW.eq_1, ↓opW.eq_2, ↓opW.eq_3, ↓opW.eq_4, ↓opW.eq_5, ↓opW.eq_6, ↓opW.eq_7, ↓opW.eq_8, ↓opW.eq_9, ↓opW.eq_10, ↓opW.eq_11, ↓opW.eq_12, ↓opW.eq_13, ↓opW.eq_14, ↓cmpW.eq_1, ↓cmpW.eq_2, ↓cmpW.eq_5, ↓cmpW.eq_6, ↓cmpW.eq_7, ↓cmpW.eq_8, ↓cmpW.eq_9, ↓cmpW.eq_10, ↓cmpW.eq_11, ↓cmpW.eq_12, ↓cmp_ll, ↓cmp_lln, ↓cmp_tt, ↓cmp_ttn, ↓biW.eq_1, ↓biW.eq_2, ↓biW.eq_3, ↓biW.eq_4, ↓biW.eq_5, ↓biW.eq_6, ↓biW.eq_7, ↓biW.eq_8, ↓biW.eq_9, ↓biW.eq_10, ↓biW.eq_11, ↓biW.eq_12, ↓biW.eq_13, ↓biW.eq_14, ↓biW.eq_15, ↓biW.eq_16, ↓biW.eq_17, ↓lenW.eq_1, ↓lenW.eq_2, ↓slW.eq_1, ↓slW.eq_2, ↓revW.eq_1, ↓revW.eq_2, ↓pkW_var, ↓ptW_nil, ↓ptK_i, ↓pkW_cst, ↓pkW_tup, ↓pkW_lst, ↓pkW_bin, ↓pkW_neg, ↓pkW_ix, ↓pkW_sl, ↓pkW_rev, ↓pkW_call, ↓pkW_callP, ↓pkW_bi, ↓pkW_len, ↓pkW_lc, ↓pkW_ite, ↓pkW_gc, ↓pkW_mov, ↓pkW_dsp, ↓pkW_bone, ↓pkW_cmp, ↓pkW_cnt, ↓ptW_cst, ↓ptW_tup, ↓ptW_lst, ↓ptW_bin, ↓ptW_neg, ↓ptW_ix, ↓ptW_sl, ↓ptW_rev, ↓ptW_call, ↓ptW_callP, ↓ptW_bi, ↓ptW_len, ↓ptW_lc, ↓ptW_ite, ↓ptW_gc, ↓ptW_mov, ↓ptW_dsp, ↓ptW_bone, ↓ptW_cmp, ↓ptW_cnt, ↓ptW_var, ↓peek, ↓ownAt, ↓kD.eq_1, ↓kD.eq_2, ↓kM.eq_1, ↓kB.eq_1, ↓kV.eq_1, ↓kV.eq_2, ↓setW, ↓rngW1.eq_1, ↓rngW2.eq_1, ↓rngWd.eq_1, isVar, isNil, isT, gv, pv, setAll, ev0, items.eq_1, items.eq_2, tgs, wipeE, blind_cons, blind_nil, bl1, runB, List.map_cons, List.map_nil, List.replicate, List.cons_append, List.nil_append, if_true, if_false, ite_true, ite_false, reduceCtorEq, Bool.true_and, Bool.and_true, Bool.not_true, Bool.not_false, Bool.false_eq_true, ↓reduceIte, Nat.reduceSub, Nat.reduceAdd, List.length_cons, List.length_nil, decide_eq_true_eq, Bool.not_eq_true', decide_eq_false_iff_not, Bool.and_false, Bool.false_and, true_and, and_true, Nat.sub_self, Nat.succ_eq_add_one, flat, Nat.reduceLeDiff, Int.reduceLE, Int.reduceLT, Int.reduceEq, ne_eq, not_false_eq_true, s10, la_2, la_3, la_4, la_5, la_6, la_7, la_8, la_9, la_10, la_11, la_12, la_13, la_14, la_15, la_16, la_18, la_19, la_20, la_21, la_24, la_25, la_28, la_30, la_35, la_36, la_39, la_40, la_41, la_44, la_45, la_49, la_50, la_52, la_54, la_57, la_63, la_64, la_65, la_72, la_78, la_81, la_90, la_100, la_121, la_123, la_125, la_126, la_144, la_162, la_168, la_176, la_196, la_200, la_216, la_240, la_360, la_369, la_400, la_402, la_441, la_540, la_550, la_900, la_907, la_997, la_1009, la_1100, la_1152, la_1440, la_1764, la_2001, la_2003, la_2200, la_3150, la_4099, la_16807, la_22500, la_24200, la_72600, Nat.reduceLT, ↓ix_t0, ↓ix_t1, ↓ix_t2, ↓ix_t3, ↓ix_t4, ↓ix_t5, ↓ix_t6, ↓ix_l0, ↓ix_l1, ↓ix_l2, ↓ix_l3, ↓ix_l4, ↓ix_l5, ↓ix_l6, ↓add_ttz, ↓isT_tz, ↓sl_tz, isN_non, isN_tup, isN_lst, isN_int, isN_str, isN_bl, isN_fr, isN_tz, ↓hS.eq_1, ↓hS.eq_2, ↓hS.eq_3, ↓hS.eq_4, hE, hB, ↓hide.eq_1, ↓hide.eq_2, isS, Nat.reduceBEq, Bool.or_true, Bool.or_false, Bool.true_or, Bool.false_or, beq_self_eq_true, not_true_eq_false, Int.cast_ofNat_Int, ↓wE_callL, ↓wE_callLP, ↓kR_d, ↓kR_o, ↓kT_twoO, ↓kTP_two, ↓kTP_twoO, ↓pkW_callLP, ↓wE_lemp, ↓wE_lix, ↓wE_lpop0, ↓wE_lcL, ↓wE_lcK, ↓pkW_lcK, ↓kT_two, ↓lentAt, unlend_nil, unlend_cons, ul1_n, ul1_d, ul1_o, ul1_l, ↓wS_lend, ↓wS_lfn, ↓wS_retL, ↓wS_lset, ↓wS_asgN, ↓tgW_nst, noTwo_d, noTwo_o, ↓pkW_callL, ↓pkW_lix, ↓pkW_lemp, ↓pkW_lpop0, ↓pkW_lcL, ↓ptW_callL, ↓ptW_lix, ↓wE_lit, ↓pkW_lit, ↓ptW_lit, ↓cmp_geT, ↓wE_dget, ↓wE_dix, ↓wE_dsrt, ↓wE_dlc, ↓wE_lcD, ↓wE_srt, ↓wS_dnewT, ↓wS_dnewI, ↓wS_dset, ↓dictAt, itemsD_I, itemsD_T, ↓pkW_dget, ↓ptW_dget, ↓pkW_dix, ↓ptW_dix, ↓pkW_dsrt, ↓ptW_dsrt, ↓pkW_dlc, ↓ptW_dlc, ↓pkW_lcD, ↓ptW_lcD, ↓pkW_srt, ↓ptW_srt]
          refine dg_I ?_
          rw [lk]
          refine ⟨_, rfl, ?_⟩
          walk_at "s"
          exact h1 (by simpa using z) _ rfl
      · rw [(srtK_perm ps).length_eq, List.length_map]; omega
      · have er : ((srtK ps).filter fun i => decide (cq ps i ≠ 0)).map (fun i => pd (i, cq ps i)) = (rs ps).map pd := by
          unfold rs
          rw [List.map_map]; rfl
        rw [er]
        have rl : (rs ps).length ≤ n := Nat.le_trans (rs_len ps) hn
        walk_at "s"
        refine p_roots_in rfl (by rw [List.length_map]; omega) (fun x hx => ?_) ?_
        · obtain ⟨p, _, rfl⟩ := List.mem_map.mp hx
          exact ⟨_, _, rfl⟩
        have ef : ((rs ps).map pd).filter (fun x => decide (1 < kof x)) = ((rs ps).filter fun p => decide (1 < p.1)).map pd := by rw [List.filter_map]; rfl
        rw [ef]
        have fin3 : ¬ ((rs ps).filter fun p => decide (1 < p.1)).length ≤ 3 → X 2 := fun z => hx (by unfold gok; rw [decide_eq_false z, Bool.false_and])
        walk_at "s"
        rw [List.length_map]
        split
        · exact fin3 (by omega)
        · rename_i hle
          refine lc_as pd (fun p => .bool (decide (1000000000000 < p.1))) (fun p hp kk hk => ?_) (by omega) ?_
          · simp only [pd, e_gathered_4, ↓wE.eq_1, ↓wE.eq_2, ↓wE.eq_3, ↓wE.eq_4, ↓wE.eq_5, ↓wE.eq_6, ↓wE.eq_7, ↓wE.eq_8, ↓wE.eq_9, ↓wE.eq_10, ↓wE.eq_11, ↓wE.eq_12, ↓wE.eq_13, ↓wE.eq_14, ↓wE.eq_15, ↓wE.eq_16, ↓wE.eq_18, ↓wE.eq_19, ↓wE.eq_22, ↓wE.eq_23, ↓wE.eq_24, ↓wE.eq_25, ↓wE.eq_26, ↓wE.eq_27, ↓wE.eq_28, ↓wE.eq_29, ↓wE.eq_30, ↓wE.eq_31, ↓wE.eq_32, ↓wE.eq_34, ↓wE.eq_35, ↓wE.eq_36, ↓wE.eq_37, ↓wE.eq_38, ↓wE.eq_39, ↓wE.eq_40, ↓wE.eq_41, ↓wE_call, ↓wE_callP, ↓wE_lc, ↓wE_lcg, ↓wE_isv, ↓wE_ix, ↓ix_fr0, ↓ix_fr1, ↓cmp_fr, ↓cmp_frn, ↓cmp_fr0, ↓cmp_tz, ↓cmp_tzn, ↓cmp_tz0, ↓cmp_tzn0, ↓bi_list_tz, ↓add_tz,   ↓len_tz, ↓len_fr, ↓isT_fr, items_tz, ↓cmp_bb, ↓cmp_bbn, ↓wS_whl, ↓wS_for, ↓wS_forP, ↓wS_asg, ↓wS_par, ↓wS_setIx, ↓wS_app, ↓tgW_one, ↓tgW_tup, pvF_eq, ↓wS.eq_1, ↓wS.eq_2, ↓wS.eq_3, ↓wS.eq_5, ↓wS.eq_7, ↓wS.eq_10, ↓wS.eq_11, ↓wS.eq_12, ↓wS.eq_13, ↓wS.eq_14, ↓wS.eq_15, ↓wS.eq_16, ↓wS.eq_17, ↓wS.eq_20, ↓wS.eq_21, ↓wS.eq_22, ↓wS.eq_23, ↓wS.eq_24, ↓wS.eq_25, ↓wS.eq_26, ↓wS.eq_27, ↓wS.eq_28, ↓wS.eq_29, ↓wS.eq_30, ↓augW.eq_1, ↓augW.eq_2, ↓augW.eq_3, ↓augW.eq_4, ↓inW.eq_1, ↓inW.eq_2, ↓inW.eq_3, ↓inW.eq_4, ↓zipW.eq_1, ↓zipW.eq_2, ↓cntW.eq_1, ↓dspW.eq_1, ↓idxW.eq_1, ↓opW.eq_1, ↓opW.eq_2, ↓opW.eq_3, ↓opW.eq_4, ↓opW.eq_5, ↓opW.eq_6, ↓opW.eq_7, ↓opW.eq_8, ↓opW.eq_9, ↓opW.eq_10, ↓opW.eq_11, ↓opW.eq_12, ↓opW.eq_13, ↓opW.eq_14, ↓cmpW.eq_1, ↓cmpW.eq_2, ↓cmpW.eq_5, ↓cmpW.eq_6, ↓cmpW.eq_7, ↓cmpW.eq_8, ↓cmpW.eq_9, ↓cmpW.eq_10, ↓cmpW.eq_11, ↓cmpW.eq_12, ↓cmp_ll, ↓cmp_lln, ↓cmp_tt, ↓cmp_ttn, ↓biW.eq_1, ↓biW.eq_2, ↓biW.eq_3, ↓biW.eq_4, ↓biW.eq_5, ↓biW.eq_6, ↓biW.eq_7, ↓biW.eq_8, ↓biW.eq_9, ↓biW.eq_10, ↓biW.eq_11, ↓biW.eq_12, ↓biW.eq_13, ↓biW.eq_14, ↓biW.eq_15, ↓biW.eq_16, ↓biW.eq_17, ↓lenW.eq_1, ↓lenW.eq_2, ↓slW.eq_1, ↓slW.eq_2, ↓revW.eq_1, ↓revW.eq_2, ↓pkW_var, ↓ptW_nil, ↓ptK_i, ↓pkW_cst, ↓pkW_tup, ↓pkW_lst, ↓pkW_bin, ↓pkW_neg, ↓pkW_ix, ↓pkW_sl, ↓pkW_rev, ↓pkW_call, ↓pkW_callP, ↓pkW_bi, ↓pkW_len, ↓pkW_lc, ↓pkW_ite, ↓pkW_gc, ↓pkW_mov, ↓pkW_dsp, ↓pkW_bone, ↓pkW_cmp, ↓pkW_cnt, ↓ptW_cst, ↓ptW_tup, ↓ptW_lst, ↓ptW_bin, ↓ptW_neg, ↓ptW_ix, ↓ptW_sl, ↓ptW_rev, ↓ptW_call, ↓ptW_callP, ↓ptW_bi, ↓ptW_len, ↓ptW_lc, ↓ptW_ite, ↓ptW_gc, ↓ptW_mov, ↓ptW_dsp, ↓ptW_bone, ↓ptW_cmp, ↓ptW_cnt, ↓ptW_var, ↓peek, ↓ownAt, ↓kD.eq_1, ↓kD.eq_2, ↓kM.eq_1, ↓kB.eq_1, ↓kV.eq_1, ↓kV.eq_2, ↓setW, ↓rngW1.eq_1, ↓rngW2.eq_1, ↓rngWd.eq_1, isVar, isNil, isT, gv, pv, setAll, ev0, items.eq_1, items.eq_2, tgs, wipeE, blind_cons, blind_nil, bl1, runB, List.map_cons, List.map_nil, List.replicate, List.cons_append, List.nil_append, if_true, if_false, ite_true, ite_false, reduceCtorEq, Bool.true_and, Bool.and_true, Bool.not_true, Bool.not_false, Bool.false_eq_true, ↓reduceIte, Nat.reduceSub, Nat.reduceAdd, List.length_cons, List.length_nil, decide_eq_true_eq, Bool.not_eq_true', decide_eq_false_iff_not, Bool.and_false, Bool.false_and, true_and, and_true, Nat.sub_self, Nat.succ_eq_add_one, flat, Nat.reduceLeDiff, Int.reduceLE, Int.reduceLT, Int.reduceEq, ne_eq, not_false_eq_true, s10, la_2, la_3, la_4, la_5, la_6, la_7, la_8, la_9, la_10, la_11, la_12, la_13, la_14, la_15, la_16, la_18, la_19, la_20, la_21, la_24, la_25, la_28, la_30, la_35, la_36, la_39, la_40, la_41, la_44, la_45, la_49, la_50, la_52, la_54, la_57, la_63, la_64, la_65, la_72, la_78, la_81, la_90, la_100, la_121, la_123, la_125, la_126, la_144, la_162, la_168, la_176, la_196, la_200, la_216, la_240, la_360, la_369, la_400, la_402, la_441, la_540, la_550, la_900, la_907, la_997, la_1009, la_1100, la_1152, la_1440, la_1764, la_2001, la_2003, la_2200, la_3150, la_4099, la_16807, la_22500, la_24200, la_72600, Nat.reduceLT, ↓ix_t0, ↓ix_t1, ↓ix_t2, ↓ix_t3, ↓ix_t4, ↓ix_t5, ↓ix_t6, ↓ix_l0, ↓ix_l1, ↓ix_l2, ↓ix_l3, ↓ix_l4, ↓ix_l5, ↓ix_l6, ↓add_ttz, ↓isT_tz, ↓sl_tz, isN_non, isN_tup, isN_lst, isN_int, isN_str, isN_bl, isN_fr, isN_tz, ↓hS.eq_1, ↓hS.eq_2, ↓hS.eq_3, ↓hS.eq_4, hE, hB, ↓hide.eq_1, ↓hide.eq_2, isS, Nat.reduceBEq, Bool.or_true, Bool.or_false, Bool.true_or, Bool.false_or, beq_self_eq_true, not_true_eq_false, Int.cast_ofNat_Int, ↓wE_callL, ↓wE_callLP, ↓kR_d, ↓kR_o, ↓kT_twoO, ↓kTP_two, ↓kTP_twoO, ↓pkW_callLP, ↓wE_lemp, ↓wE_lix, ↓wE_lpop0, ↓wE_lcL, ↓wE_lcK, ↓pkW_lcK, ↓kT_two, ↓lentAt, unlend_nil, unlend_cons, ul1_n, ul1_d, ul1_o, ul1_l, ↓wS_lend, ↓wS_lfn, ↓wS_retL, ↓wS_lset, ↓wS_asgN, ↓tgW_nst, noTwo_d, noTwo_o, ↓pkW_callL, ↓pkW_lix, ↓pkW_lemp, ↓pkW_lpop0, ↓pkW_lcL, ↓ptW_callL, ↓ptW_lix, ↓wE_lit, ↓pkW_lit, ↓ptW_lit, ↓cmp_geT, ↓wE_dget, ↓wE_dix, ↓wE_dsrt, ↓wE_dlc, ↓wE_lcD, ↓wE_srt, ↓wS_dnewT, ↓wS_dnewI, ↓wS_dset, ↓dictAt, itemsD_I, itemsD_T, ↓pkW_dget, ↓ptW_dget, ↓pkW_dix, ↓ptW_dix, ↓pkW_dsrt, ↓ptW_dsrt, ↓pkW_dlc, ↓ptW_dlc, ↓pkW_lcD, ↓ptW_lcD, ↓pkW_srt, ↓ptW_srt]
            exact hk _
          walk_at "s"
          refine ⟨_, asBools_map (fun p : Pr => decide (1000000000000 < p.1)) _, ?_⟩
          rw [List.any_map]
          have ea : (rs ps).any (id ∘ fun p : Pr => decide (1000000000000 < p.1)) = !((rs ps).all fun p => decide (p.1 ≤ 1000000000000)) := by
            rw [List.any_eq_not_all_not]
            congr 2
            funext p
            show (!decide (1000000000000 < p.1)) = decide (p.1 ≤ 1000000000000)
            by_cases z : p.1 ≤ 1000000000000
            · rw [decide_eq_true z, decide_eq_false (by omega)]; rfl
            · rw [decide_eq_false z, decide_eq_true (by omega)]; rfl
          rw [ea]
          have eg : gok (rs ps) = (rs ps).all fun p => decide (p.1 ≤ 1000000000000) := by
            unfold gok
            rw [decide_eq_true (by omega), Bool.true_and]
          cases ha : (rs ps).all fun p => decide (p.1 ≤ 1000000000000) with
          | false =>
            walk_at "s"
            exact hx (by rw [eg, ha])
          | true =>
            walk_at "s"
            exact h (by rw [eg, ha])

theorem p_root_sum {ts : List (Nat × Rat)} {v : D} {s n : Nat} (hv : items v = some (ts.map fun t => .tuple [.int (t.1 : Nat), fr t.2])) (hd : ∀ t ∈ ts, 0 < t.1 ∧ t.1 < 2 ^ 60) (hs : ∀ t ∈ ts, Sz s t.2) (hn : ts.length ≤ n) (n4 : n < 64) (bd : (s + 61 + 1) * (n + 1) + 1 ≤ 50000000)
    (h : gok (rs (outs ts)) = true → Q (.d (.tuple ((rs (outs ts)).map pd)))) (hx : gok (rs (outs ts)) = false → X 2) : sem fns (k + 5) 11 [v] X Q := by
  refine sem_at rfl ⟨rfl, ?_⟩
  (simp only [b_root_sum]; walk_at "s")
  rw [hv]
  walk_at "s"
  refine for_at' (fun q ε => ∃ (us ws : List (Nat × Rat)) (o2 o3 o4 o5 : Option Val), q = us.map (fun t => PyData.tuple [.int (t.1 : Nat), fr t.2]) ∧ ts = ws ++ us ∧ ε = [some (.d v), some (.own ((outs ws).map pd)), o2, o3, o4, o5]) ?_ ?_ _ _ ⟨ts, [], none, none, none, none, rfl, rfl, rfl⟩
  · rintro x q ε ⟨us, ws, o2, o3, o4, o5, hq, e, rfl⟩ hnx
    cases us with
    | nil => cases hq
    | cons t us =>
      cases hq
      have mt : t ∈ ts := by rw [e]; simp
      obtain ⟨d0, d1⟩ := hd t mt
      (simp only [b_root_sum_1]; walk_at "s")
      refine p_square_out d0 d1 fun o r so r0 o0 => ?_
      walk_at "s"
      have od : o ≤ t.1 := by
        rw [← so.1, Nat.mul_assoc]
        exact Nat.le_mul_of_pos_right _ (Nat.mul_pos o0 r0)
      have ef : PyData.tuple [.int (o : Nat), .int 1] = fr ((o : Int) : Rat) := fr_c rfl rfl
      rw [ef]
      have szo : Sz 61 ((o : Int) : Rat) := ⟨by show Bt 61 (o : Int); unfold Bt; omega, by show Bt 61 (1 : Int); exact bt_c (by decide)⟩
      refine p_times (a := s + 61) ((hs t mt).mono (by omega)) (szo.mono (by omega)) (by
        have : (s + 61 + 1) * 1 ≤ (s + 61 + 1) * (n + 1) := Nat.mul_le_mul_left _ (by omega)
        omega) ?_
      walk_at "s"
      have lw : ws.length < 64 := by
        have := congrArg List.length e
        simp at this
        omega
      have this : outs (ws ++ [t]) = outs ws ++ [((r : Int), t.2 * ((o : Int) : Rat))] := by
        unfold outs
        rw [List.map_append]
        show _ ++ [(((sqd t.1).2 : Int), t.2 * (((sqd t.1).1 : Int) : Rat))] = _
        rw [sqd_of d0 so]
      have el : (outs ws).map pd ++ [PyData.tuple [.int (r : Nat), fr (t.2 * ((o : Int) : Rat))]] = (outs (ws ++ [t])).map pd := by
        rw [this, List.map_append]
        rfl
      rw [el]
      exact ⟨by unfold outs; simp; omega, hnx _ ⟨us, ws ++ [t], _, _, _, _, rfl, by rw [e]; simp, rfl⟩⟩
  · rintro ε ⟨us, ws, o2, o3, o4, o5, hq, e, rfl⟩
    cases us with
    | cons _ _ => cases hq
    | nil =>
      rw [List.append_nil] at e
      subst e
      (simp only [b_root_sum_2]; walk_at "s")
      refine p_gathered (ps := outs ts) (s := s + 61) (n := n) rfl (fun p hp => ?_) (by unfold outs; rw [List.length_map]; exact hn) n4 bd (fun g => ?_) hx
      · obtain ⟨t, ht, rfl⟩ := List.mem_map.mp hp
        exact outs_sz (hd t ht) (hs t ht)
      · exact h g

theorem p_s_plus {a b : List Pr} {s n : Nat} (hs : ∀ p ∈ a ++ b, Sz s p.2) (hn : (a ++ b).length ≤ n) (n4 : n < 64) (bd : (s + 1) * (n + 1) + 1 ≤ 50000000)
    (h : gok (rs (a ++ b)) = true → Q (.d (.tuple ((rs (a ++ b)).map pd)))) (hx : gok (rs (a ++ b)) = false → X 2) : sem fns (k + 5) 12 [.tuple (a.map pd), .tuple (b.map pd)] X Q := by
  refine sem_at rfl ⟨rfl, ?_⟩
  (simp only [b_s_plus]; walk_at "s")
  refine ⟨by rw [List.length_map, List.length_map]; rw [List.length_append] at hn; omega, ?_⟩
  rw [← List.map_append]
  exact p_gathered (ps := a ++ b) (s := s) (n := n) rfl hs hn n4 bd h hx

theorem p_s_minus {a b : List Pr} {s n : Nat} (hs : ∀ p ∈ a ++ ng b, Sz s p.2) (hn : (a ++ ng b).length ≤ n) (n4 : n < 64) (bd : (s + 1) * (n + 1) + 1 ≤ 50000000)
    (h : gok (rs (a ++ ng b)) = true → Q (.d (.tuple ((rs (a ++ ng b)).map pd)))) (hx : gok (rs (a ++ ng b)) = false → X 2) : sem fns (k + 5) 13 [.tuple (a.map pd), .tuple (b.map pd)] X Q := by
  refine sem_at rfl ⟨rfl, ?_⟩
  rw [List.length_append, ng_len] at hn
  (simp only [b_s_minus]; walk_at "s")
  refine lc_as pd (fun p => pd (p.1, -p.2)) (fun p hp kk hk => ?_) (by omega) ?_
  · simp only [pd, e_s_minus_1, ↓wE.eq_1, ↓wE.eq_2, ↓wE.eq_3, ↓wE.eq_4, ↓wE.eq_5, ↓wE.eq_6, ↓wE.eq_7, ↓wE.eq_8, ↓wE.eq_9, ↓wE.eq_10, ↓wE.eq_11, ↓wE.eq_12, ↓wE.eq_13, ↓wE.eq_14, ↓wE.eq_15, ↓wE.eq_16, ↓wE.eq_18, ↓wE.eq_19, ↓wE.eq_22, ↓wE.eq_23, ↓wE.eq_24, ↓wE.eq_25, ↓wE.eq_26, ↓wE.eq_27, ↓wE.eq_28, ↓wE.eq_29, ↓wE.eq_30, ↓wE.eq_31, ↓wE.eq_32, ↓wE.eq_34, ↓wE.eq_35, ↓wE.eq_36, ↓wE.eq_37, ↓wE.eq_38, ↓wE.eq_39, ↓wE.eq_40, ↓wE.eq_41, ↓wE_call, ↓wE_callP, ↓wE_lc, ↓wE_lcg, ↓wE_isv, ↓wE_ix, ↓ix_fr0, ↓ix_fr1, ↓cmp_fr, ↓cmp_frn, ↓cmp_fr0, ↓cmp_tz, ↓cmp_tzn, ↓cmp_tz0, ↓cmp_tzn0, ↓bi_list_tz, ↓add_tz,   ↓len_tz, ↓len_fr, ↓isT_fr, items_tz, ↓cmp_bb, ↓cmp_bbn, ↓wS_whl, ↓wS_for, ↓wS_forP, ↓wS_asg, ↓wS_par, ↓wS_setIx, ↓wS_app, ↓tgW_one, ↓tgW_tup, pvF_eq, ↓wS.eq_1, ↓wS.eq_2, ↓wS.eq_3, ↓wS.eq_5, ↓wS.eq_7, ↓wS.eq_10, ↓wS.eq_11, ↓wS.eq_12, ↓wS.eq_13, ↓wS.eq_14, ↓wS.eq_15, ↓wS.eq_16, ↓wS.eq_17, ↓wS.eq_20, ↓wS.eq_21, ↓wS.eq_22, ↓wS.eq_23, ↓wS.eq_24, ↓wS.eq_25, ↓wS.eq_26, ↓wS.eq_27, ↓wS.eq_28, ↓wS.eq_29, ↓wS.eq_30, ↓augW.eq_1, ↓augW.eq_2, ↓augW.eq_3, ↓augW.eq_4, ↓inW.eq_1, ↓inW.eq_2, ↓inW.eq_3, ↓inW.eq_4, ↓zipW.eq_1, ↓zipW.eq_2, ↓cntW.eq_1, ↓dspW.eq_1, ↓idxW.eq_1, ↓opW.eq_1, ↓opW.eq_2, ↓opW.eq_3, ↓opW.eq_4, ↓opW.eq_5, ↓opW.eq_6, ↓opW.eq_7, ↓opW.eq_8, ↓opW.eq_9, ↓opW.eq_10, ↓opW.eq_11, ↓opW.eq_12, ↓opW.eq_13, ↓opW.eq_14, ↓cmpW.eq_1, ↓cmpW.eq_2, ↓cmpW.eq_5, ↓cmpW.eq_6, ↓cmpW.eq_7, ↓cmpW.eq_8, ↓cmpW.eq_9, ↓cmpW.eq_10, ↓cmpW.eq_11, ↓cmpW.eq_12, ↓cmp_ll, ↓cmp_lln, ↓cmp_tt, ↓cmp_ttn, ↓biW.eq_1, ↓biW.eq_2, ↓biW.eq_3, ↓biW.eq_4, ↓biW.eq_5, ↓biW.eq_6, ↓biW.eq_7, ↓biW.eq_8, ↓biW.eq_9, ↓biW.eq_10, ↓biW.eq_11, ↓biW.eq_12, ↓biW.eq_13, ↓biW.eq_14, ↓biW.eq_15, ↓biW.eq_16, ↓biW.eq_17, ↓lenW.eq_1, ↓lenW.eq_2, ↓slW.eq_1, ↓slW.eq_2, ↓revW.eq_1, ↓revW.eq_2, ↓pkW_var, ↓ptW_nil, ↓ptK_i, ↓pkW_cst, ↓pkW_tup, ↓pkW_lst, ↓pkW_bin, ↓pkW_neg, ↓pkW_ix, ↓pkW_sl, ↓pkW_rev, ↓pkW_call, ↓pkW_callP, ↓pkW_bi, ↓pkW_len, ↓pkW_lc, ↓pkW_ite, ↓pkW_gc, ↓pkW_mov, ↓pkW_dsp, ↓pkW_bone, ↓pkW_cmp, ↓pkW_cnt, ↓ptW_cst, ↓ptW_tup, ↓ptW_lst, ↓ptW_bin, ↓ptW_neg, ↓ptW_ix, ↓ptW_sl, ↓ptW_rev, ↓ptW_call, ↓ptW_callP, ↓ptW_bi, ↓ptW_len, ↓ptW_lc, ↓ptW_ite, ↓ptW_gc, ↓ptW_mov, ↓ptW_dsp, ↓ptW_bone, ↓ptW_cmp, ↓ptW_cnt, ↓ptW_var, ↓peek, ↓ownAt, ↓kD.eq_1, ↓kD.eq_2, ↓kM.eq_1, ↓kB.eq_1, ↓kV.eq_1, ↓kV.eq_2, ↓setW, ↓rngW1.eq_1, ↓rngW2.eq_1, ↓rngWd.eq_1, isVar, isNil, isT, gv, pv, setAll, ev0, items.eq_1, items.eq_2, tgs, wipeE, blind_cons, blind_nil, bl1, runB, List.map_cons, List.map_nil, List.replicate, List.cons_append, List.nil_append, if_true, if_false, ite_true, ite_false, reduceCtorEq, Bool.true_and, Bool.and_true, Bool.not_true, Bool.not_false, Bool.false_eq_true, ↓reduceIte, Nat.reduceSub, Nat.reduceAdd, List.length_cons, List.length_nil, decide_eq_true_eq, Bool.not_eq_true', decide_eq_false_iff_not, Bool.and_false, Bool.false_and, true_and, and_true, Nat.sub_self, Nat.succ_eq_add_one, flat, Nat.reduceLeDiff, Int.reduceLE, Int.reduceLT, Int.reduceEq, ne_eq, not_false_eq_true, s10, la_2, la_3, la_4, la_5, la_6, la_7, la_8, la_9, la_10, la_11, la_12, la_13, la_14, la_15, la_16, la_18, la_19, la_20, la_21, la_24, la_25, la_28, la_30, la_35, la_36, la_39, la_40, la_41, la_44, la_45, la_49, la_50, la_52, la_54, la_57, la_63, la_64, la_65, la_72, la_78, la_81, la_90, la_100, la_121, la_123, la_125, la_126, la_144, la_162, la_168, la_176, la_196, la_200, la_216, la_240, la_360, la_369, la_400, la_402, la_441, la_540, la_550, la_900, la_907, la_997, la_1009, la_1100, la_1152, la_1440, la_1764, la_2001, la_2003, la_2200, la_3150, la_4099, la_16807, la_22500, la_24200, la_72600, Nat.reduceLT, ↓ix_t0, ↓ix_t1, ↓ix_t2, ↓ix_t3, ↓ix_t4, ↓ix_t5, ↓ix_t6, ↓ix_l0, ↓ix_l1, ↓ix_l2, ↓ix_l3, ↓ix_l4, ↓ix_l5, ↓ix_l6, ↓add_ttz, ↓isT_tz, ↓sl_tz, isN_non, isN_tup, isN_lst, isN_int, isN_str, isN_bl, isN_fr, isN_tz, ↓hS.eq_1, ↓hS.eq_2, ↓hS.eq_3, ↓hS.eq_4, hE, hB, ↓hide.eq_1, ↓hide.eq_2, isS, Nat.reduceBEq, Bool.or_true, Bool.or_false, Bool.true_or, Bool.false_or, beq_self_eq_true, not_true_eq_false, Int.cast_ofNat_Int, ↓wE_callL, ↓wE_callLP, ↓kR_d, ↓kR_o, ↓kT_twoO, ↓kTP_two, ↓kTP_twoO, ↓pkW_callLP, ↓wE_lemp, ↓wE_lix, ↓wE_lpop0, ↓wE_lcL, ↓wE_lcK, ↓pkW_lcK, ↓kT_two, ↓lentAt, unlend_nil, unlend_cons, ul1_n, ul1_d, ul1_o, ul1_l, ↓wS_lend, ↓wS_lfn, ↓wS_retL, ↓wS_lset, ↓wS_asgN, ↓tgW_nst, noTwo_d, noTwo_o, ↓pkW_callL, ↓pkW_lix, ↓pkW_lemp, ↓pkW_lpop0, ↓pkW_lcL, ↓ptW_callL, ↓ptW_lix, ↓wE_lit, ↓pkW_lit, ↓ptW_lit, ↓cmp_geT, ↓wE_dget, ↓wE_dix, ↓wE_dsrt, ↓wE_dlc, ↓wE_lcD, ↓wE_srt, ↓wS_dnewT, ↓wS_dnewI, ↓wS_dset, ↓dictAt, itemsD_I, itemsD_T, ↓pkW_dget, ↓ptW_dget, ↓pkW_dix, ↓ptW_dix, ↓pkW_dsrt, ↓ptW_dsrt, ↓pkW_dlc, ↓ptW_dlc, ↓pkW_lcD, ↓ptW_lcD, ↓pkW_srt, ↓ptW_srt]
    have e : PyData.tuple [.int (-p.2.num), .int p.2.den] = fr (-p.2) := fr_c (by rw [Rat.neg_num]) (by rw [Rat.neg_den])
    first
      | (rw [e]; exact hk _)
      | exact hk _
  walk_at "s"
  have e2 : b.map (fun p => pd (p.1, -p.2)) = (ng b).map pd := by unfold ng; rw [List.map_map]; rfl
  rw [e2]
  refine ⟨by rw [List.length_map, List.length_map, ng_len]; omega, ?_⟩
  rw [← List.map_append]
  exact p_gathered (ps := a ++ ng b) (s := s) (n := n) rfl hs (by rw [List.length_append, ng_len]; exact hn) n4 bd h hx

theorem p_s_times {a b : List Pr} {s n m : Nat} {K : Int} (ha : Kd s n K a) (hb : Kd s m K b) (K0 : 0 ≤ K) (K1 : K ≤ 1000000000000) (n4 : n * m < 64) (bd : (2 * s + 41 + 1) * (n * m + 1) + 1 ≤ 50000000)
    (h : gok (rs (tm a b)) = true → Q (.d (.tuple ((rs (tm a b)).map pd)))) (hx : gok (rs (tm a b)) = false → X 2) : sem fns (k + 5) 14 [.tuple (a.map pd), .tuple (b.map pd)] X Q := by
  refine sem_at rfl ⟨rfl, ?_⟩
  have hT := ha.tm hb K0 K1
  have s1 : 2 * s + 41 + 1 ≤ (2 * s + 41 + 1) * (n * m + 1) := Nat.le_mul_of_pos_right _ (by omega)
  (simp only [b_s_times]; walk_at "s")
  refine for_at' (fun q ε => ∃ (us ws : List Pr) (o3 o4 o5 o6 o7 : Option Val), q = us.map pd ∧ a = ws ++ us ∧ ε = [some (.d (.tuple (a.map pd))), some (.d (.tuple (b.map pd))), some (.own ((tm ws b).map pd)), o3, o4, o5, o6, o7]) ?_ ?_ _ _ ⟨a, [], none, none, none, none, none, rfl, rfl, rfl⟩
  · rintro x q ε ⟨us, ws, o3, o4, o5, o6, o7, hq, e, rfl⟩ hnx
    cases us with
    | nil => cases hq
    | cons t us =>
      cases hq
      have mt : t ∈ a := by rw [e]; simp
      have lw : ws.length + 1 ≤ n := by
        have := congrArg List.length e
        simp at this
        have := ha.len
        omega
      simp only [pd, b_s_times_2, ↓wE.eq_1, ↓wE.eq_2, ↓wE.eq_3, ↓wE.eq_4, ↓wE.eq_5, ↓wE.eq_6, ↓wE.eq_7, ↓wE.eq_8, ↓wE.eq_9, ↓wE.eq_10, ↓wE.eq_11, ↓wE.eq_12, ↓wE.eq_13, ↓wE.eq_14, ↓wE.eq_15, ↓wE.eq_16, ↓wE.eq_18, ↓wE.eq_19, ↓wE.eq_22, ↓wE.eq_23, ↓wE.eq_24, ↓wE.eq_25, ↓wE.eq_26, ↓wE.eq_27, ↓wE.eq_28, ↓wE.eq_29, ↓wE.eq_30, ↓wE.eq_31, ↓wE.eq_32, ↓wE.eq_34, ↓wE.eq_35, ↓wE.eq_36, ↓wE.eq_37, ↓wE.eq_38, ↓wE.eq_39, ↓wE.eq_40, ↓wE.eq_41, ↓wE_call, ↓wE_callP, ↓wE_lc, ↓wE_lcg, ↓wE_isv, ↓wE_ix, ↓ix_fr0, ↓ix_fr1, ↓cmp_fr, ↓cmp_frn, ↓cmp_fr0, ↓cmp_tz, ↓cmp_tzn, ↓cmp_tz0, ↓cmp_tzn0, ↓bi_list_tz, ↓add_tz,   ↓len_tz, ↓len_fr, ↓isT_fr, items_tz, ↓cmp_bb, ↓cmp_bbn, ↓wS_whl, ↓wS_for, ↓wS_forP, ↓wS_asg, ↓wS_par, ↓wS_setIx, ↓wS_app, ↓tgW_one, ↓tgW_tup, pvF_eq, ↓wS.eq_1, ↓wS.eq_2, ↓wS.eq_3, ↓wS.eq_5, ↓wS.eq_7, ↓wS.eq_10, ↓wS.eq_11, ↓wS.eq_12, ↓wS.eq_13, ↓wS.eq_14, ↓wS.eq_15, ↓wS.eq_16, ↓wS.eq_17, ↓wS.eq_20, ↓wS.eq_21, ↓wS.eq_22, ↓wS.eq_23, ↓wS.eq_24, ↓wS.eq_25, ↓wS.eq_26, ↓wS.eq_27, ↓wS.eq_28, ↓wS.eq_29, ↓wS.eq_30, ↓augW.eq_1, ↓augW.eq_2, ↓augW.eq_3, ↓augW.eq_4, ↓inW.eq_1, ↓inW.eq_2, ↓inW.eq_3, ↓inW.eq_4, ↓zipW.eq_1, ↓zipW.eq_2, ↓cntW.eq_1, ↓dspW.eq_1, ↓idxW.eq_1, ↓opW.eq_1, ↓opW.eq_2, ↓opW.eq_3, ↓opW.eq_4, ↓opW.eq_5, ↓opW.eq_6, ↓opW.eq_7, ↓opW.eq_8, ↓opW.eq_9, ↓opW.eq_10, ↓opW.eq_11, ↓opW.eq_12, ↓opW.eq_13, ↓opW.eq_14, ↓cmpW.eq_1, ↓cmpW.eq_2, ↓cmpW.eq_5, ↓cmpW.eq_6, ↓cmpW.eq_7, ↓cmpW.eq_8, ↓cmpW.eq_9, ↓cmpW.eq_10, ↓cmpW.eq_11, ↓cmpW.eq_12, ↓cmp_ll, ↓cmp_lln, ↓cmp_tt, ↓cmp_ttn, ↓biW.eq_1, ↓biW.eq_2, ↓biW.eq_3, ↓biW.eq_4, ↓biW.eq_5, ↓biW.eq_6, ↓biW.eq_7, ↓biW.eq_8, ↓biW.eq_9, ↓biW.eq_10, ↓biW.eq_11, ↓biW.eq_12, ↓biW.eq_13, ↓biW.eq_14, ↓biW.eq_15, ↓biW.eq_16, ↓biW.eq_17, ↓lenW.eq_1, ↓lenW.eq_2, ↓slW.eq_1, ↓slW.eq_2, ↓revW.eq_1, ↓revW.eq_2, ↓pkW_var, ↓ptW_nil, ↓ptK_i, ↓pkW_cst, ↓pkW_tup, ↓pkW_lst, ↓pkW_bin, ↓pkW_neg, ↓pkW_ix, ↓pkW_sl, ↓pkW_rev, ↓pkW_call, ↓pkW_callP, ↓pkW_bi, ↓pkW_len, ↓pkW_lc, ↓pkW_ite, ↓pkW_gc, ↓pkW_mov, ↓pkW_dsp, ↓pkW_bone, ↓pkW_cmp, ↓pkW_cnt, ↓ptW_cst, ↓ptW_tup, ↓ptW_lst, ↓ptW_bin, ↓ptW_neg, ↓ptW_ix, ↓ptW_sl, ↓ptW_rev, ↓ptW_call, ↓ptW_callP, ↓ptW_bi, ↓ptW_len, ↓ptW_lc, ↓ptW_ite, ↓ptW_gc, ↓ptW_mov, ↓ptW_dsp, ↓ptW_bone, ↓ptW_cmp, ↓ptW_cnt, ↓ptW_var, ↓peek, ↓ownAt, ↓kD.eq_1, ↓kD.eq_2, ↓kM.eq_1, ↓kB.eq_1, ↓kV.eq_1, ↓kV.eq_2, ↓setW, ↓rngW1.eq_1, ↓rngW2.eq_1, ↓rngWd.eq_1, isVar, isNil, isT, gv, pv, setAll, ev0, items.eq_1, items.eq_2, tgs, wipeE, blind_cons, blind_nil, bl1, runB, List.map_cons, List.map_nil, List.replicate, List.cons_append, List.nil_append, if_true, if_false, ite_true, ite_false, reduceCtorEq, Bool.true_and, Bool.and_true, Bool.not_true, Bool.not_false, Bool.false_eq_true, ↓reduceIte, Nat.reduceSub, Nat.reduceAdd, List.length_cons, List.length_nil, decide_eq_true_eq, Bool.not_eq_true', decide_eq_false_iff_not, Bool.and_false, Bool.false_and, true_and, and_true, Nat.sub_self, Nat.succ_eq_add_one, flat, Nat.reduceLeDiff, Int.reduceLE, Int.reduceLT, Int.reduceEq, ne_eq, not_false_eq_true, s10, la_2, la_3, la_4, la_5, la_6, la_7, la_8, la_9, la_10, la_11, la_12, la_13, la_14, la_15, la_16, la_18, la_19, la_20, la_21, la_24, la_25, la_28, la_30, la_35, la_36, la_39, la_40, la_41, la_44, la_45, la_49, la_50, la_52, la_54, la_57, la_63, la_64, la_65, la_72, la_78, la_81, la_90, la_100, la_121, la_123, la_125, la_126, la_144, la_162, la_168, la_176, la_196, la_200, la_216, la_240, la_360, la_369, la_400, la_402, la_441, la_540, la_550, la_900, la_907, la_997, la_1009, la_1100, la_1152, la_1440, la_1764, la_2001, la_2003, la_2200, la_3150, la_4099, la_16807, la_22500, la_24200, la_72600, Nat.reduceLT, ↓ix_t0, ↓ix_t1, ↓ix_t2, ↓ix_t3, ↓ix_t4, ↓ix_t5, ↓ix_t6, ↓ix_l0, ↓ix_l1, ↓ix_l2, ↓ix_l3, ↓ix_l4, ↓ix_l5, ↓ix_l6, ↓add_ttz, ↓isT_tz, ↓sl_tz, isN_non, isN_tup, isN_lst, isN_int, isN_str, isN_bl, isN_fr, isN_tz, ↓hS.eq_1, ↓hS.eq_2, ↓hS.eq_3, ↓hS.eq_4, hE, hB, ↓hide.eq_1, ↓hide.eq_2, isS, Nat.reduceBEq, Bool.or_true, Bool.or_false, Bool.true_or, Bool.false_or, beq_self_eq_true, not_true_eq_false, Int.cast_ofNat_Int, ↓wE_callL, ↓wE_callLP, ↓kR_d, ↓kR_o, ↓kT_twoO, ↓kTP_two, ↓kTP_twoO, ↓pkW_callLP, ↓wE_lemp, ↓wE_lix, ↓wE_lpop0, ↓wE_lcL, ↓wE_lcK, ↓pkW_lcK, ↓kT_two, ↓lentAt, unlend_nil, unlend_cons, ul1_n, ul1_d, ul1_o, ul1_l, ↓wS_lend, ↓wS_lfn, ↓wS_retL, ↓wS_lset, ↓wS_asgN, ↓tgW_nst, noTwo_d, noTwo_o, ↓pkW_callL, ↓pkW_lix, ↓pkW_lemp, ↓pkW_lpop0, ↓pkW_lcL, ↓ptW_callL, ↓ptW_lix, ↓wE_lit, ↓pkW_lit, ↓ptW_lit, ↓cmp_geT, ↓wE_dget, ↓wE_dix, ↓wE_dsrt, ↓wE_dlc, ↓wE_lcD, ↓wE_srt, ↓wS_dnewT, ↓wS_dnewI, ↓wS_dset, ↓dictAt, itemsD_I, itemsD_T, ↓pkW_dget, ↓ptW_dget, ↓pkW_dix, ↓ptW_dix, ↓pkW_dsrt, ↓ptW_dsrt, ↓pkW_dlc, ↓ptW_dlc, ↓pkW_lcD, ↓ptW_lcD, ↓pkW_srt, ↓ptW_srt]
      refine for_at' (fun q ε => ∃ (vs xs : List Pr) (o5 o6 o7 : Option Val), q = vs.map pd ∧ b = xs ++ vs ∧ ε = [some (.d (.tuple (a.map pd))), some (.d (.tuple (b.map pd))), some (.own ((tm ws b ++ xs.map fun q => (pk t.1 q.1, t.2 * q.2 * (gg t.1 q.1 : Rat))).map pd)), some (.d (.int t.1)), some (.d (fr t.2)), o5, o6, o7]) ?_ ?_ _ _ ⟨b, [], _, _, _, rfl, rfl, by rw [List.map_nil, List.append_nil]⟩
      · rintro x q ε ⟨vs, xs, o5, o6, o7, hq, e2, rfl⟩ hnx2
        cases vs with
        | nil => cases hq
        | cons u vs =>
          cases hq
          have mu : u ∈ b := by rw [e2]; simp
          have lx : xs.length + 1 ≤ m := by
            have := congrArg List.length e2
            simp at this
            have := hb.len
            omega
          simp only [pd, b_s_times_1, ↓wE.eq_1, ↓wE.eq_2, ↓wE.eq_3, ↓wE.eq_4, ↓wE.eq_5, ↓wE.eq_6, ↓wE.eq_7, ↓wE.eq_8, ↓wE.eq_9, ↓wE.eq_10, ↓wE.eq_11, ↓wE.eq_12, ↓wE.eq_13, ↓wE.eq_14, ↓wE.eq_15, ↓wE.eq_16, ↓wE.eq_18, ↓wE.eq_19, ↓wE.eq_22, ↓wE.eq_23, ↓wE.eq_24, ↓wE.eq_25, ↓wE.eq_26, ↓wE.eq_27, ↓wE.eq_28, ↓wE.eq_29, ↓wE.eq_30, ↓wE.eq_31, ↓wE.eq_32, ↓wE.eq_34, ↓wE.eq_35, ↓wE.eq_36, ↓wE.eq_37, ↓wE.eq_38, ↓wE.eq_39, ↓wE.eq_40, ↓wE.eq_41, ↓wE_call, ↓wE_callP, ↓wE_lc, ↓wE_lcg, ↓wE_isv, ↓wE_ix, ↓ix_fr0, ↓ix_fr1, ↓cmp_fr, ↓cmp_frn, ↓cmp_fr0, ↓cmp_tz, ↓cmp_tzn, ↓cmp_tz0, ↓cmp_tzn0, ↓bi_list_tz, ↓add_tz,   ↓len_tz, ↓len_fr, ↓isT_fr, items_tz, ↓cmp_bb, ↓cmp_bbn, ↓wS_whl, ↓wS_for, ↓wS_forP, ↓wS_asg, ↓wS_par, ↓wS_setIx, ↓wS_app, ↓tgW_one, ↓tgW_tup, pvF_eq, ↓wS.eq_1, ↓wS.eq_2, ↓wS.eq_3, ↓wS.eq_5, ↓wS.eq_7, ↓wS.eq_10, ↓wS.eq_11, ↓wS.eq_12, ↓wS.eq_13, ↓wS.eq_14, ↓wS.eq_15, ↓wS.eq_16, ↓wS.eq_17, ↓wS.eq_20, ↓wS.eq_21, ↓wS.eq_22, ↓wS.eq_23, ↓wS.eq_24, ↓wS.eq_25, ↓wS.eq_26, ↓wS.eq_27, ↓wS.eq_28, ↓wS.eq_29, ↓wS.eq_30, ↓augW.eq_1, ↓augW.eq_2, ↓augW.eq_3, ↓augW.eq_4, ↓inW.eq_1, ↓inW.eq_2, ↓inW.eq_3, ↓inW.eq_4, ↓zipW.eq_1, ↓zipW.eq_2, ↓cntW.eq_1, ↓dspW.eq_1, ↓idxW.eq_1, ↓opW.eq_1, ↓opW.eq_2, ↓opW.eq_3, ↓opW.eq_4, ↓opW.eq_5, ↓opW.eq_6, ↓opW.eq_7, ↓opW.eq_8, ↓opW.eq_9, ↓opW.eq_10, ↓opW.eq_11, ↓opW.eq_12, ↓opW.eq_13, ↓opW.eq_14, ↓cmpW.eq_1, ↓cmpW.eq_2, ↓cmpW.eq_5, ↓cmpW.eq_6, ↓cmpW.eq_7, ↓cmpW.eq_8, ↓cmpW.eq_9, ↓cmpW.eq_10, ↓cmpW.eq_11, ↓cmpW.eq_12, ↓cmp_ll, ↓cmp_lln, ↓cmp_tt, ↓cmp_ttn, ↓biW.eq_1, ↓biW.eq_2, ↓biW.eq_3, ↓biW.eq_4, ↓biW.eq_5, ↓biW.eq_6, ↓biW.eq_7, ↓biW.eq_8, ↓biW.eq_9, ↓biW.eq_10, ↓biW.eq_11, ↓biW.eq_12, ↓biW.eq_13, ↓biW.eq_14, ↓biW.eq_15, ↓biW.eq_16, ↓biW.eq_17, ↓lenW.eq_1, ↓lenW.eq_2, ↓slW.eq_1, ↓slW.eq_2, ↓revW.eq_1, ↓revW.eq_2, ↓pkW_var, ↓ptW_nil, ↓ptK_i, ↓pkW_cst, ↓pkW_tup, ↓pkW_lst, ↓pkW_bin, ↓pkW_neg, ↓pkW_ix, ↓pkW_sl, ↓pkW_rev, ↓pkW_call, ↓pkW_callP, ↓pkW_bi, ↓pkW_len, ↓pkW_lc, ↓pkW_ite, ↓pkW_gc, ↓pkW_mov, ↓pkW_dsp, ↓pkW_bone, ↓pkW_cmp, ↓pkW_cnt, ↓ptW_cst, ↓ptW_tup, ↓ptW_lst, ↓ptW_bin, ↓ptW_neg, ↓ptW_ix, ↓ptW_sl, ↓ptW_rev, ↓ptW_call, ↓ptW_callP, ↓ptW_bi, ↓ptW_len, ↓ptW_lc, ↓ptW_ite, ↓ptW_gc, ↓ptW_mov, ↓ptW_dsp, ↓ptW_bone, ↓ptW_cmp, ↓ptW_cnt, ↓ptW_var, ↓peek, ↓ownAt, ↓kD.eq_1, ↓kD.eq_2, ↓kM.eq_1, ↓kB.eq_1, ↓kV.eq_1, ↓kV.eq_2, ↓setW, ↓rngW1.eq_1, ↓rngW2.eq_1, ↓rngWd.eq_1, isVar, isNil, isT, gv, pv, setAll, ev0, items.eq_1, items.eq_2, tgs, wipeE, blind_cons, blind_nil, bl1, runB, List.map_cons, List.map_nil, List.replicate, List.cons_append, List.nil_append, if_true, if_false, ite_true, ite_false, reduceCtorEq, Bool.true_and, Bool.and_true, Bool.not_true, Bool.not_false, Bool.false_eq_true, ↓reduceIte, Nat.reduceSub, Nat.reduceAdd, List.length_cons, List.length_nil, decide_eq_true_eq, Bool.not_eq_true', decide_eq_false_iff_not, Bool.and_false, Bool.false_and, true_and, and_true, Nat.sub_self, Nat.succ_eq_add_one, flat, Nat.reduceLeDiff, Int.reduceLE, Int.reduceLT, Int.reduceEq, ne_eq, not_false_eq_true, s10, la_2, la_3, la_4, la_5, la_6, la_7, la_8, la_9, la_10, la_11, la_12, la_13, la_14, la_15, la_16, la_18, la_19, la_20, la_21, la_24, la_25, la_28, la_30, la_35, la_36, la_39, la_40, la_41, la_44, la_45, la_49, la_50, la_52, la_54, la_57, la_63, la_64, la_65, la_72, la_78, la_81, la_90, la_100, la_121, la_123, la_125, la_126, la_144, la_162, la_168, la_176, la_196, la_200, la_216, la_240, la_360, la_369, la_400, la_402, la_441, la_540, la_550, la_900, la_907, la_997, la_1009, la_1100, la_1152, la_1440, la_1764, la_2001, la_2003, la_2200, la_3150, la_4099, la_16807, la_22500, la_24200, la_72600, Nat.reduceLT, ↓ix_t0, ↓ix_t1, ↓ix_t2, ↓ix_t3, ↓ix_t4, ↓ix_t5, ↓ix_t6, ↓ix_l0, ↓ix_l1, ↓ix_l2, ↓ix_l3, ↓ix_l4, ↓ix_l5, ↓ix_l6, ↓add_ttz, ↓isT_tz, ↓sl_tz, isN_non, isN_tup, isN_lst, isN_int, isN_str, isN_bl, isN_fr, isN_tz, ↓hS.eq_1, ↓hS.eq_2, ↓hS.eq_3, ↓hS.eq_4, hE, hB, ↓hide.eq_1, ↓hide.eq_2, isS, Nat.reduceBEq, Bool.or_true, Bool.or_false, Bool.true_or, Bool.false_or, beq_self_eq_true, not_true_eq_false, Int.cast_ofNat_Int, ↓wE_callL, ↓wE_callLP, ↓kR_d, ↓kR_o, ↓kT_twoO, ↓kTP_two, ↓kTP_twoO, ↓pkW_callLP, ↓wE_lemp, ↓wE_lix, ↓wE_lpop0, ↓wE_lcL, ↓wE_lcK, ↓pkW_lcK, ↓kT_two, ↓lentAt, unlend_nil, unlend_cons, ul1_n, ul1_d, ul1_o, ul1_l, ↓wS_lend, ↓wS_lfn, ↓wS_retL, ↓wS_lset, ↓wS_asgN, ↓tgW_nst, noTwo_d, noTwo_o, ↓pkW_callL, ↓pkW_lix, ↓pkW_lemp, ↓pkW_lpop0, ↓pkW_lcL, ↓ptW_callL, ↓ptW_lix, ↓wE_lit, ↓pkW_lit, ↓ptW_lit, ↓cmp_geT, ↓wE_dget, ↓wE_dix, ↓wE_dsrt, ↓wE_dlc, ↓wE_lcD, ↓wE_srt, ↓wS_dnewT, ↓wS_dnewI, ↓wS_dset, ↓dictAt, itemsD_I, itemsD_T, ↓pkW_dget, ↓ptW_dget, ↓pkW_dix, ↓ptW_dix, ↓pkW_dsrt, ↓ptW_dsrt, ↓pkW_dlc, ↓ptW_dlc, ↓pkW_lcD, ↓ptW_lcD, ↓pkW_srt, ↓ptW_srt]
          refine p_divisor ?_
          walk_at "s"
          have g0 : gg t.1 u.1 ≠ 0 := by
            have := Int.gcd_pos_of_ne_zero_left u.1 (show t.1 ≠ 0 by have := (ha.key t mt).1; omega)
            unfold gg; omega
          have hg : ((Int.gcd t.1 u.1 : Nat) : Int) = gg t.1 u.1 := rfl
          rw [hg]
          have b1 : Bt 60 (t.1.fdiv (gg t.1 u.1)) := by
            have z0 := (ha.key t mt).1
            have z1 := ha.top t mt
            obtain ⟨x, ex⟩ : ∃ x : Nat, t.1 = x := ⟨t.1.toNat, by omega⟩
            rw [ex]; unfold gg; rw [fdiv_nat]
            have := Nat.div_le_self x (Int.gcd x u.1)
            generalize x / Int.gcd x u.1 = y at this ⊢
            unfold Bt; omega
          have b2 : Bt 60 (u.1.fdiv (gg t.1 u.1)) := by
            have z0 := (hb.key u mu).1
            have z1 := hb.top u mu
            obtain ⟨x, ex⟩ : ∃ x : Nat, u.1 = x := ⟨u.1.toNat, by omega⟩
            rw [ex]; unfold gg; rw [fdiv_nat]
            have := Nat.div_le_self x (Int.gcd t.1 x)
            generalize x / Int.gcd t.1 x = y at this ⊢
            unfold Bt; omega
          refine ⟨g0, g0, mulOk_of b1 b2 (by decide), ?_⟩
          refine p_times (a := s) (ha.sz t mt) (hb.sz u mu) (by omega) ?_
          walk_at "s"
          have ef : PyData.tuple [.int (gg t.1 u.1), .int 1] = fr ((gg t.1 u.1 : Int) : Rat) := fr_c rfl rfl
          rw [ef]
          refine p_times (a := 2 * s + 41) ((sz_mulA (ha.sz t mt) (hb.sz u mu)).mono (by omega)) ((sz_gg (ha.key t mt).1 (ha.top t mt) K1).mono (by omega)) (by omega) ?_
          walk_at "s"
          have ml : ws.length * b.length + xs.length < n * m := by
            have q1 := hb.len
            have q2 : ws.length * b.length ≤ ws.length * m := Nat.mul_le_mul_left _ q1
            have q3 : (ws.length + 1) * m ≤ n * m := Nat.mul_le_mul_right _ lw
            rw [Nat.succ_mul] at q3
            omega
          refine ⟨by rw [List.length_map, List.length_append, tm_len, List.length_map]; omega, ?_⟩
          have el : (tm ws b ++ xs.map fun q => (pk t.1 q.1, t.2 * q.2 * (gg t.1 q.1 : Rat))).map pd ++ [PyData.tuple [.int (t.1.fdiv (gg t.1 u.1) * u.1.fdiv (gg t.1 u.1)), fr (t.2 * u.2 * ((gg t.1 u.1 : Int) : Rat))]] = (tm ws b ++ (xs ++ [u]).map fun q => (pk t.1 q.1, t.2 * q.2 * (gg t.1 q.1 : Rat))).map pd := by
            rw [List.map_append (l₁ := xs), ← List.append_assoc, List.map_append (l₁ := tm ws b ++ _)]
            rfl
          rw [el]
          exact hnx2 _ ⟨vs, xs ++ [u], _, _, _, rfl, by rw [e2]; simp, rfl⟩
      · rintro ε ⟨vs, xs, o5, o6, o7, hq, e2, rfl⟩
        cases vs with
        | cons _ _ => cases hq
        | nil =>
          rw [List.append_nil] at e2
          subst e2
          have this : tm (ws ++ [t]) b = tm ws b ++ b.map fun q => (pk t.1 q.1, t.2 * q.2 * (gg t.1 q.1 : Rat)) := by
            unfold tm
            rw [List.flatMap_append]
            simp
          rw [← this]
          exact hnx _ ⟨us, ws ++ [t], _, _, _, _, _, rfl, by rw [e]; simp, rfl⟩
  · rintro ε ⟨us, ws, o3, o4, o5, o6, o7, hq, e, rfl⟩
    cases us with
    | cons _ _ => cases hq
    | nil =>
      rw [List.append_nil] at e
      subst e
      (simp only [b_s_times_3]; walk_at "s")
      exact p_gathered (ps := tm a b) (s := 2 * s + 41) (n := n * m) rfl hT.sz hT.len n4 bd h hx

theorem p_cell {xs : List Int} {i : Nat} (h : Q (.d (.int (xs.getD i 0)))) : sem fns (k + 1) 15 [.list (xs.map .int), .int i] X Q := by
  refine sem_at rfl ⟨rfl, ?_⟩
  (simp only [b__law_cell_at]; walk_at "s")
  split
  · rename_i hl
    have hl2 : i < xs.length := by simpa using hl
    refine ⟨.int xs[i], atI_nat (by simp [hl2]), ?_⟩
    walk_at "s"
    simpa [List.getD, hl2] using h
  · rename_i hl
    have hl2 : xs.length ≤ i := by simpa using hl
    simpa [List.getD, List.getElem?_eq_none hl2] using h


theorem p_ldiv {n m : Nat} (h : Q (.d (.int (Nat.gcd n m : Nat)))) : sem fns (k + 1) 17 [.int n, .int m] X Q := by
  refine sem_at rfl ⟨rfl, ?_⟩
  (simp only [b__law_divisor]; walk_at "s")
  refine whl_at (fun j ε => ∃ x y : Nat, ε = [some (.d (.int x)), some (.d (.int y))] ∧ Nat.gcd x y = Nat.gcd n m ∧ j = y) m ⟨_, _, rfl, rfl, rfl⟩ ?_
  rintro j ε1 ⟨x, y, rfl, hg, rfl⟩
  (simp only [c__law_divisor_1, b__law_divisor_2, b__law_divisor_3]; walk_at "s")
  split
  · rename_i hp
    refine ⟨by omega, x % j, Nat.mod_lt _ (by omega), _, _, by rw [fmod_nat], ?_, rfl⟩
    rw [← hg, Nat.gcd_comm j, ← Nat.gcd_rec, Nat.gcd_comm]
  · rename_i hp
    have e : j = 0 := by omega
    subst e
    rw [Nat.gcd_zero_right] at hg
    rw [hg]
    exact h
def dl (f : List Pr) : D := if (f.filter fun p => decide (1 < p.1)).length ≤ 3 then .tuple (f.map pd) else .none
def dn (f : List Pr) : D := if gok f = true then .tuple (f.map pd) else .none
theorem p_lgathered {ps : List Pr} {v : D} {s n : Nat} (hv : items v = some (ps.map pd)) (hs : ∀ p ∈ ps, Sz s p.2) (hn : ps.length ≤ n) (n4 : n < 64) (bd : (s + 1) * (n + 1) + 1 ≤ 50000000)
    (h : Q (.d (dl (rs ps)))) : sem fns (k + 4) 18 [v] X Q := by
  refine sem_at rfl ⟨rfl, ?_⟩
  (simp only [b__law_gathered]; walk_at "s")
  rw [hv]
  walk_at "s"
  refine for_at' (fun q ε => ∃ (us kv : List Pr) (j : Nat) (o2 o3 : Option Val), q = us.map pd ∧ us.foldl qa kv = gq ps ∧ us.length + kv.length ≤ n ∧ j + us.length ≤ n ∧ (∀ p ∈ us, Sz s p.2) ∧ (∀ i, Sz ((s + 1) * j + 1) (qt kv i)) ∧ ε = [some (.d v), some (.dI (toQ kv)), o2, o3, none, none]) ?_ ?_ _ _
    ⟨ps, [], 0, none, none, rfl, rfl, by simpa using hn, by simpa using hn, hs, (fun i => by rw [qt_nil]; exact sz_nil (by omega)), rfl⟩
  · rintro x q ε ⟨us, kv, j, o2, o3, hq, e, l1, l2, hs2, hz, rfl⟩ hnx
    cases us with
    | nil => cases hq
    | cons t us =>
      cases hq
      have l3 : (qa kv t).length ≤ kv.length + 1 := by
        unfold qa qp
        split
        · rw [List.length_map]; omega
        · rw [List.length_append]; simp
      have m1 : (s + 1) * (j + 1) ≤ (s + 1) * (n + 1) := Nat.mul_le_mul_left _ (by simp at l2; omega)
      have m2 : (s + 1) * (j + 1) = (s + 1) * j + (s + 1) := Nat.mul_succ ..
      have st := hs2 t (by simp)
      simp only [pd, b__law_gathered_1, ↓wE.eq_1, ↓wE.eq_2, ↓wE.eq_3, ↓wE.eq_4, ↓wE.eq_5, ↓wE.eq_6, ↓wE.eq_7, ↓wE.eq_8, ↓wE.eq_9, ↓wE.eq_10, ↓wE.eq_11, ↓wE.eq_12, ↓wE.eq_13, ↓wE.eq_14, ↓wE.eq_15, ↓wE.eq_16, ↓wE.eq_18, ↓wE.eq_19, ↓wE.eq_22, ↓wE.eq_23, ↓wE.eq_24, ↓wE.eq_25, ↓wE.eq_26, ↓wE.eq_27, ↓wE.eq_28, ↓wE.eq_29, ↓wE.eq_30, ↓wE.eq_31, ↓wE.eq_32, ↓wE.eq_34, ↓wE.eq_35, ↓wE.eq_36, ↓wE.eq_37, ↓wE.eq_38, ↓wE.eq_39, ↓wE.eq_40, ↓wE.eq_41, ↓wE_call, ↓wE_callP, ↓wE_lc, ↓wE_lcg, ↓wE_isv, ↓wE_ix, ↓ix_fr0, ↓ix_fr1, ↓cmp_fr, ↓cmp_frn, ↓cmp_fr0, ↓cmp_tz, ↓cmp_tzn, ↓cmp_tz0, ↓cmp_tzn0, ↓bi_list_tz, ↓add_tz,   ↓len_tz, ↓len_fr, ↓isT_fr, items_tz, ↓cmp_bb, ↓cmp_bbn, ↓wS_whl, ↓wS_for, ↓wS_forP, ↓wS_asg, ↓wS_par, ↓wS_setIx, ↓wS_app, ↓tgW_one, ↓tgW_tup, pvF_eq, ↓wS.eq_1, ↓wS.eq_2, ↓wS.eq_3, ↓wS.eq_5, ↓wS.eq_7, ↓wS.eq_10, ↓wS.eq_11, ↓wS.eq_12, ↓wS.eq_13, ↓wS.eq_14, ↓wS.eq_15, ↓wS.eq_16, ↓wS.eq_17, ↓wS.eq_20, ↓wS.eq_21, ↓wS.eq_22, ↓wS.eq_23, ↓wS.eq_24, ↓wS.eq_25, ↓wS.eq_26, ↓wS.eq_27, ↓wS.eq_28, ↓wS.eq_29, ↓wS.eq_30, ↓augW.eq_1, ↓augW.eq_2, ↓augW.eq_3, ↓augW.eq_4, ↓inW.eq_1, ↓inW.eq_2, ↓inW.eq_3, ↓inW.eq_4, ↓zipW.eq_1, ↓zipW.eq_2, ↓cntW.eq_1, ↓dspW.eq_1, ↓idxW.eq_1, ↓opW.eq_1, ↓opW.eq_2, ↓opW.eq_3, ↓opW.eq_4, ↓opW.eq_5, ↓opW.eq_6, ↓opW.eq_7, ↓opW.eq_8, ↓opW.eq_9, ↓opW.eq_10, ↓opW.eq_11, ↓opW.eq_12, ↓opW.eq_13, ↓opW.eq_14, ↓cmpW.eq_1, ↓cmpW.eq_2, ↓cmpW.eq_5, ↓cmpW.eq_6, ↓cmpW.eq_7, ↓cmpW.eq_8, ↓cmpW.eq_9, ↓cmpW.eq_10, ↓cmpW.eq_11, ↓cmpW.eq_12, ↓cmp_ll, ↓cmp_lln, ↓cmp_tt, ↓cmp_ttn, ↓biW.eq_1, ↓biW.eq_2, ↓biW.eq_3, ↓biW.eq_4, ↓biW.eq_5, ↓biW.eq_6, ↓biW.eq_7, ↓biW.eq_8, ↓biW.eq_9, ↓biW.eq_10, ↓biW.eq_11, ↓biW.eq_12, ↓biW.eq_13, ↓biW.eq_14, ↓biW.eq_15, ↓biW.eq_16, ↓biW.eq_17, ↓lenW.eq_1, ↓lenW.eq_2, ↓slW.eq_1, ↓slW.eq_2, ↓revW.eq_1, ↓revW.eq_2, ↓pkW_var, ↓ptW_nil, ↓ptK_i, ↓pkW_cst, ↓pkW_tup, ↓pkW_lst, ↓pkW_bin, ↓pkW_neg, ↓pkW_ix, ↓pkW_sl, ↓pkW_rev, ↓pkW_call, ↓pkW_callP, ↓pkW_bi, ↓pkW_len, ↓pkW_lc, ↓pkW_ite, ↓pkW_gc, ↓pkW_mov, ↓pkW_dsp, ↓pkW_bone, ↓pkW_cmp, ↓pkW_cnt, ↓ptW_cst, ↓ptW_tup, ↓ptW_lst, ↓ptW_bin, ↓ptW_neg, ↓ptW_ix, ↓ptW_sl, ↓ptW_rev, ↓ptW_call, ↓ptW_callP, ↓ptW_bi, ↓ptW_len, ↓ptW_lc, ↓ptW_ite, ↓ptW_gc, ↓ptW_mov, ↓ptW_dsp, ↓ptW_bone, ↓ptW_cmp, ↓ptW_cnt, ↓ptW_var, ↓peek, ↓ownAt, ↓kD.eq_1, ↓kD.eq_2, ↓kM.eq_1, ↓kB.eq_1, ↓kV.eq_1, ↓kV.eq_2, ↓setW, ↓rngW1.eq_1, ↓rngW2.eq_1, ↓rngWd.eq_1, isVar, isNil, isT, gv, pv, setAll, ev0, items.eq_1, items.eq_2, tgs, wipeE, blind_cons, blind_nil, bl1, runB, List.map_cons, List.map_nil, List.replicate, List.cons_append, List.nil_append, if_true, if_false, ite_true, ite_false, reduceCtorEq, Bool.true_and, Bool.and_true, Bool.not_true, Bool.not_false, Bool.false_eq_true, ↓reduceIte, Nat.reduceSub, Nat.reduceAdd, List.length_cons, List.length_nil, decide_eq_true_eq, Bool.not_eq_true', decide_eq_false_iff_not, Bool.and_false, Bool.false_and, true_and, and_true, Nat.sub_self, Nat.succ_eq_add_one, flat, Nat.reduceLeDiff, Int.reduceLE, Int.reduceLT, Int.reduceEq, ne_eq, not_false_eq_true, s10, la_2, la_3, la_4, la_5, la_6, la_7, la_8, la_9, la_10, la_11, la_12, la_13, la_14, la_15, la_16, la_18, la_19, la_20, la_21, la_24, la_25, la_28, la_30, la_35, la_36, la_39, la_40, la_41, la_44, la_45, la_49, la_50, la_52, la_54, la_57, la_63, la_64, la_65, la_72, la_78, la_81, la_90, la_100, la_121, la_123, la_125, la_126, la_144, la_162, la_168, la_176, la_196, la_200, la_216, la_240, la_360, la_369, la_400, la_402, la_441, la_540, la_550, la_900, la_907, la_997, la_1009, la_1100, la_1152, la_1440, la_1764, la_2001, la_2003, la_2200, la_3150, la_4099, la_16807, la_22500, la_24200, la_72600, Nat.reduceLT, ↓ix_t0, ↓ix_t1, ↓ix_t2, ↓ix_t3, ↓ix_t4, ↓ix_t5, ↓ix_t6, ↓ix_l0, ↓ix_l1, ↓ix_l2, ↓ix_l3, ↓ix_l4, ↓ix_l5, ↓ix_l6, ↓add_ttz, ↓isT_tz, ↓sl_tz, isN_non, isN_tup, isN_lst, isN_int, isN_str, isN_bl, isN_fr, isN_tz, ↓hS.eq_1, ↓hS.eq_2, ↓hS.eq_3, ↓hS.eq_4, hE, hB, ↓hide.eq_1, ↓hide.eq_2, isS, Nat.reduceBEq, Bool.or_true, Bool.or_false, Bool.true_or, Bool.false_or, beq_self_eq_true, not_true_eq_false, Int.cast_ofNat_Int, ↓wE_callL, ↓wE_callLP, ↓kR_d, ↓kR_o, ↓kT_twoO, ↓kTP_two, ↓kTP_twoO, ↓pkW_callLP, ↓wE_lemp, ↓wE_lix, ↓wE_lpop0, ↓wE_lcL, ↓wE_lcK, ↓pkW_lcK, ↓kT_two, ↓lentAt, unlend_nil, unlend_cons, ul1_n, ul1_d, ul1_o, ul1_l, ↓wS_lend, ↓wS_lfn, ↓wS_retL, ↓wS_lset, ↓wS_asgN, ↓tgW_nst, noTwo_d, noTwo_o, ↓pkW_callL, ↓pkW_lix, ↓pkW_lemp, ↓pkW_lpop0, ↓pkW_lcL, ↓ptW_callL, ↓ptW_lix, ↓wE_lit, ↓pkW_lit, ↓ptW_lit, ↓cmp_geT, ↓wE_dget, ↓wE_dix, ↓wE_dsrt, ↓wE_dlc, ↓wE_lcD, ↓wE_srt, ↓wS_dnewT, ↓wS_dnewI, ↓wS_dset, ↓dictAt, itemsD_I, itemsD_T, ↓pkW_dget, ↓ptW_dget, ↓pkW_dix, ↓ptW_dix, ↓pkW_dsrt, ↓ptW_dsrt, ↓pkW_dlc, ↓ptW_dlc, ↓pkW_lcD, ↓ptW_lcD, ↓pkW_srt, ↓ptW_srt]
      refine dg_I ?_
      rw [fr0, lkp_toQ]
      walk_at "s"
      refine p_plus (a := (s + 1) * (n + 1)) ((hz t.1).mono (by omega)) (st.mono (by omega)) (by omega) ?_
      walk_at "s"
      refine dp_I (by rw [toQ_len]; simp at l1; omega) ?_
      rw [putL_toQ]
      walk_at "s"
      refine hnx _ ⟨us, qa kv t, j + 1, _, _, rfl, e, by simp at l1; omega, by simp at l2; omega, fun p hp => hs2 p (by simp [hp]), fun i => ?_, rfl⟩
      unfold qa
      rw [qp_qt]
      split
      · exact (sz_addA (hz t.1) st).mono (by omega)
      · exact (hz i).mono (by omega)
  · rintro ε ⟨us, kv, j, o2, o3, hq, e, l1, l2, hs2, hz, rfl⟩
    cases us with
    | cons _ _ => cases hq
    | nil =>
      have e : kv = gq ps := e
      subst e
      have kl : (gq ps).length ≤ n := by simpa using l1
      (simp only [b__law_gathered_5]; walk_at "s")
      refine ds_I (by rw [toQ_len]; omega) ?_
      have ek : ((toQ (gq ps)).map (·.1)) = (gq ps).map (·.1) := by unfold toQ; rw [List.map_map]; rfl
      rw [ek]
      walk_at "s"
      have em : ∀ i ∈ srtK ps, i ∈ (gq ps).map (·.1) := fun i hi => (srtK_perm ps).mem_iff.mp hi
      refine lcd_flt (as := srtK ps) (fun i : Int => .int i) (fun i => pd (i, cq ps i)) (fun i => decide (cq ps i ≠ 0)) rfl (fun i hi k1 k0 h1 h0 => ?_) ?_ ?_
      · have lk := lkp_some (gq ps) (em i hi)
        rw [gq_qt] at lk
        (simp only [c__law_gathered_2]; walk_at "s")
        refine dg_I ?_
        rw [lk]
        refine ⟨_, rfl, ?_⟩
        walk_at "s"
        by_cases z : cq ps i = 0
        · have z2 : (cq ps i).num = 0 := num0.mpr z
          simp only [z2, decide_true, ↓wE.eq_1, ↓wE.eq_2, ↓wE.eq_3, ↓wE.eq_4, ↓wE.eq_5, ↓wE.eq_6, ↓wE.eq_7, ↓wE.eq_8, ↓wE.eq_9, ↓wE.eq_10, ↓wE.eq_11, ↓wE.eq_12, ↓wE.eq_13, ↓wE.eq_14, ↓wE.eq_15, ↓wE.eq_16, ↓wE.eq_18, ↓wE.eq_19, ↓wE.eq_22, ↓wE.eq_23, ↓wE.eq_24, ↓wE.eq_25, ↓wE.eq_26, ↓wE.eq_27, ↓wE.eq_28, ↓wE.eq_29, ↓wE.eq_30, ↓wE.eq_31, ↓wE.eq_32, ↓wE.eq_34, ↓wE.eq_35, ↓wE.eq_36, ↓wE.eq_37, ↓wE.eq_38, ↓wE.eq_39, ↓wE.eq_40, ↓wE.eq_41, ↓wE_call, ↓wE_callP, ↓wE_lc, ↓wE_lcg, ↓wE_isv, ↓wE_ix, ↓ix_fr0, ↓ix_fr1, ↓cmp_fr, ↓cmp_frn, ↓cmp_fr0, ↓cmp_tz, ↓cmp_tzn, ↓cmp_tz0, ↓cmp_tzn0, ↓bi_list_tz, ↓add_tz,   ↓len_tz, ↓len_fr, ↓isT_fr, items_tz, ↓cmp_bb, ↓cmp_bbn, ↓wS_whl, ↓wS_for, ↓wS_forP, ↓wS_asg, ↓wS_par, ↓wS_setIx, ↓wS_app, ↓tgW_one, ↓tgW_tup, pvF_eq, ↓wS.eq_1, ↓wS.eq_2, ↓wS.eq_3, ↓wS.eq_5, ↓wS.eq_7, ↓wS.eq_10, ↓wS.eq_11, ↓wS.eq_12, ↓wS.eq_13, ↓wS.eq_14, ↓wS.eq_15, ↓wS.eq_16, ↓wS.eq_17, ↓wS.eq_20, ↓wS.eq_21, ↓wS.eq_22, ↓wS.eq_23, ↓wS.eq_24, ↓wS.eq_25, ↓wS.eq_26, ↓wS.eq_27, ↓wS.eq_28, ↓wS.eq_29, ↓wS.eq_30, ↓augW.eq_1, ↓augW.eq_2, ↓augW.eq_3, ↓augW.eq_4, ↓inW.eq_1, ↓inW.eq_2, ↓inW.eq_3, ↓inW.eq_4, ↓zipW.eq_1, ↓zipW.eq_2, ↓cntW.eq_1, ↓dspW.eq_1, ↓idxW.eq_1, ↓opW.eq_1, ↓opW.eq_2, ↓opW.eq_3, ↓opW.eq_4, ↓opW.eq_5, ↓opW.eq_6, ↓opW.eq_7, ↓opW.eq_8, ↓opW.eq_9, ↓opW.eq_10, ↓opW.eq_11, ↓opW.eq_12, ↓opW.eq_13, ↓opW.eq_14, ↓cmpW.eq_1, ↓cmpW.eq_2, ↓cmpW.eq_5, ↓cmpW.eq_6, ↓cmpW.eq_7, ↓cmpW.eq_8, ↓cmpW.eq_9, ↓cmpW.eq_10, ↓cmpW.eq_11, ↓cmpW.eq_12, ↓cmp_ll, ↓cmp_lln, ↓cmp_tt, ↓cmp_ttn, ↓biW.eq_1, ↓biW.eq_2, ↓biW.eq_3, ↓biW.eq_4, ↓biW.eq_5, ↓biW.eq_6, ↓biW.eq_7, ↓biW.eq_8, ↓biW.eq_9, ↓biW.eq_10, ↓biW.eq_11, ↓biW.eq_12, ↓biW.eq_13, ↓biW.eq_14, ↓biW.eq_15, ↓biW.eq_16, ↓biW.eq_17, ↓lenW.eq_1, ↓lenW.eq_2, ↓slW.eq_1, ↓slW.eq_2, ↓revW.eq_1, ↓revW.eq_2, ↓pkW_var, ↓ptW_nil, ↓ptK_i, ↓pkW_cst, ↓pkW_tup, ↓pkW_lst, ↓pkW_bin, ↓pkW_neg, ↓pkW_ix, ↓pkW_sl, ↓pkW_rev, ↓pkW_call, ↓pkW_callP, ↓pkW_bi, ↓pkW_len, ↓pkW_lc, ↓pkW_ite, ↓pkW_gc, ↓pkW_mov, ↓pkW_dsp, ↓pkW_bone, ↓pkW_cmp, ↓pkW_cnt, ↓ptW_cst, ↓ptW_tup, ↓ptW_lst, ↓ptW_bin, ↓ptW_neg, ↓ptW_ix, ↓ptW_sl, ↓ptW_rev, ↓ptW_call, ↓ptW_callP, ↓ptW_bi, ↓ptW_len, ↓ptW_lc, ↓ptW_ite, ↓ptW_gc, ↓ptW_mov, ↓ptW_dsp, ↓ptW_bone, ↓ptW_cmp, ↓ptW_cnt, ↓ptW_var, ↓peek, ↓ownAt, ↓kD.eq_1, ↓kD.eq_2, ↓kM.eq_1, ↓kB.eq_1, ↓kV.eq_1, ↓kV.eq_2, ↓setW, ↓rngW1.eq_1, ↓rngW2.eq_1, ↓rngWd.eq_1, isVar, isNil, isT, gv, pv, setAll, ev0, items.eq_1, items.eq_2, tgs, wipeE, blind_cons, blind_nil, bl1, runB, List.map_cons, List.map_nil, List.replicate, List.cons_append, List.nil_append, if_true, if_false, ite_true, ite_false, reduceCtorEq, Bool.true_and, Bool.and_true, Bool.not_true, Bool.not_false, Bool.false_eq_true, ↓reduceIte, Nat.reduceSub, Nat.reduceAdd, List.length_cons, List.length_nil, decide_eq_true_eq, Bool.not_eq_true', decide_eq_false_iff_not, Bool.and_false, Bool.false_and, true_and, and_true, Nat.sub_self, Nat.succ_eq_add_one, flat, Nat.reduceLeDiff, Int.reduceLE, Int.reduceLT, Int.reduceEq, ne_eq, not_false_eq_true, s10, la_2, la_3, la_4, la_5, la_6, la_7, la_8, la_9, la_10, la_11, la_12, la_13, la_14, la_15, la_16, la_18, la_19, la_20, la_21, la_24, la_25, la_28, la_30, la_35, la_36, la_39, la_40, la_41, la_44, la_45, la_49, la_50, la_52, la_54, la_57, la_63, la_64, la_65, la_72, la_78, la_81, la_90, la_100, la_121, la_123, la_125, la_126, la_144, la_162, la_168, la_176, la_196, la_200, la_216, la_240, la_360, la_369, la_400, la_402, la_441, la_540, la_550, la_900, la_907, la_997, la_1009, la_1100, la_1152, la_1440, la_1764, la_2001, la_2003, la_2200, la_3150, la_4099, la_16807, la_22500, la_24200, la_72600, Nat.reduceLT, ↓ix_t0, ↓ix_t1, ↓ix_t2, ↓ix_t3, ↓ix_t4, ↓ix_t5, ↓ix_t6, ↓ix_l0, ↓ix_l1, ↓ix_l2, ↓ix_l3, ↓ix_l4, ↓ix_l5, ↓ix_l6, ↓add_ttz, ↓isT_tz, ↓sl_tz, isN_non, isN_tup, isN_lst, isN_int, isN_str, isN_bl, isN_fr, isN_tz, ↓hS.eq_1, ↓hS.eq_2, ↓hS.eq_3, ↓hS.eq_4, hE, hB, ↓hide.eq_1, ↓hide.eq_2, isS, Nat.reduceBEq, Bool.or_true, Bool.or_false, Bool.true_or, Bool.false_or, beq_self_eq_true, not_true_eq_false, Int.cast_ofNat_Int, ↓wE_callL, ↓wE_callLP, ↓kR_d, ↓kR_o, ↓kT_twoO, ↓kTP_two, ↓kTP_twoO, ↓pkW_callLP, ↓wE_lemp, ↓wE_lix, ↓wE_lpop0, ↓wE_lcL, ↓wE_lcK, ↓pkW_lcK, ↓kT_two, ↓lentAt, unlend_nil, unlend_cons, ul1_n, ul1_d, ul1_o, ul1_l, ↓wS_lend, ↓wS_lfn, ↓wS_retL, ↓wS_lset, ↓wS_asgN, ↓tgW_nst, noTwo_d, noTwo_o, ↓pkW_callL, ↓pkW_lix, ↓pkW_lemp, ↓pkW_lpop0, ↓pkW_lcL, ↓ptW_callL, ↓ptW_lix, ↓wE_lit, ↓pkW_lit, ↓ptW_lit, ↓cmp_geT, ↓wE_dget, ↓wE_dix, ↓wE_dsrt, ↓wE_dlc, ↓wE_lcD, ↓wE_srt, ↓wS_dnewT, ↓wS_dnewI, ↓wS_dset, ↓dictAt, itemsD_I, itemsD_T, ↓pkW_dget, ↓ptW_dget, ↓pkW_dix, ↓ptW_dix, ↓pkW_dsrt, ↓ptW_dsrt, ↓pkW_dlc, ↓ptW_dlc, ↓pkW_lcD, ↓ptW_lcD, ↓pkW_srt, ↓ptW_srt]
          exact h0 (by simpa using z) _ rfl
        · have z2 : ¬ (cq ps i).num = 0 := fun w => z (num0.mp w)
          simp only [z2, decide_false, e__law_gathered_3, ↓wE.eq_1, ↓wE.eq_2, ↓wE.eq_3, ↓wE.eq_4, ↓wE.eq_5, ↓wE.eq_6, ↓wE.eq_7, ↓wE.eq_8, ↓wE.eq_9, ↓wE.eq_10, ↓wE.eq_11, ↓wE.eq_12, ↓wE.eq_13, ↓wE.eq_14, ↓wE.eq_15, ↓wE.eq_16, ↓wE.eq_18, ↓wE.eq_19, ↓wE.eq_22, ↓wE.eq_23, ↓wE.eq_24, ↓wE.eq_25, ↓wE.eq_26, ↓wE.eq_27, ↓wE.eq_28, ↓wE.eq_29, ↓wE.eq_30, ↓wE.eq_31, ↓wE.eq_32, ↓wE.eq_34, ↓wE.eq_35, ↓wE.eq_36, ↓wE.eq_37, ↓wE.eq_38, ↓wE.eq_39, ↓wE.eq_40, ↓wE.eq_41, ↓wE_call, ↓wE_callP, ↓wE_lc, ↓wE_lcg, ↓wE_isv, ↓wE_ix, ↓ix_fr0, ↓ix_fr1, ↓cmp_fr, ↓cmp_frn, ↓cmp_fr0, ↓cmp_tz, ↓cmp_tzn, ↓cmp_tz0, ↓cmp_tzn0, ↓bi_list_tz, ↓add_tz,   ↓len_tz, ↓len_fr, ↓isT_fr, items_tz, ↓cmp_bb, ↓cmp_bbn, ↓wS_whl, ↓wS_for, ↓wS_forP, ↓wS_asg, ↓wS_par, ↓wS_setIx, ↓wS_app, ↓tgW_one, ↓tgW_tup, pvF_eq, ↓wS.eq_1, ↓wS.eq_2, ↓wS.eq_3, ↓wS.eq_5, ↓wS.eq_7, ↓wS.eq_10, ↓wS.eq_11, ↓wS.eq_12, ↓wS.eq_13, ↓wS.eq_14, ↓wS.eq_15, ↓wS.eq_16, ↓wS.eq_17, ↓wS.eq_20, ↓wS.eq_21, ↓wS.eq_22, ↓wS.eq_23, ↓wS.eq_24, ↓wS.eq_25, ↓wS.eq_26, ↓wS.eq_27, ↓wS.eq_28, ↓wS.eq_29, ↓wS.eq_30, ↓augW.eq_1, ↓augW.eq_2, ↓augW.eq_3, ↓augW.eq_4, ↓inW.eq_1, ↓inW.eq_2, ↓inW.eq_3, ↓inW.eq_4, ↓zipW.eq_1, ↓zipW.eq_2, ↓cntW.eq_1, ↓dspW.eq_1, ↓idxW.eq_1, ↓opW.eq_1, ↓opW.eq_2, ↓opW.eq_3, ↓opW.eq_4, ↓opW.eq_5, ↓opW.eq_6, ↓opW.eq_7, ↓opW.eq_8, ↓opW.eq_9, ↓opW.eq_10, ↓opW.eq_11, ↓opW.eq_12, ↓opW.eq_13, ↓opW.eq_14, ↓cmpW.eq_1, ↓cmpW.eq_2, ↓cmpW.eq_5, ↓cmpW.eq_6, ↓cmpW.eq_7, ↓cmpW.eq_8, ↓cmpW.eq_9, ↓cmpW.eq_10, ↓cmpW.eq_11, ↓cmpW.eq_12, ↓cmp_ll, ↓cmp_lln, ↓cmp_tt, ↓cmp_ttn, ↓biW.eq_1, ↓biW.eq_2, ↓biW.eq_3, ↓biW.eq_4, ↓biW.eq_5, ↓biW.eq_6, ↓biW.eq_7, ↓biW.eq_8, ↓biW.eq_9, ↓biW.eq_10, ↓biW.eq_11, ↓biW.eq_12, ↓biW.eq_13, ↓biW.eq_14, ↓biW.eq_15, ↓biW.eq_16, ↓biW.eq_17, ↓lenW.eq_1, ↓lenW.eq_2, ↓slW.eq_1, ↓slW.eq_2, ↓revW.eq_1, ↓revW.eq_2, ↓pkW_var, ↓ptW_nil, ↓ptK_i, ↓pkW_cst, ↓pkW_tup, ↓pkW_lst, ↓pkW_bin, ↓pkW_neg, ↓pkW_ix, ↓pkW_sl, ↓pkW_rev, ↓pkW_call, ↓pkW_callP, ↓pkW_bi, ↓pkW_len, ↓pkW_lc, ↓pkW_ite, ↓pkW_gc, ↓pkW_mov, ↓pkW_dsp, ↓pkW_bone, ↓pkW_cmp, ↓pkW_cnt, ↓ptW_cst, ↓ptW_tup, ↓ptW_lst, ↓ptW_bin, ↓ptW_neg, ↓ptW_ix, ↓ptW_sl, ↓ptW_rev, ↓ptW_call, ↓ptW_callP, ↓ptW_bi, ↓ptW_len, ↓ptW_lc, ↓ptW_ite, ↓ptW_gc, ↓ptW_mov, ↓ptW_dsp, ↓ptW_bone, ↓ptW_cmp, ↓ptW_cnt, ↓ptW_var, ↓peek, ↓ownAt, ↓kD.eq_1, ↓kD.eq_2, ↓kM.eq_1, ↓kB.eq_1, ↓kV.eq_1, ↓kV.eq_2, ↓setW, ↓rngW1.eq_1, ↓rngW2.eq_1, ↓rngWd.eq_1, isVar, isNil, isT, gv, pv, setAll, ev0, items.eq_1, items.eq_2, tgs, wipeE, blind_cons, blind_nil, bl1, runB, List.map_cons, List.map_nil, List.replicate, List.cons_append, List.nil_append, if_true, if_false, ite_true, ite_false, reduceCtorEq, Bool.true_and, Bool.and_true, Bool.not_true, Bool.not_false, Bool.false_eq_true, ↓reduceIte, Nat.reduceSub, Nat.reduceAdd, List.length_cons, List.length_nil, decide_eq_true_eq, Bool.not_eq_true', decide_eq_false_iff_not, Bool.and_false, Bool.false_and, true_and, and_true, Nat.sub_self, Nat.succ_eq_add_one, flat, Nat.reduceLeDiff, Int.reduceLE, Int.reduceLT, Int.reduceEq, ne_eq, not_false_eq_true, s10, la_2, la_3, la_4, la_5, la_6, la_7, la_8, la_9, la_10, la_11, la_12, la_13, la_14, la_15, la_16, la_18, la_19, la_20, la_21, la_24, la_25, la_28, la_30, la_35, la_36, la_39, la_40, la_41, la_44, la_45, la_49, la_50, la_52, la_54, la_57, la_63, la_64, la_65, la_72, la_78, la_81, la_90, la_100, la_121, la_123, la_125, la_126, la_144, la_162, la_168, la_176, la_196, la_200, la_216, la_240, la_360, la_369, la_400, la_402, la_441, la_540, la_550, la_900, la_907, la_997, la_1009, la_1100, la_1152, la_1440, la_1764, la_2001, la_2003, la_2200, la_3150, la_4099, la_16807, la_22500, la_24200, la_72600, Nat.reduceLT, ↓ix_t0, ↓ix_t1, ↓ix_t2, ↓ix_t3, ↓ix_t4, ↓ix_t5, ↓ix_t6, ↓ix_l0, ↓ix_l1, ↓ix_l2, ↓ix_l3, ↓ix_l4, ↓ix_l5, ↓ix_l6, ↓add_ttz, ↓isT_tz, ↓sl_tz, isN_non, isN_tup, isN_lst, isN_int, isN_str, isN_bl, isN_fr, isN_tz, ↓hS.eq_1, ↓hS.eq_2, ↓hS.eq_3, ↓hS.eq_4, hE, hB, ↓hide.eq_1, ↓hide.eq_2, isS, Nat.reduceBEq, Bool.or_true, Bool.or_false, Bool.true_or, Bool.false_or, beq_self_eq_true, not_true_eq_false, Int.cast_ofNat_Int, ↓wE_callL, ↓wE_callLP, ↓kR_d, ↓kR_o, ↓kT_twoO, ↓kTP_two, ↓kTP_twoO, ↓pkW_callLP, ↓wE_lemp, ↓wE_lix, ↓wE_lpop0, ↓wE_lcL, ↓wE_lcK, ↓pkW_lcK, ↓kT_two, ↓lentAt, unlend_nil, unlend_cons, ul1_n, ul1_d, ul1_o, ul1_l, ↓wS_lend, ↓wS_lfn, ↓wS_retL, ↓wS_lset, ↓wS_asgN, ↓tgW_nst, noTwo_d, noTwo_o, ↓pkW_callL, ↓pkW_lix, ↓pkW_lemp, ↓pkW_lpop0, ↓pkW_lcL, ↓ptW_callL, ↓ptW_lix, ↓wE_lit, ↓pkW_lit, ↓ptW_lit, ↓cmp_geT, ↓wE_dget, ↓wE_dix, ↓wE_dsrt, ↓wE_dlc, ↓wE_lcD, ↓wE_srt, ↓wS_dnewT, ↓wS_dnewI, ↓wS_dset, ↓dictAt, itemsD_I, itemsD_T, ↓pkW_dget, ↓ptW_dget, ↓pkW_dix, ↓ptW_dix, ↓pkW_dsrt, ↓ptW_dsrt, ↓pkW_dlc, ↓ptW_dlc, ↓pkW_lcD, ↓ptW_lcD, ↓pkW_srt, ↓ptW_srt]
          refine dg_I ?_
          rw [lk]
          refine ⟨_, rfl, ?_⟩
          walk_at "s"
          exact h1 (by simpa using z) _ rfl
      · rw [(srtK_perm ps).length_eq, List.length_map]; omega
      · have er : ((srtK ps).filter fun i => decide (cq ps i ≠ 0)).map (fun i => pd (i, cq ps i)) = (rs ps).map pd := by
          unfold rs
          rw [List.map_map]; rfl
        rw [er]
        have rl : (rs ps).length ≤ n := Nat.le_trans (rs_len ps) hn
        walk_at "s"
        refine lc_flt (as := rs ps) pd pd (fun p => decide (1 < p.1)) (fun p hp k1 k0 h1 h0 => ?_) (by omega) ?_
        · obtain ⟨i, w⟩ := p
          simp only [pd, c__law_gathered_4, ↓wE.eq_1, ↓wE.eq_2, ↓wE.eq_3, ↓wE.eq_4, ↓wE.eq_5, ↓wE.eq_6, ↓wE.eq_7, ↓wE.eq_8, ↓wE.eq_9, ↓wE.eq_10, ↓wE.eq_11, ↓wE.eq_12, ↓wE.eq_13, ↓wE.eq_14, ↓wE.eq_15, ↓wE.eq_16, ↓wE.eq_18, ↓wE.eq_19, ↓wE.eq_22, ↓wE.eq_23, ↓wE.eq_24, ↓wE.eq_25, ↓wE.eq_26, ↓wE.eq_27, ↓wE.eq_28, ↓wE.eq_29, ↓wE.eq_30, ↓wE.eq_31, ↓wE.eq_32, ↓wE.eq_34, ↓wE.eq_35, ↓wE.eq_36, ↓wE.eq_37, ↓wE.eq_38, ↓wE.eq_39, ↓wE.eq_40, ↓wE.eq_41, ↓wE_call, ↓wE_callP, ↓wE_lc, ↓wE_lcg, ↓wE_isv, ↓wE_ix, ↓ix_fr0, ↓ix_fr1, ↓cmp_fr, ↓cmp_frn, ↓cmp_fr0, ↓cmp_tz, ↓cmp_tzn, ↓cmp_tz0, ↓cmp_tzn0, ↓bi_list_tz, ↓add_tz,   ↓len_tz, ↓len_fr, ↓isT_fr, items_tz, ↓cmp_bb, ↓cmp_bbn, ↓wS_whl, ↓wS_for, ↓wS_forP, ↓wS_asg, ↓wS_par, ↓wS_setIx, ↓wS_app, ↓tgW_one, ↓tgW_tup, pvF_eq, ↓wS.eq_1, ↓wS.eq_2, ↓wS.eq_3, ↓wS.eq_5, ↓wS.eq_7, ↓wS.eq_10, ↓wS.eq_11, ↓wS.eq_12, ↓wS.eq_13, ↓wS.eq_14, ↓wS.eq_15, ↓wS.eq_16, ↓wS.eq_17, ↓wS.eq_20, ↓wS.eq_21, ↓wS.eq_22, ↓wS.eq_23, ↓wS.eq_24, ↓wS.eq_25, ↓wS.eq_26, ↓wS.eq_27, ↓wS.eq_28, ↓wS.eq_29, ↓wS.eq_30, ↓augW.eq_1, ↓augW.eq_2, ↓augW.eq_3, ↓augW.eq_4, ↓inW.eq_1, ↓inW.eq_2, ↓inW.eq_3, ↓inW.eq_4, ↓zipW.eq_1, ↓zipW.eq_2, ↓cntW.eq_1, ↓dspW.eq_1, ↓idxW.eq_1, ↓opW.eq_1, ↓opW.eq_2, ↓opW.eq_3, ↓opW.eq_4, ↓opW.eq_5, ↓opW.eq_6, ↓opW.eq_7, ↓opW.eq_8, ↓opW.eq_9, ↓opW.eq_10, ↓opW.eq_11, ↓opW.eq_12, ↓opW.eq_13, ↓opW.eq_14, ↓cmpW.eq_1, ↓cmpW.eq_2, ↓cmpW.eq_5, ↓cmpW.eq_6, ↓cmpW.eq_7, ↓cmpW.eq_8, ↓cmpW.eq_9, ↓cmpW.eq_10, ↓cmpW.eq_11, ↓cmpW.eq_12, ↓cmp_ll, ↓cmp_lln, ↓cmp_tt, ↓cmp_ttn, ↓biW.eq_1, ↓biW.eq_2, ↓biW.eq_3, ↓biW.eq_4, ↓biW.eq_5, ↓biW.eq_6, ↓biW.eq_7, ↓biW.eq_8, ↓biW.eq_9, ↓biW.eq_10, ↓biW.eq_11, ↓biW.eq_12, ↓biW.eq_13, ↓biW.eq_14, ↓biW.eq_15, ↓biW.eq_16, ↓biW.eq_17, ↓lenW.eq_1, ↓lenW.eq_2, ↓slW.eq_1, ↓slW.eq_2, ↓revW.eq_1, ↓revW.eq_2, ↓pkW_var, ↓ptW_nil, ↓ptK_i, ↓pkW_cst, ↓pkW_tup, ↓pkW_lst, ↓pkW_bin, ↓pkW_neg, ↓pkW_ix, ↓pkW_sl, ↓pkW_rev, ↓pkW_call, ↓pkW_callP, ↓pkW_bi, ↓pkW_len, ↓pkW_lc, ↓pkW_ite, ↓pkW_gc, ↓pkW_mov, ↓pkW_dsp, ↓pkW_bone, ↓pkW_cmp, ↓pkW_cnt, ↓ptW_cst, ↓ptW_tup, ↓ptW_lst, ↓ptW_bin, ↓ptW_neg, ↓ptW_ix, ↓ptW_sl, ↓ptW_rev, ↓ptW_call, ↓ptW_callP, ↓ptW_bi, ↓ptW_len, ↓ptW_lc, ↓ptW_ite, ↓ptW_gc, ↓ptW_mov, ↓ptW_dsp, ↓ptW_bone, ↓ptW_cmp, ↓ptW_cnt, ↓ptW_var, ↓peek, ↓ownAt, ↓kD.eq_1, ↓kD.eq_2, ↓kM.eq_1, ↓kB.eq_1, ↓kV.eq_1, ↓kV.eq_2, ↓setW, ↓rngW1.eq_1, ↓rngW2.eq_1, ↓rngWd.eq_1, isVar, isNil, isT, gv, pv, setAll, ev0, items.eq_1, items.eq_2, tgs, wipeE, blind_cons, blind_nil, bl1, runB, List.map_cons, List.map_nil, List.replicate, List.cons_append, List.nil_append, if_true, if_false, ite_true, ite_false, reduceCtorEq, Bool.true_and, Bool.and_true, Bool.not_true, Bool.not_false, Bool.false_eq_true, ↓reduceIte, Nat.reduceSub, Nat.reduceAdd, List.length_cons, List.length_nil, decide_eq_true_eq, Bool.not_eq_true', decide_eq_false_iff_not, Bool.and_false, Bool.false_and, true_and, and_true, Nat.sub_self, Nat.succ_eq_add_one, flat, Nat.reduceLeDiff, Int.reduceLE, Int.reduceLT, Int.reduceEq, ne_eq, not_false_eq_true, s10, la_2, la_3, la_4, la_5, la_6, la_7, la_8, la_9, la_10, la_11, la_12, la_13, la_14, la_15, la_16, la_18, la_19, la_20, la_21, la_24, la_25, la_28, la_30, la_35, la_36, la_39, la_40, la_41, la_44, la_45, la_49, la_50, la_52, la_54, la_57, la_63, la_64, la_65, la_72, la_78, la_81, la_90, la_100, la_121, la_123, la_125, la_126, la_144, la_162, la_168, la_176, la_196, la_200, la_216, la_240, la_360, la_369, la_400, la_402, la_441, la_540, la_550, la_900, la_907, la_997, la_1009, la_1100, la_1152, la_1440, la_1764, la_2001, la_2003, la_2200, la_3150, la_4099, la_16807, la_22500, la_24200, la_72600, Nat.reduceLT, ↓ix_t0, ↓ix_t1, ↓ix_t2, ↓ix_t3, ↓ix_t4, ↓ix_t5, ↓ix_t6, ↓ix_l0, ↓ix_l1, ↓ix_l2, ↓ix_l3, ↓ix_l4, ↓ix_l5, ↓ix_l6, ↓add_ttz, ↓isT_tz, ↓sl_tz, isN_non, isN_tup, isN_lst, isN_int, isN_str, isN_bl, isN_fr, isN_tz, ↓hS.eq_1, ↓hS.eq_2, ↓hS.eq_3, ↓hS.eq_4, hE, hB, ↓hide.eq_1, ↓hide.eq_2, isS, Nat.reduceBEq, Bool.or_true, Bool.or_false, Bool.true_or, Bool.false_or, beq_self_eq_true, not_true_eq_false, Int.cast_ofNat_Int, ↓wE_callL, ↓wE_callLP, ↓kR_d, ↓kR_o, ↓kT_twoO, ↓kTP_two, ↓kTP_twoO, ↓pkW_callLP, ↓wE_lemp, ↓wE_lix, ↓wE_lpop0, ↓wE_lcL, ↓wE_lcK, ↓pkW_lcK, ↓kT_two, ↓lentAt, unlend_nil, unlend_cons, ul1_n, ul1_d, ul1_o, ul1_l, ↓wS_lend, ↓wS_lfn, ↓wS_retL, ↓wS_lset, ↓wS_asgN, ↓tgW_nst, noTwo_d, noTwo_o, ↓pkW_callL, ↓pkW_lix, ↓pkW_lemp, ↓pkW_lpop0, ↓pkW_lcL, ↓ptW_callL, ↓ptW_lix, ↓wE_lit, ↓pkW_lit, ↓ptW_lit, ↓cmp_geT, ↓wE_dget, ↓wE_dix, ↓wE_dsrt, ↓wE_dlc, ↓wE_lcD, ↓wE_srt, ↓wS_dnewT, ↓wS_dnewI, ↓wS_dset, ↓dictAt, itemsD_I, itemsD_T, ↓pkW_dget, ↓ptW_dget, ↓pkW_dix, ↓ptW_dix, ↓pkW_dsrt, ↓ptW_dsrt, ↓pkW_dlc, ↓ptW_dlc, ↓pkW_lcD, ↓ptW_lcD, ↓pkW_srt, ↓ptW_srt]
          split
          · rename_i hi; exact h1 (by simpa using hi) _
          · rename_i hi; exact h0 (by simpa using hi)
        simp only [List.length_map, ↓wE.eq_1, ↓wE.eq_2, ↓wE.eq_3, ↓wE.eq_4, ↓wE.eq_5, ↓wE.eq_6, ↓wE.eq_7, ↓wE.eq_8, ↓wE.eq_9, ↓wE.eq_10, ↓wE.eq_11, ↓wE.eq_12, ↓wE.eq_13, ↓wE.eq_14, ↓wE.eq_15, ↓wE.eq_16, ↓wE.eq_18, ↓wE.eq_19, ↓wE.eq_22, ↓wE.eq_23, ↓wE.eq_24, ↓wE.eq_25, ↓wE.eq_26, ↓wE.eq_27, ↓wE.eq_28, ↓wE.eq_29, ↓wE.eq_30, ↓wE.eq_31, ↓wE.eq_32, ↓wE.eq_34, ↓wE.eq_35, ↓wE.eq_36, ↓wE.eq_37, ↓wE.eq_38, ↓wE.eq_39, ↓wE.eq_40, ↓wE.eq_41, ↓wE_call, ↓wE_callP, ↓wE_lc, ↓wE_lcg, ↓wE_isv, ↓wE_ix, ↓ix_fr0, ↓ix_fr1, ↓cmp_fr, ↓cmp_frn, ↓cmp_fr0, ↓cmp_tz, ↓cmp_tzn, ↓cmp_tz0, ↓cmp_tzn0, ↓bi_list_tz, ↓add_tz,   ↓len_tz, ↓len_fr, ↓isT_fr, items_tz, ↓cmp_bb, ↓cmp_bbn, ↓wS_whl, ↓wS_for, ↓wS_forP, ↓wS_asg, ↓wS_par, ↓wS_setIx, ↓wS_app, ↓tgW_one, ↓tgW_tup, pvF_eq, ↓wS.eq_1, ↓wS.eq_2, ↓wS.eq_3, ↓wS.eq_5, ↓wS.eq_7, ↓wS.eq_10, ↓wS.eq_11, ↓wS.eq_12, ↓wS.eq_13, ↓wS.eq_14, ↓wS.eq_15, ↓wS.eq_16, ↓wS.eq_17, ↓wS.eq_20, ↓wS.eq_21, ↓wS.eq_22, ↓wS.eq_23, ↓wS.eq_24, ↓wS.eq_25, ↓wS.eq_26, ↓wS.eq_27, ↓wS.eq_28, ↓wS.eq_29, ↓wS.eq_30, ↓augW.eq_1, ↓augW.eq_2, ↓augW.eq_3, ↓augW.eq_4, ↓inW.eq_1, ↓inW.eq_2, ↓inW.eq_3, ↓inW.eq_4, ↓zipW.eq_1, ↓zipW.eq_2, ↓cntW.eq_1, ↓dspW.eq_1, ↓idxW.eq_1, ↓opW.eq_1, ↓opW.eq_2, ↓opW.eq_3, ↓opW.eq_4, ↓opW.eq_5, ↓opW.eq_6, ↓opW.eq_7, ↓opW.eq_8, ↓opW.eq_9, ↓opW.eq_10, ↓opW.eq_11, ↓opW.eq_12, ↓opW.eq_13, ↓opW.eq_14, ↓cmpW.eq_1, ↓cmpW.eq_2, ↓cmpW.eq_5, ↓cmpW.eq_6, ↓cmpW.eq_7, ↓cmpW.eq_8, ↓cmpW.eq_9, ↓cmpW.eq_10, ↓cmpW.eq_11, ↓cmpW.eq_12, ↓cmp_ll, ↓cmp_lln, ↓cmp_tt, ↓cmp_ttn, ↓biW.eq_1, ↓biW.eq_2, ↓biW.eq_3, ↓biW.eq_4, ↓biW.eq_5, ↓biW.eq_6, ↓biW.eq_7, ↓biW.eq_8, ↓biW.eq_9, ↓biW.eq_10, ↓biW.eq_11, ↓biW.eq_12, ↓biW.eq_13, ↓biW.eq_14, ↓biW.eq_15, ↓biW.eq_16, ↓biW.eq_17, ↓lenW.eq_1, ↓lenW.eq_2, ↓slW.eq_1, ↓slW.eq_2, ↓revW.eq_1, ↓revW.eq_2, ↓pkW_var, ↓ptW_nil, ↓ptK_i, ↓pkW_cst, ↓pkW_tup, ↓pkW_lst, ↓pkW_bin, ↓pkW_neg, ↓pkW_ix, ↓pkW_sl, ↓pkW_rev, ↓pkW_call, ↓pkW_callP, ↓pkW_bi, ↓pkW_len, ↓pkW_lc, ↓pkW_ite, ↓pkW_gc, ↓pkW_mov, ↓pkW_dsp, ↓pkW_bone, ↓pkW_cmp, ↓pkW_cnt, ↓ptW_cst, ↓ptW_tup, ↓ptW_lst, ↓ptW_bin, ↓ptW_neg, ↓ptW_ix, ↓ptW_sl, ↓ptW_rev, ↓ptW_call, ↓ptW_callP, ↓ptW_bi, ↓ptW_len, ↓ptW_lc, ↓ptW_ite, ↓ptW_gc, ↓ptW_mov, ↓ptW_dsp, ↓ptW_bone, ↓ptW_cmp, ↓ptW_cnt, ↓ptW_var, ↓peek, ↓ownAt, ↓kD.eq_1, ↓kD.eq_2, ↓kM.eq_1, ↓kB.eq_1, ↓kV.eq_1, ↓kV.eq_2, ↓setW, ↓rngW1.eq_1, ↓rngW2.eq_1, ↓rngWd.eq_1, isVar, isNil, isT, gv, pv, setAll, ev0, items.eq_1, items.eq_2, tgs, wipeE, blind_cons, blind_nil, bl1, runB, List.map_cons, List.map_nil, List.replicate, List.cons_append, List.nil_append, if_true, if_false, ite_true, ite_false, reduceCtorEq, Bool.true_and, Bool.and_true, Bool.not_true, Bool.not_false, Bool.false_eq_true, ↓reduceIte, Nat.reduceSub, Nat.reduceAdd, List.length_cons, List.length_nil, decide_eq_true_eq, Bool.not_eq_true', decide_eq_false_iff_not, Bool.and_false, Bool.false_and, true_and, and_true, Nat.sub_self, Nat.succ_eq_add_one, flat, Nat.reduceLeDiff, Int.reduceLE, Int.reduceLT, Int.reduceEq, ne_eq, not_false_eq_true, s10, la_2, la_3, la_4, la_5, la_6, la_7, la_8, la_9, la_10, la_11, la_12, la_13, la_14, la_15, la_16, la_18, la_19, la_20, la_21, la_24, la_25, la_28, la_30, la_35, la_36, la_39, la_40, la_41, la_44, la_45, la_49, la_50, la_52, la_54, la_57, la_63, la_64, la_65, la_72, la_78, la_81, la_90, la_100, la_121, la_123, la_125, la_126, la_144, la_162, la_168, la_176, la_196, la_200, la_216, la_240, la_360, la_369, la_400, la_402, la_441, la_540, la_550, la_900, la_907, la_997, la_1009, la_1100, la_1152, la_1440, la_1764, la_2001, la_2003, la_2200, la_3150, la_4099, la_16807, la_22500, la_24200, la_72600, Nat.reduceLT, ↓ix_t0, ↓ix_t1, ↓ix_t2, ↓ix_t3, ↓ix_t4, ↓ix_t5, ↓ix_t6, ↓ix_l0, ↓ix_l1, ↓ix_l2, ↓ix_l3, ↓ix_l4, ↓ix_l5, ↓ix_l6, ↓add_ttz, ↓isT_tz, ↓sl_tz, isN_non, isN_tup, isN_lst, isN_int, isN_str, isN_bl, isN_fr, isN_tz, ↓hS.eq_1, ↓hS.eq_2, ↓hS.eq_3, ↓hS.eq_4, hE, hB, ↓hide.eq_1, ↓hide.eq_2, isS, Nat.reduceBEq, Bool.or_true, Bool.or_false, Bool.true_or, Bool.false_or, beq_self_eq_true, not_true_eq_false, Int.cast_ofNat_Int, ↓wE_callL, ↓wE_callLP, ↓kR_d, ↓kR_o, ↓kT_twoO, ↓kTP_two, ↓kTP_twoO, ↓pkW_callLP, ↓wE_lemp, ↓wE_lix, ↓wE_lpop0, ↓wE_lcL, ↓wE_lcK, ↓pkW_lcK, ↓kT_two, ↓lentAt, unlend_nil, unlend_cons, ul1_n, ul1_d, ul1_o, ul1_l, ↓wS_lend, ↓wS_lfn, ↓wS_retL, ↓wS_lset, ↓wS_asgN, ↓tgW_nst, noTwo_d, noTwo_o, ↓pkW_callL, ↓pkW_lix, ↓pkW_lemp, ↓pkW_lpop0, ↓pkW_lcL, ↓ptW_callL, ↓ptW_lix, ↓wE_lit, ↓pkW_lit, ↓ptW_lit, ↓cmp_geT, ↓wE_dget, ↓wE_dix, ↓wE_dsrt, ↓wE_dlc, ↓wE_lcD, ↓wE_srt, ↓wS_dnewT, ↓wS_dnewI, ↓wS_dset, ↓dictAt, itemsD_I, itemsD_T, ↓pkW_dget, ↓ptW_dget, ↓pkW_dix, ↓ptW_dix, ↓pkW_dsrt, ↓ptW_dsrt, ↓pkW_dlc, ↓ptW_dlc, ↓pkW_lcD, ↓ptW_lcD, ↓pkW_srt, ↓ptW_srt]
        unfold dl at h
        split
        · rename_i hg
          rw [if_neg (by omega)] at h
          exact h
        · rename_i hg
          rw [if_pos (by omega)] at h
          exact h
def opr (i : Int) (a b : List Pr) : List Pr := if i = 0 then a ++ b else if i = 1 then a ++ ng b else tm a b
theorem opr_kd {i : Int} {s n m : Nat} {K : Int} {a b : List Pr} (ha : Kd s n K a) (hb : Kd s m K b) (K1 : 1 ≤ K) (K2 : K ≤ 1000000) : Kd (2 * s + 41) (n * m + n + m) (K * K) (opr i a b) := by
  have kk : K ≤ K * K := by
    have := Int.mul_le_mul_of_nonneg_left K1 (show 0 ≤ K by omega)
    omega
  unfold opr
  split
  · exact (ha.app hb).mono (by omega) (by omega) kk
  · split
    · exact (ha.app hb.ng).mono (by omega) (by omega) kk
    · exact (ha.tm hb (by omega) (by omega)).mono (Nat.le_refl _) (by omega) (Int.le_refl _)
theorem dl_dn {i : Int} {s n m : Nat} {K : Int} {a b : List Pr} (ha : Kd s n K a) (hb : Kd s m K b) (K1 : 1 ≤ K) (K2 : K ≤ 1000000) : dl (rs (opr i a b)) = dn (rs (opr i a b)) := by
  have kd := (opr_kd (i := i) ha hb K1 K2).rs
  have kk : K * K ≤ 1000000000000 := by
    have := Int.mul_le_mul K2 K2 (by omega) (by omega)
    omega
  unfold dl dn
  rw [gok_three kd.top kk]
  simp only [decide_eq_true_eq]
theorem p_ldue {i : Int} {a b : List Pr} {s n m : Nat} {K : Int} (hi : i = 0 ∨ i = 1 ∨ i = 2) (ha : Kd s n K a) (hb : Kd s m K b) (K1 : 1 ≤ K) (K2 : K ≤ 1000000) (n4 : n * m + n + m < 64) (bd : (2 * s + 41 + 1) * (n * m + n + m + 1) + 1 ≤ 50000000)
    (h : Q (.d (dl (rs (opr i a b))))) : sem fns (k + 5) 19 [.int i, .tuple (a.map pd), .tuple (b.map pd)] X Q := by
  have kd := opr_kd (i := i) ha hb K1 K2
  have s1 : 2 * s + 41 + 1 ≤ (2 * s + 41 + 1) * (n * m + n + m + 1) := Nat.le_mul_of_pos_right _ (by omega)
  have la := ha.len
  have lb := hb.len
  refine sem_at rfl ⟨rfl, ?_⟩
  rcases hi with rfl | rfl | rfl
  · (simp only [b__law_due]; walk_at "s")
    refine ⟨by rw [List.length_map, List.length_map]; omega, ?_⟩
    rw [← List.map_append]
    exact p_lgathered (ps := a ++ b) rfl kd.sz kd.len n4 bd h
  · (simp only [b__law_due]; walk_at "s")
    refine lc_as pd (fun p => pd (p.1, -p.2)) (fun p hp kk hk => ?_) (by omega) ?_
    · simp only [pd, e__law_due_1, ↓wE.eq_1, ↓wE.eq_2, ↓wE.eq_3, ↓wE.eq_4, ↓wE.eq_5, ↓wE.eq_6, ↓wE.eq_7, ↓wE.eq_8, ↓wE.eq_9, ↓wE.eq_10, ↓wE.eq_11, ↓wE.eq_12, ↓wE.eq_13, ↓wE.eq_14, ↓wE.eq_15, ↓wE.eq_16, ↓wE.eq_18, ↓wE.eq_19, ↓wE.eq_22, ↓wE.eq_23, ↓wE.eq_24, ↓wE.eq_25, ↓wE.eq_26, ↓wE.eq_27, ↓wE.eq_28, ↓wE.eq_29, ↓wE.eq_30, ↓wE.eq_31, ↓wE.eq_32, ↓wE.eq_34, ↓wE.eq_35, ↓wE.eq_36, ↓wE.eq_37, ↓wE.eq_38, ↓wE.eq_39, ↓wE.eq_40, ↓wE.eq_41, ↓wE_call, ↓wE_callP, ↓wE_lc, ↓wE_lcg, ↓wE_isv, ↓wE_ix, ↓ix_fr0, ↓ix_fr1, ↓cmp_fr, ↓cmp_frn, ↓cmp_fr0, ↓cmp_tz, ↓cmp_tzn, ↓cmp_tz0, ↓cmp_tzn0, ↓bi_list_tz, ↓add_tz,   ↓len_tz, ↓len_fr, ↓isT_fr, items_tz, ↓cmp_bb, ↓cmp_bbn, ↓wS_whl, ↓wS_for, ↓wS_forP, ↓wS_asg, ↓wS_par, ↓wS_setIx, ↓wS_app, ↓tgW_one, ↓tgW_tup, pvF_eq, ↓wS.eq_1, ↓wS.eq_2, ↓wS.eq_3, ↓wS.eq_5, ↓wS.eq_7, ↓wS.eq_10, ↓wS.eq_11, ↓wS.eq_12, ↓wS.eq_13, ↓wS.eq_14, ↓wS.eq_15, ↓wS.eq_16, ↓wS.eq_17, ↓wS.eq_20, ↓wS.eq_21, ↓wS.eq_22, ↓wS.eq_23, ↓wS.eq_24, ↓wS.eq_25, ↓wS.eq_26, ↓wS.eq_27, ↓wS.eq_28, ↓wS.eq_29, ↓wS.eq_30, ↓augW.eq_1, ↓augW.eq_2, ↓augW.eq_3, ↓augW.eq_4, ↓inW.eq_1, ↓inW.eq_2, ↓inW.eq_3, ↓inW.eq_4, ↓zipW.eq_1, ↓zipW.eq_2, ↓cntW.eq_1, ↓dspW.eq_1, ↓idxW.eq_1, ↓opW.eq_1, ↓opW.eq_2, ↓opW.eq_3, ↓opW.eq_4, ↓opW.eq_5, ↓opW.eq_6, ↓opW.eq_7, ↓opW.eq_8, ↓opW.eq_9, ↓opW.eq_10, ↓opW.eq_11, ↓opW.eq_12, ↓opW.eq_13, ↓opW.eq_14, ↓cmpW.eq_1, ↓cmpW.eq_2, ↓cmpW.eq_5, ↓cmpW.eq_6, ↓cmpW.eq_7, ↓cmpW.eq_8, ↓cmpW.eq_9, ↓cmpW.eq_10, ↓cmpW.eq_11, ↓cmpW.eq_12, ↓cmp_ll, ↓cmp_lln, ↓cmp_tt, ↓cmp_ttn, ↓biW.eq_1, ↓biW.eq_2, ↓biW.eq_3, ↓biW.eq_4, ↓biW.eq_5, ↓biW.eq_6, ↓biW.eq_7, ↓biW.eq_8, ↓biW.eq_9, ↓biW.eq_10, ↓biW.eq_11, ↓biW.eq_12, ↓biW.eq_13, ↓biW.eq_14, ↓biW.eq_15, ↓biW.eq_16, ↓biW.eq_17, ↓lenW.eq_1, ↓lenW.eq_2, ↓slW.eq_1, ↓slW.eq_2, ↓revW.eq_1, ↓revW.eq_2, ↓pkW_var, ↓ptW_nil, ↓ptK_i, ↓pkW_cst, ↓pkW_tup, ↓pkW_lst, ↓pkW_bin, ↓pkW_neg, ↓pkW_ix, ↓pkW_sl, ↓pkW_rev, ↓pkW_call, ↓pkW_callP, ↓pkW_bi, ↓pkW_len, ↓pkW_lc, ↓pkW_ite, ↓pkW_gc, ↓pkW_mov, ↓pkW_dsp, ↓pkW_bone, ↓pkW_cmp, ↓pkW_cnt, ↓ptW_cst, ↓ptW_tup, ↓ptW_lst, ↓ptW_bin, ↓ptW_neg, ↓ptW_ix, ↓ptW_sl, ↓ptW_rev, ↓ptW_call, ↓ptW_callP, ↓ptW_bi, ↓ptW_len, ↓ptW_lc, ↓ptW_ite, ↓ptW_gc, ↓ptW_mov, ↓ptW_dsp, ↓ptW_bone, ↓ptW_cmp, ↓ptW_cnt, ↓ptW_var, ↓peek, ↓ownAt, ↓kD.eq_1, ↓kD.eq_2, ↓kM.eq_1, ↓kB.eq_1, ↓kV.eq_1, ↓kV.eq_2, ↓setW, ↓rngW1.eq_1, ↓rngW2.eq_1, ↓rngWd.eq_1, isVar, isNil, isT, gv, pv, setAll, ev0, items.eq_1, items.eq_2, tgs, wipeE, blind_cons, blind_nil, bl1, runB, List.map_cons, List.map_nil, List.replicate, List.cons_append, List.nil_append, if_true, if_false, ite_true, ite_false, reduceCtorEq, Bool.true_and, Bool.and_true, Bool.not_true, Bool.not_false, Bool.false_eq_true, ↓reduceIte, Nat.reduceSub, Nat.reduceAdd, List.length_cons, List.length_nil, decide_eq_true_eq, Bool.not_eq_true', decide_eq_false_iff_not, Bool.and_false, Bool.false_and, true_and, and_true, Nat.sub_self, Nat.succ_eq_add_one, flat, Nat.reduceLeDiff, Int.reduceLE, Int.reduceLT, Int.reduceEq, ne_eq, not_false_eq_true, s10, la_2, la_3, la_4, la_5, la_6, la_7, la_8, la_9, la_10, la_11, la_12, la_13, la_14, la_15, la_16, la_18, la_19, la_20, la_21, la_24, la_25, la_28, la_30, la_35, la_36, la_39, la_40, la_41, la_44, la_45, la_49, la_50, la_52, la_54, la_57, la_63, la_64, la_65, la_72, la_78, la_81, la_90, la_100, la_121, la_123, la_125, la_126, la_144, la_162, la_168, la_176, la_196, la_200, la_216, la_240, la_360, la_369, la_400, la_402, la_441, la_540, la_550, la_900, la_907, la_997, la_1009, la_1100, la_1152, la_1440, la_1764, la_2001, la_2003, la_2200, la_3150, la_4099, la_16807, la_22500, la_24200, la_72600, Nat.reduceLT, ↓ix_t0, ↓ix_t1, ↓ix_t2, ↓ix_t3, ↓ix_t4, ↓ix_t5, ↓ix_t6, ↓ix_l0, ↓ix_l1, ↓ix_l2, ↓ix_l3, ↓ix_l4, ↓ix_l5, ↓ix_l6, ↓add_ttz, ↓isT_tz, ↓sl_tz, isN_non, isN_tup, isN_lst, isN_int, isN_str, isN_bl, isN_fr, isN_tz, ↓hS.eq_1, ↓hS.eq_2, ↓hS.eq_3, ↓hS.eq_4, hE, hB, ↓hide.eq_1, ↓hide.eq_2, isS, Nat.reduceBEq, Bool.or_true, Bool.or_false, Bool.true_or, Bool.false_or, beq_self_eq_true, not_true_eq_false, Int.cast_ofNat_Int, ↓wE_callL, ↓wE_callLP, ↓kR_d, ↓kR_o, ↓kT_twoO, ↓kTP_two, ↓kTP_twoO, ↓pkW_callLP, ↓wE_lemp, ↓wE_lix, ↓wE_lpop0, ↓wE_lcL, ↓wE_lcK, ↓pkW_lcK, ↓kT_two, ↓lentAt, unlend_nil, unlend_cons, ul1_n, ul1_d, ul1_o, ul1_l, ↓wS_lend, ↓wS_lfn, ↓wS_retL, ↓wS_lset, ↓wS_asgN, ↓tgW_nst, noTwo_d, noTwo_o, ↓pkW_callL, ↓pkW_lix, ↓pkW_lemp, ↓pkW_lpop0, ↓pkW_lcL, ↓ptW_callL, ↓ptW_lix, ↓wE_lit, ↓pkW_lit, ↓ptW_lit, ↓cmp_geT, ↓wE_dget, ↓wE_dix, ↓wE_dsrt, ↓wE_dlc, ↓wE_lcD, ↓wE_srt, ↓wS_dnewT, ↓wS_dnewI, ↓wS_dset, ↓dictAt, itemsD_I, itemsD_T, ↓pkW_dget, ↓ptW_dget, ↓pkW_dix, ↓ptW_dix, ↓pkW_dsrt, ↓ptW_dsrt, ↓pkW_dlc, ↓ptW_dlc, ↓pkW_lcD, ↓ptW_lcD, ↓pkW_srt, ↓ptW_srt]
      exact hk _
    walk_at "s"
    have e2 : b.map (fun p => pd (p.1, -p.2)) = (ng b).map pd := by unfold ng; rw [List.map_map]; rfl
    rw [e2]
    refine ⟨by rw [List.length_map, List.length_map, ng_len]; omega, ?_⟩
    rw [← List.map_append]
    exact p_lgathered (ps := a ++ ng b) rfl kd.sz kd.len n4 bd h
  · (simp only [b__law_due]; walk_at "s")
    refine for_at' (fun q ε => ∃ (us ws : List Pr) (o3 o4 o5 o6 o7 : Option Val), q = us.map pd ∧ a = ws ++ us ∧ ε = [some (.d (.int 2)), some (.d (.tuple (a.map pd))), some (.d (.tuple (b.map pd))), o3, o4, some (.own ((tm ws b).map pd)), o5, o6, o7]) ?_ ?_ _ _ ⟨a, [], none, none, none, none, none, rfl, rfl, rfl⟩
    · rintro x q ε ⟨us, ws, o3, o4, o5, o6, o7, hq, e, rfl⟩ hnx
      cases us with
      | nil => cases hq
      | cons t us =>
        cases hq
        have mt : t ∈ a := by rw [e]; simp
        have lw : ws.length + 1 ≤ n := by
          have := congrArg List.length e
          simp at this
          omega
        simp only [pd, b__law_due_3, ↓wE.eq_1, ↓wE.eq_2, ↓wE.eq_3, ↓wE.eq_4, ↓wE.eq_5, ↓wE.eq_6, ↓wE.eq_7, ↓wE.eq_8, ↓wE.eq_9, ↓wE.eq_10, ↓wE.eq_11, ↓wE.eq_12, ↓wE.eq_13, ↓wE.eq_14, ↓wE.eq_15, ↓wE.eq_16, ↓wE.eq_18, ↓wE.eq_19, ↓wE.eq_22, ↓wE.eq_23, ↓wE.eq_24, ↓wE.eq_25, ↓wE.eq_26, ↓wE.eq_27, ↓wE.eq_28, ↓wE.eq_29, ↓wE.eq_30, ↓wE.eq_31, ↓wE.eq_32, ↓wE.eq_34, ↓wE.eq_35, ↓wE.eq_36, ↓wE.eq_37, ↓wE.eq_38, ↓wE.eq_39, ↓wE.eq_40, ↓wE.eq_41, ↓wE_call, ↓wE_callP, ↓wE_lc, ↓wE_lcg, ↓wE_isv, ↓wE_ix, ↓ix_fr0, ↓ix_fr1, ↓cmp_fr, ↓cmp_frn, ↓cmp_fr0, ↓cmp_tz, ↓cmp_tzn, ↓cmp_tz0, ↓cmp_tzn0, ↓bi_list_tz, ↓add_tz,   ↓len_tz, ↓len_fr, ↓isT_fr, items_tz, ↓cmp_bb, ↓cmp_bbn, ↓wS_whl, ↓wS_for, ↓wS_forP, ↓wS_asg, ↓wS_par, ↓wS_setIx, ↓wS_app, ↓tgW_one, ↓tgW_tup, pvF_eq, ↓wS.eq_1, ↓wS.eq_2, ↓wS.eq_3, ↓wS.eq_5, ↓wS.eq_7, ↓wS.eq_10, ↓wS.eq_11, ↓wS.eq_12, ↓wS.eq_13, ↓wS.eq_14, ↓wS.eq_15, ↓wS.eq_16, ↓wS.eq_17, ↓wS.eq_20, ↓wS.eq_21, ↓wS.eq_22, ↓wS.eq_23, ↓wS.eq_24, ↓wS.eq_25, ↓wS.eq_26, ↓wS.eq_27, ↓wS.eq_28, ↓wS.eq_29, ↓wS.eq_30, ↓augW.eq_1, ↓augW.eq_2, ↓augW.eq_3, ↓augW.eq_4, ↓inW.eq_1, ↓inW.eq_2, ↓inW.eq_3, ↓inW.eq_4, ↓zipW.eq_1, ↓zipW.eq_2, ↓cntW.eq_1, ↓dspW.eq_1, ↓idxW.eq_1, ↓opW.eq_1, ↓opW.eq_2, ↓opW.eq_3, ↓opW.eq_4, ↓opW.eq_5, ↓opW.eq_6, ↓opW.eq_7, ↓opW.eq_8, ↓opW.eq_9, ↓opW.eq_10, ↓opW.eq_11, ↓opW.eq_12, ↓opW.eq_13, ↓opW.eq_14, ↓cmpW.eq_1, ↓cmpW.eq_2, ↓cmpW.eq_5, ↓cmpW.eq_6, ↓cmpW.eq_7, ↓cmpW.eq_8, ↓cmpW.eq_9, ↓cmpW.eq_10, ↓cmpW.eq_11, ↓cmpW.eq_12, ↓cmp_ll, ↓cmp_lln, ↓cmp_tt, ↓cmp_ttn, ↓biW.eq_1, ↓biW.eq_2, ↓biW.eq_3, ↓biW.eq_4, ↓biW.eq_5, ↓biW.eq_6, ↓biW.eq_7, ↓biW.eq_8, ↓biW.eq_9, ↓biW.eq_10, ↓biW.eq_11, ↓biW.eq_12, ↓biW.eq_13, ↓biW.eq_14, ↓biW.eq_15, ↓biW.eq_16, ↓biW.eq_17, ↓lenW.eq_1, ↓lenW.eq_2, ↓slW.eq_1, ↓slW.eq_2, ↓revW.eq_1, ↓revW.eq_2, ↓pkW_var, ↓ptW_nil, ↓ptK_i, ↓pkW_cst, ↓pkW_tup, ↓pkW_lst, ↓pkW_bin, ↓pkW_neg, ↓pkW_ix, ↓pkW_sl, ↓pkW_rev, ↓pkW_call, ↓pkW_callP, ↓pkW_bi, ↓pkW_len, ↓pkW_lc, ↓pkW_ite, ↓pkW_gc, ↓pkW_mov, ↓pkW_dsp, ↓pkW_bone, ↓pkW_cmp, ↓pkW_cnt, ↓ptW_cst, ↓ptW_tup, ↓ptW_lst, ↓ptW_bin, ↓ptW_neg, ↓ptW_ix, ↓ptW_sl, ↓ptW_rev, ↓ptW_call, ↓ptW_callP, ↓ptW_bi, ↓ptW_len, ↓ptW_lc, ↓ptW_ite, ↓ptW_gc, ↓ptW_mov, ↓ptW_dsp, ↓ptW_bone, ↓ptW_cmp, ↓ptW_cnt, ↓ptW_var, ↓peek, ↓ownAt, ↓kD.eq_1, ↓kD.eq_2, ↓kM.eq_1, ↓kB.eq_1, ↓kV.eq_1, ↓kV.eq_2, ↓setW, ↓rngW1.eq_1, ↓rngW2.eq_1, ↓rngWd.eq_1, isVar, isNil, isT, gv, pv, setAll, ev0, items.eq_1, items.eq_2, tgs, wipeE, blind_cons, blind_nil, bl1, runB, List.map_cons, List.map_nil, List.replicate, List.cons_append, List.nil_append, if_true, if_false, ite_true, ite_false, reduceCtorEq, Bool.true_and, Bool.and_true, Bool.not_true, Bool.not_false, Bool.false_eq_true, ↓reduceIte, Nat.reduceSub, Nat.reduceAdd, List.length_cons, List.length_nil, decide_eq_true_eq, Bool.not_eq_true', decide_eq_false_iff_not, Bool.and_false, Bool.false_and, true_and, and_true, Nat.sub_self, Nat.succ_eq_add_one, flat, Nat.reduceLeDiff, Int.reduceLE, Int.reduceLT, Int.reduceEq, ne_eq, not_false_eq_true, s10, la_2, la_3, la_4, la_5, la_6, la_7, la_8, la_9, la_10, la_11, la_12, la_13, la_14, la_15, la_16, la_18, la_19, la_20, la_21, la_24, la_25, la_28, la_30, la_35, la_36, la_39, la_40, la_41, la_44, la_45, la_49, la_50, la_52, la_54, la_57, la_63, la_64, la_65, la_72, la_78, la_81, la_90, la_100, la_121, la_123, la_125, la_126, la_144, la_162, la_168, la_176, la_196, la_200, la_216, la_240, la_360, la_369, la_400, la_402, la_441, la_540, la_550, la_900, la_907, la_997, la_1009, la_1100, la_1152, la_1440, la_1764, la_2001, la_2003, la_2200, la_3150, la_4099, la_16807, la_22500, la_24200, la_72600, Nat.reduceLT, ↓ix_t0, ↓ix_t1, ↓ix_t2, ↓ix_t3, ↓ix_t4, ↓ix_t5, ↓ix_t6, ↓ix_l0, ↓ix_l1, ↓ix_l2, ↓ix_l3, ↓ix_l4, ↓ix_l5, ↓ix_l6, ↓add_ttz, ↓isT_tz, ↓sl_tz, isN_non, isN_tup, isN_lst, isN_int, isN_str, isN_bl, isN_fr, isN_tz, ↓hS.eq_1, ↓hS.eq_2, ↓hS.eq_3, ↓hS.eq_4, hE, hB, ↓hide.eq_1, ↓hide.eq_2, isS, Nat.reduceBEq, Bool.or_true, Bool.or_false, Bool.true_or, Bool.false_or, beq_self_eq_true, not_true_eq_false, Int.cast_ofNat_Int, ↓wE_callL, ↓wE_callLP, ↓kR_d, ↓kR_o, ↓kT_twoO, ↓kTP_two, ↓kTP_twoO, ↓pkW_callLP, ↓wE_lemp, ↓wE_lix, ↓wE_lpop0, ↓wE_lcL, ↓wE_lcK, ↓pkW_lcK, ↓kT_two, ↓lentAt, unlend_nil, unlend_cons, ul1_n, ul1_d, ul1_o, ul1_l, ↓wS_lend, ↓wS_lfn, ↓wS_retL, ↓wS_lset, ↓wS_asgN, ↓tgW_nst, noTwo_d, noTwo_o, ↓pkW_callL, ↓pkW_lix, ↓pkW_lemp, ↓pkW_lpop0, ↓pkW_lcL, ↓ptW_callL, ↓ptW_lix, ↓wE_lit, ↓pkW_lit, ↓ptW_lit, ↓cmp_geT, ↓wE_dget, ↓wE_dix, ↓wE_dsrt, ↓wE_dlc, ↓wE_lcD, ↓wE_srt, ↓wS_dnewT, ↓wS_dnewI, ↓wS_dset, ↓dictAt, itemsD_I, itemsD_T, ↓pkW_dget, ↓ptW_dget, ↓pkW_dix, ↓ptW_dix, ↓pkW_dsrt, ↓ptW_dsrt, ↓pkW_dlc, ↓ptW_dlc, ↓pkW_lcD, ↓ptW_lcD, ↓pkW_srt, ↓ptW_srt]
        refine for_at' (fun q ε => ∃ (vs xs : List Pr) (o5 o6 o7 : Option Val), q = vs.map pd ∧ b = xs ++ vs ∧ ε = [some (.d (.int 2)), some (.d (.tuple (a.map pd))), some (.d (.tuple (b.map pd))), some (.d (.int t.1)), some (.d (fr t.2)), some (.own ((tm ws b ++ xs.map fun q => (pk t.1 q.1, t.2 * q.2 * (gg t.1 q.1 : Rat))).map pd)), o5, o6, o7]) ?_ ?_ _ _ ⟨b, [], _, _, _, rfl, rfl, by rw [List.map_nil, List.append_nil]⟩
        · rintro x q ε ⟨vs, xs, o5, o6, o7, hq, e2, rfl⟩ hnx2
          cases vs with
          | nil => cases hq
          | cons u vs =>
            cases hq
            have mu : u ∈ b := by rw [e2]; simp
            have lx : xs.length + 1 ≤ m := by
              have := congrArg List.length e2
              simp at this
              omega
            obtain ⟨td, tw⟩ := t
            obtain ⟨ud, uw⟩ := u
            have t0 := (ha.key _ mt).1
            have u0 := (hb.key _ mu).1
            have t1 := ha.top _ mt
            have u1 := hb.top _ mu
            obtain ⟨x, rfl⟩ : ∃ x : Nat, td = x := ⟨td.toNat, by simp at t0; omega⟩
            obtain ⟨y, rfl⟩ : ∃ y : Nat, ud = y := ⟨ud.toNat, by simp at u0; omega⟩
            simp only at t0 u0 t1 u1
            simp only [pd, b__law_due_2, ↓wE.eq_1, ↓wE.eq_2, ↓wE.eq_3, ↓wE.eq_4, ↓wE.eq_5, ↓wE.eq_6, ↓wE.eq_7, ↓wE.eq_8, ↓wE.eq_9, ↓wE.eq_10, ↓wE.eq_11, ↓wE.eq_12, ↓wE.eq_13, ↓wE.eq_14, ↓wE.eq_15, ↓wE.eq_16, ↓wE.eq_18, ↓wE.eq_19, ↓wE.eq_22, ↓wE.eq_23, ↓wE.eq_24, ↓wE.eq_25, ↓wE.eq_26, ↓wE.eq_27, ↓wE.eq_28, ↓wE.eq_29, ↓wE.eq_30, ↓wE.eq_31, ↓wE.eq_32, ↓wE.eq_34, ↓wE.eq_35, ↓wE.eq_36, ↓wE.eq_37, ↓wE.eq_38, ↓wE.eq_39, ↓wE.eq_40, ↓wE.eq_41, ↓wE_call, ↓wE_callP, ↓wE_lc, ↓wE_lcg, ↓wE_isv, ↓wE_ix, ↓ix_fr0, ↓ix_fr1, ↓cmp_fr, ↓cmp_frn, ↓cmp_fr0, ↓cmp_tz, ↓cmp_tzn, ↓cmp_tz0, ↓cmp_tzn0, ↓bi_list_tz, ↓add_tz,   ↓len_tz, ↓len_fr, ↓isT_fr, items_tz, ↓cmp_bb, ↓cmp_bbn, ↓wS_whl, ↓wS_for, ↓wS_forP, ↓wS_asg, ↓wS_par, ↓wS_setIx, ↓wS_app, ↓tgW_one, ↓tgW_tup, pvF_eq, ↓wS.eq_1, ↓wS.eq_2, ↓wS.eq_3, ↓wS.eq_5, ↓wS.eq_7, ↓wS.eq_10, ↓wS.eq_11, ↓wS.eq_12, ↓wS.eq_13, ↓wS.eq_14, ↓wS.eq_15, ↓wS.eq_16, ↓wS.eq_17, ↓wS.eq_20, ↓wS.eq_21, ↓wS.eq_22, ↓wS.eq_23, ↓wS.eq_24, ↓wS.eq_25, ↓wS.eq_26, ↓wS.eq_27, ↓wS.eq_28, ↓wS.eq_29, ↓wS.eq_30, ↓augW.eq_1, ↓augW.eq_2, ↓augW.eq_3, ↓augW.eq_4, ↓inW.eq_1, ↓inW.eq_2, ↓inW.eq_3, ↓inW.eq_4, ↓zipW.eq_1, ↓zipW.eq_2, ↓cntW.eq_1, ↓dspW.eq_1, ↓idxW.eq_1, ↓opW.eq_1, ↓opW.eq_2, ↓opW.eq_3, ↓opW.eq_4, ↓opW.eq_5, ↓opW.eq_6, ↓opW.eq_7, ↓opW.eq_8, ↓opW.eq_9, ↓opW.eq_10, ↓opW.eq_11, ↓opW.eq_12, ↓opW.eq_13, ↓opW.eq_14, ↓cmpW.eq_1, ↓cmpW.eq_2, ↓cmpW.eq_5, ↓cmpW.eq_6, ↓cmpW.eq_7, ↓cmpW.eq_8, ↓cmpW.eq_9, ↓cmpW.eq_10, ↓cmpW.eq_11, ↓cmpW.eq_12, ↓cmp_ll, ↓cmp_lln, ↓cmp_tt, ↓cmp_ttn, ↓biW.eq_1, ↓biW.eq_2, ↓biW.eq_3, ↓biW.eq_4, ↓biW.eq_5, ↓biW.eq_6, ↓biW.eq_7, ↓biW.eq_8, ↓biW.eq_9, ↓biW.eq_10, ↓biW.eq_11, ↓biW.eq_12, ↓biW.eq_13, ↓biW.eq_14, ↓biW.eq_15, ↓biW.eq_16, ↓biW.eq_17, ↓lenW.eq_1, ↓lenW.eq_2, ↓slW.eq_1, ↓slW.eq_2, ↓revW.eq_1, ↓revW.eq_2, ↓pkW_var, ↓ptW_nil, ↓ptK_i, ↓pkW_cst, ↓pkW_tup, ↓pkW_lst, ↓pkW_bin, ↓pkW_neg, ↓pkW_ix, ↓pkW_sl, ↓pkW_rev, ↓pkW_call, ↓pkW_callP, ↓pkW_bi, ↓pkW_len, ↓pkW_lc, ↓pkW_ite, ↓pkW_gc, ↓pkW_mov, ↓pkW_dsp, ↓pkW_bone, ↓pkW_cmp, ↓pkW_cnt, ↓ptW_cst, ↓ptW_tup, ↓ptW_lst, ↓ptW_bin, ↓ptW_neg, ↓ptW_ix, ↓ptW_sl, ↓ptW_rev, ↓ptW_call, ↓ptW_callP, ↓ptW_bi, ↓ptW_len, ↓ptW_lc, ↓ptW_ite, ↓ptW_gc, ↓ptW_mov, ↓ptW_dsp, ↓ptW_bone, ↓ptW_cmp, ↓ptW_cnt, ↓ptW_var, ↓peek, ↓ownAt, ↓kD.eq_1, ↓kD.eq_2, ↓kM.eq_1, ↓kB.eq_1, ↓kV.eq_1, ↓kV.eq_2, ↓setW, ↓rngW1.eq_1, ↓rngW2.eq_1, ↓rngWd.eq_1, isVar, isNil, isT, gv, pv, setAll, ev0, items.eq_1, items.eq_2, tgs, wipeE, blind_cons, blind_nil, bl1, runB, List.map_cons, List.map_nil, List.replicate, List.cons_append, List.nil_append, if_true, if_false, ite_true, ite_false, reduceCtorEq, Bool.true_and, Bool.and_true, Bool.not_true, Bool.not_false, Bool.false_eq_true, ↓reduceIte, Nat.reduceSub, Nat.reduceAdd, List.length_cons, List.length_nil, decide_eq_true_eq, Bool.not_eq_true', decide_eq_false_iff_not, Bool.and_false, Bool.false_and, true_and, and_true, Nat.sub_self, Nat.succ_eq_add_one, flat, Nat.reduceLeDiff, Int.reduceLE, Int.reduceLT, Int.reduceEq, ne_eq, not_false_eq_true, s10, la_2, la_3, la_4, la_5, la_6, la_7, la_8, la_9, la_10, la_11, la_12, la_13, la_14, la_15, la_16, la_18, la_19, la_20, la_21, la_24, la_25, la_28, la_30, la_35, la_36, la_39, la_40, la_41, la_44, la_45, la_49, la_50, la_52, la_54, la_57, la_63, la_64, la_65, la_72, la_78, la_81, la_90, la_100, la_121, la_123, la_125, la_126, la_144, la_162, la_168, la_176, la_196, la_200, la_216, la_240, la_360, la_369, la_400, la_402, la_441, la_540, la_550, la_900, la_907, la_997, la_1009, la_1100, la_1152, la_1440, la_1764, la_2001, la_2003, la_2200, la_3150, la_4099, la_16807, la_22500, la_24200, la_72600, Nat.reduceLT, ↓ix_t0, ↓ix_t1, ↓ix_t2, ↓ix_t3, ↓ix_t4, ↓ix_t5, ↓ix_t6, ↓ix_l0, ↓ix_l1, ↓ix_l2, ↓ix_l3, ↓ix_l4, ↓ix_l5, ↓ix_l6, ↓add_ttz, ↓isT_tz, ↓sl_tz, isN_non, isN_tup, isN_lst, isN_int, isN_str, isN_bl, isN_fr, isN_tz, ↓hS.eq_1, ↓hS.eq_2, ↓hS.eq_3, ↓hS.eq_4, hE, hB, ↓hide.eq_1, ↓hide.eq_2, isS, Nat.reduceBEq, Bool.or_true, Bool.or_false, Bool.true_or, Bool.false_or, beq_self_eq_true, not_true_eq_false, Int.cast_ofNat_Int, ↓wE_callL, ↓wE_callLP, ↓kR_d, ↓kR_o, ↓kT_twoO, ↓kTP_two, ↓kTP_twoO, ↓pkW_callLP, ↓wE_lemp, ↓wE_lix, ↓wE_lpop0, ↓wE_lcL, ↓wE_lcK, ↓pkW_lcK, ↓kT_two, ↓lentAt, unlend_nil, unlend_cons, ul1_n, ul1_d, ul1_o, ul1_l, ↓wS_lend, ↓wS_lfn, ↓wS_retL, ↓wS_lset, ↓wS_asgN, ↓tgW_nst, noTwo_d, noTwo_o, ↓pkW_callL, ↓pkW_lix, ↓pkW_lemp, ↓pkW_lpop0, ↓pkW_lcL, ↓ptW_callL, ↓ptW_lix, ↓wE_lit, ↓pkW_lit, ↓ptW_lit, ↓cmp_geT, ↓wE_dget, ↓wE_dix, ↓wE_dsrt, ↓wE_dlc, ↓wE_lcD, ↓wE_srt, ↓wS_dnewT, ↓wS_dnewI, ↓wS_dset, ↓dictAt, itemsD_I, itemsD_T, ↓pkW_dget, ↓ptW_dget, ↓pkW_dix, ↓ptW_dix, ↓pkW_dsrt, ↓ptW_dsrt, ↓pkW_dlc, ↓ptW_dlc, ↓pkW_lcD, ↓ptW_lcD, ↓pkW_srt, ↓ptW_srt]
            refine p_ldiv ?_
            walk_at "s"
            have g0 : ((Nat.gcd x y : Nat) : Int) ≠ 0 := by
              have := Nat.gcd_pos_of_pos_left y (show 0 < x by omega)
              omega
            have b1 : Bt 60 (x : Int) := by unfold Bt; omega
            have b2 : Bt 60 (y : Int) := by unfold Bt; omega
            have hg : ((Nat.gcd x y : Nat) : Int) = gg x y := rfl
            have ek : (((x : Int) * y).fdiv (gg x y)).fdiv (gg x y) = pk x y := by
              unfold pk
              obtain ⟨g, hgg⟩ : ∃ g, Nat.gcd x y = g := ⟨_, rfl⟩
              have d1 : g ∣ x := hgg ▸ Nat.gcd_dvd_left ..
              have d2 : g ∣ y := hgg ▸ Nat.gcd_dvd_right ..
              rw [← hg, hgg]
              obtain ⟨c, rfl⟩ := d1
              obtain ⟨d, rfl⟩ := d2
              have gp : 0 < g := by
                rcases Nat.eq_zero_or_pos g with z | z
                · rw [z] at t0; simp at t0
                · exact z
              rw [fdiv_nat, fdiv_nat, Nat.mul_div_cancel_left _ gp, Nat.mul_div_cancel_left _ gp]
              rw [show ((g * c : Nat) : Int) * ((g * d : Nat) : Int) = ((g * (g * (c * d)) : Nat) : Int) by push_cast; simp only [Int.mul_assoc, Int.mul_comm, Int.mul_left_comm]]
              rw [fdiv_nat, Nat.mul_div_cancel_left _ gp, fdiv_nat, Nat.mul_div_cancel_left _ gp]
              push_cast; rfl
            rw [hg] at g0 ⊢
            rw [ek]
            refine ⟨mulOk_of b1 b2 (by decide), g0, g0, ?_⟩
            refine p_times (a := s) (ha.sz _ mt) (hb.sz _ mu) (by omega) ?_
            walk_at "s"
            have ef : PyData.tuple [.int (gg x y), .int 1] = fr ((gg x y : Int) : Rat) := fr_c rfl rfl
            rw [ef]
            refine p_times (a := 2 * s + 41) ((sz_mulA (ha.sz _ mt) (hb.sz _ mu)).mono (by omega)) ((sz_gg t0 t1 (by omega)).mono (by omega)) (by omega) ?_
            walk_at "s"
            have ml : ws.length * b.length + xs.length < n * m := by
              have q2 : ws.length * b.length ≤ ws.length * m := Nat.mul_le_mul_left _ lb
              have q3 : (ws.length + 1) * m ≤ n * m := Nat.mul_le_mul_right _ lw
              rw [Nat.succ_mul] at q3
              omega
            refine ⟨by rw [List.length_map, List.length_append, tm_len, List.length_map]; omega, ?_⟩
            have el : (tm ws b ++ xs.map fun q : Pr => (pk (x : Int) q.1, tw * q.2 * (gg (x : Int) q.1 : Rat))).map pd ++ [PyData.tuple [.int (pk x y), fr (tw * uw * ((gg x y : Int) : Rat))]] = (tm ws b ++ (xs ++ [((y : Int), uw)]).map fun q : Pr => (pk (x : Int) q.1, tw * q.2 * (gg (x : Int) q.1 : Rat))).map pd := by
              rw [List.map_append (l₁ := xs), ← List.append_assoc, List.map_append (l₁ := tm ws b ++ _)]
              rfl
            rw [el]
            exact hnx2 _ ⟨vs, xs ++ [((y : Int), uw)], _, _, _, rfl, by rw [e2]; simp, rfl⟩
        · rintro ε ⟨vs, xs, o5, o6, o7, hq, e2, rfl⟩
          cases vs with
          | cons _ _ => cases hq
          | nil =>
            rw [List.append_nil] at e2
            subst e2
            have this : tm (ws ++ [t]) b = tm ws b ++ b.map fun q => (pk t.1 q.1, t.2 * q.2 * (gg t.1 q.1 : Rat)) := by
              unfold tm
              rw [List.flatMap_append]
              simp
            rw [← this]
            exact hnx _ ⟨us, ws ++ [t], _, _, _, _, _, rfl, by rw [e]; simp, rfl⟩
    · rintro ε ⟨us, ws, o3, o4, o5, o6, o7, hq, e, rfl⟩
      cases us with
      | cons _ _ => cases hq
      | nil =>
        rw [List.append_nil] at e
        subst e
        (simp only [b__law_due_4]; walk_at "s")
        exact p_lgathered (ps := tm a b) rfl kd.sz kd.len n4 bd h
theorem p_ldone {i : Int} {a b : List Pr} {s n m : Nat} {K : Int} (hi : i = 0 ∨ i = 1 ∨ i = 2) (ha : Kd s n K a) (hb : Kd s m K b) (K1 : 1 ≤ K) (K2 : K ≤ 1000000000000) (n4 : n * m + n + m < 64) (bd : (2 * s + 41 + 1) * (n * m + n + m + 1) + 1 ≤ 50000000)
    (h : Q (.d (dn (rs (opr i a b))))) : sem fns (k + 6) 20 [.int i, .tuple (a.map pd), .tuple (b.map pd)] X Q := by
  have mm : ∀ x y : Nat, x ≤ n * m + n + m → y ≤ 2 * s + 41 → (y + 1) * (x + 1) + 1 ≤ 50000000 := fun x y hx hy => Nat.le_trans (Nat.succ_le_succ (Nat.mul_le_mul (Nat.succ_le_succ hy) (Nat.succ_le_succ hx))) bd
  refine sem_at rfl ⟨rfl, ?_⟩
  unfold dn at h
  rcases hi with rfl | rfl | rfl
  · (simp only [b__law_done]; walk_at "s")
    refine p_s_plus (ha.app hb).sz (ha.app hb).len (by omega) (mm _ _ (by omega) (by omega)) (fun g => ?_) (fun g => ?_)
    · rw [if_pos (show gok (rs (opr 0 a b)) = true from g)] at h
      (simp only [b__law_done_1]; walk_at "s")
      exact h
    · rw [if_neg (by rw [show opr 0 a b = a ++ b from rfl, g]; exact Bool.false_ne_true)] at h
      (simp only [b__law_done_1]; walk_at "s")
      exact h
  · (simp only [b__law_done]; walk_at "s")
    refine p_s_minus (ha.app hb.ng).sz (ha.app hb.ng).len (by omega) (mm _ _ (by omega) (by omega)) (fun g => ?_) (fun g => ?_)
    · rw [if_pos (show gok (rs (opr 1 a b)) = true from g)] at h
      (simp only [b__law_done_1]; walk_at "s")
      exact h
    · rw [if_neg (by rw [show opr 1 a b = a ++ ng b from rfl, g]; exact Bool.false_ne_true)] at h
      (simp only [b__law_done_1]; walk_at "s")
      exact h
  · (simp only [b__law_done]; walk_at "s")
    refine p_s_times ha hb (by omega) K2 (by omega) (mm _ _ (by omega) (by omega)) (fun g => ?_) (fun g => ?_)
    · rw [if_pos (show gok (rs (opr 2 a b)) = true from g)] at h
      (simp only [b__law_done_1]; walk_at "s")
      exact h
    · rw [if_neg (by rw [show opr 2 a b = tm a b from rfl, g]; exact Bool.false_ne_true)] at h
      (simp only [b__law_done_1]; walk_at "s")
      exact h
theorem p_cellz {xs : List Int} {i : Int} (h0 : 0 ≤ i) (h : ∀ z, Q (.d (.int z))) : sem fns (k + 1) 15 [.list (xs.map .int), .int i] X Q := by
  obtain ⟨n, rfl⟩ : ∃ n : Nat, i = n := ⟨i.toNat, by omega⟩
  exact p_cell (h _)
theorem p_lone {ns : List Int} {at' : Nat} {rl : List Nat} (hr : ∀ r ∈ rl, 0 < r ∧ r ≤ 400) (r0 : 0 < rl.length) (r1 : rl.length ≤ 10) (h : ∀ a, Kd 313 3 400 a → Rs a → Q (.d (.tuple (a.map pd)))) : sem fns (k + 6) 16 [.list (ns.map .int), .int at', .list (rl.map fun n : Nat => .int n)] X Q := by
  refine sem_at rfl ⟨rfl, ?_⟩
  have e12 : (10 : Int) ^ Int.toNat 12 = 1000000000000 := by decide +kernel
  have e6 : (10 : Int) ^ Int.toNat 6 = 1000000 := by decide +kernel
  (simp only [b__law_one]; walk_at "s")
  refine p_cellz (by omega) fun z => ?_
  walk_at "s"
  have zb := md_lt (a := z) (b := 4) (by decide)
  refine ⟨⟨by omega, by omega⟩, ?_⟩
  refine for_at' (fun q ε => ∃ (js : List Nat) (ts : List (Nat × Rat)) (o5 o6 o7 o8 : Option Val), q = js.map (fun i : Nat => PyData.int i) ∧ js.length + ts.length ≤ 3 ∧ (∀ j ∈ js, j ≤ 3) ∧ (∀ t ∈ ts, 0 < t.1 ∧ t.1 ≤ 400 ∧ Sz 42 t.2) ∧
    ε = [some (.d (.list (ns.map .int))), some (.d (.int at')), some (.d (.list (rl.map fun n : Nat => .int n))), some (.d (.int z)), some (.own (ts.map tn)), o5, o6, o7, o8]) ?_ ?_ _ _
    ⟨List.range (z.fmod 4).toNat, [], none, none, none, none, rfl, by simp; omega, (fun j hj => by have := List.mem_range.mp hj; omega), (fun t ht => by cases ht), rfl⟩
  · rintro x q ε ⟨js, ts, o5, o6, o7, o8, hq, l1, hj, ht, rfl⟩ hnx
    cases js with
    | nil => cases hq
    | cons j js =>
      cases hq
      have j3 := hj j (List.mem_cons_self ..)
      (simp only [b__law_one_1]; walk_at "s")
      refine p_cellz (by omega) fun w => ?_
      walk_at "s"
      have wb := md_lt (a := w) (b := 3) (by decide)
      rw [e12]
      refine ix_in wb.1 (by simpa using wb.2) fun v hv => ?_
      obtain ⟨sz, rfl, s0, s1⟩ : ∃ sz : Int, v = .int sz ∧ 0 < sz ∧ sz ≤ 1000000000000 := by
        simp only [List.mem_cons, List.not_mem_nil, or_false] at hv
        rcases hv with rfl | rfl | rfl
        · exact ⟨_, rfl, by decide, by decide⟩
        · exact ⟨_, rfl, by decide, by decide⟩
        · exact ⟨_, rfl, by decide, by decide⟩
      walk_at "s"
      have m1 := md_lt (a := w.fdiv 3) (b := 2 * sz + 1) (by omega)
      rw [e6]
      refine ⟨mulOk_l (by unfold small64; decide), by omega, ?_⟩
      refine ix_in wb.1 (by simpa using wb.2) fun u hu => ?_
      obtain ⟨bo, rfl, b0, b1⟩ : ∃ bo : Int, u = .int bo ∧ 0 < bo ∧ bo ≤ 1000000 := by
        simp only [List.mem_cons, List.not_mem_nil, or_false] at hu
        rcases hu with rfl | rfl | rfl
        · exact ⟨_, rfl, by decide, by decide⟩
        · exact ⟨_, rfl, by decide, by decide⟩
        · exact ⟨_, rfl, by decide, by decide⟩
      walk_at "s"
      have m2 := md_lt (a := w.fdiv 11) (b := bo) b0
      refine ⟨by omega, ?_⟩
      refine p_fraction (by omega) ?_
      walk_at "s"
      have hs : Sz 42 (Rat.divInt ((w.fdiv 3).fmod (2 * sz + 1) - sz) (1 + (w.fdiv 11).fmod bo)) := sz_divInt (by omega) (by unfold Bt; omega) (by unfold Bt; omega)
      have m5 := md_lt (a := (z.fdiv 4).fdiv (1 + 3 * (j : Int))) (b := ((rl.map fun n : Nat => PyData.int n).length : Int)) (by rw [List.length_map]; omega)
      refine ⟨mulOk_l (by unfold small64; decide), by omega, by rw [List.length_map]; omega, ?_⟩
      refine ix_in m5.1 m5.2 fun v hv => ?_
      obtain ⟨d, hd, rfl⟩ := List.mem_map.mp hv
      obtain ⟨d0, d1⟩ := hr d hd
      walk_at "s"
      refine ⟨by rw [List.length_map]; simp at l1; omega, hnx _ ⟨js, ts ++ [(d, _)], _, _, _, _, rfl, by simp at l1 ⊢; omega, fun i hi => hj i (List.mem_cons_of_mem _ hi), fun t h2 => ?_, by rw [List.map_append]; rfl⟩⟩
      rcases List.mem_append.mp h2 with h2 | h2
      · exact ht t h2
      · rw [List.mem_singleton.mp h2]
        exact ⟨d0, d1, hs⟩
  · rintro ε ⟨js, ts, o5, o6, o7, o8, hq, l1, hj, ht, rfl⟩
    (simp only [b__law_one_2]; walk_at "s")
    have kd : Kd 103 3 400 (outs ts) := ⟨fun p hp => ?_, fun p hp => ?_, fun p hp => ?_, by unfold outs; rw [List.length_map]; omega⟩
    · have rl := rs_len (outs ts)
      have ol : (outs ts).length = ts.length := List.length_map ..
      refine p_root_sum (ts := ts) (s := 42) (n := 3) rfl (fun t h2 => ⟨(ht t h2).1, by have := (ht t h2).2.1; omega⟩) (fun t h2 => (ht t h2).2.2) (by omega) (by decide) (by decide) (fun g => ?_) (fun g => ?_)
      · exact h _ kd.rs (rs_ok _)
      · exfalso
        rw [gok_three kd.rs.top (by decide), decide_eq_false_iff_not] at g
        exact g (Nat.le_trans (List.length_filter_le _ _) (by omega))
    · obtain ⟨t, h2, rfl⟩ := List.mem_map.mp hp
      obtain ⟨o, r, so, o0, r0⟩ := so_ex t.1 (ht t h2).1
      rw [sqd_of (ht t h2).1 so]
      exact ⟨by show 0 < ((r : Nat) : Int); omega, by show Sf ((r : Nat) : Int).toNat; rw [Int.toNat_natCast]; exact so.2⟩
    · obtain ⟨t, h2, rfl⟩ := List.mem_map.mp hp
      have := (sqd_le (ht t h2).1).2
      have := (ht t h2).2.1
      show (((sqd t.1).2 : Nat) : Int) ≤ 400
      omega
    · obtain ⟨t, h2, rfl⟩ := List.mem_map.mp hp
      exact outs_sz ⟨(ht t h2).1, by have := (ht t h2).2.1; omega⟩ (ht t h2).2.2
theorem dn_y {f : List Pr} (g : gok f = true) : dn f = .tuple (f.map pd) := if_pos g
theorem dn_n {f : List Pr} (g : gok f = false) : dn f = .none := if_neg (by rw [g]; exact Bool.false_ne_true)
theorem nn_ne {Q : Bool → Prop} (h : Q false) : cmpW .NotEq .none .none Q := ⟨rfl, rfl, h⟩
theorem nn_e {Q : Bool → Prop} (h : Q true) : cmpW .Eq .none .none Q := ⟨rfl, rfl, h⟩
theorem p_lright {a b : List Pr} (ha : Kd 313 3 400 a) (hb : Kd 313 3 400 b) (h : Q (.d (.bool true))) : sem fns (k + 7) 21 [.tuple (a.map pd), .tuple (b.map pd)] X Q := by
  refine sem_at rfl ⟨rfl, ?_⟩
  (simp only [b__law_right]; walk_at "s")
  refine ⟨⟨by decide, by decide⟩, ?_⟩
  refine for_at' (fun q ε => ∃ (is : List Nat) (o2 o3 : Option Val), q = is.map (fun i : Nat => PyData.int i) ∧ (∀ i ∈ is, (i : Int) = 0 ∨ (i : Int) = 1 ∨ (i : Int) = 2) ∧ ε = [some (.d (.tuple (a.map pd))), some (.d (.tuple (b.map pd))), o2, o3]) ?_ ?_ _ _ ⟨List.range 3, none, none, rfl, (fun i hi => by have := List.mem_range.mp hi; omega), rfl⟩
  · rintro x q ε ⟨is, o2, o3, hq, hi, rfl⟩ hnx
    cases is with
    | nil => cases hq
    | cons i is =>
      cases hq
      have i3 := hi i (List.mem_cons_self ..)
      have hi2 : ∀ j ∈ is, (j : Int) = 0 ∨ (j : Int) = 1 ∨ (j : Int) = 2 := fun j hj => hi j (List.mem_cons_of_mem _ hj)
      have kd := (opr_kd (i := i) ha hb (by decide) (by decide)).rs
      (simp only [b__law_right_1]; walk_at "s")
      refine p_ldone i3 ha hb (by decide) (by decide) (by decide) (by decide) ?_
      walk_at "s"
      refine p_ldue i3 ha hb (by decide) (by decide) (by decide) (by decide) ?_
      rw [dl_dn ha hb (by decide) (by decide)]
      cases g : gok (rs (opr i a b)) with
      | false =>
        rw [dn_n g]
        walk_at "s"
        refine nn_ne ?_
        walk_at "s"
        exact hnx _ ⟨is, _, _, rfl, hi2, rfl⟩
      | true =>
        rw [dn_y g]
        walk_at "s"
        refine ⟨shPdT _, shPdT _, ?_⟩
        rw [eqvPdT, decide_eq_true rfl]
        walk_at "s"
        refine p_is_root_sum (fun xs e => by cases e; rw [List.length_map]; exact Nat.le_trans kd.len (by decide)) ?_
        rw [isRsB_pd (rs_ok _) g kd.key]
        walk_at "s"
        exact hnx _ ⟨is, _, _, rfl, hi2, rfl⟩
  · rintro ε ⟨is, o2, o3, hq, hi, rfl⟩
    (simp only [b__law_right_2]; walk_at "s")
    refine p_s_minus (ha.app ha.ng).sz (ha.app ha.ng).len (by decide) (by decide) (fun g => ?_) (fun g => ?_)
    · rw [sm_self]
      simp only [List.map_nil, ↓wE.eq_1, ↓wE.eq_2, ↓wE.eq_3, ↓wE.eq_4, ↓wE.eq_5, ↓wE.eq_6, ↓wE.eq_7, ↓wE.eq_8, ↓wE.eq_9, ↓wE.eq_10, ↓wE.eq_11, ↓wE.eq_12, ↓wE.eq_13, ↓wE.eq_14, ↓wE.eq_15, ↓wE.eq_16, ↓wE.eq_18, ↓wE.eq_19, ↓wE.eq_22, ↓wE.eq_23, ↓wE.eq_24, ↓wE.eq_25, ↓wE.eq_26, ↓wE.eq_27, ↓wE.eq_28, ↓wE.eq_29, ↓wE.eq_30, ↓wE.eq_31, ↓wE.eq_32, ↓wE.eq_34, ↓wE.eq_35, ↓wE.eq_36, ↓wE.eq_37, ↓wE.eq_38, ↓wE.eq_39, ↓wE.eq_40, ↓wE.eq_41, ↓wE_call, ↓wE_callP, ↓wE_lc, ↓wE_lcg, ↓wE_isv, ↓wE_ix, ↓ix_fr0, ↓ix_fr1, ↓cmp_fr, ↓cmp_frn, ↓cmp_fr0, ↓cmp_tz, ↓cmp_tzn, ↓cmp_tz0, ↓cmp_tzn0, ↓bi_list_tz, ↓add_tz,   ↓len_tz, ↓len_fr, ↓isT_fr, items_tz, ↓cmp_bb, ↓cmp_bbn, ↓wS_whl, ↓wS_for, ↓wS_forP, ↓wS_asg, ↓wS_par, ↓wS_setIx, ↓wS_app, ↓tgW_one, ↓tgW_tup, pvF_eq, ↓wS.eq_1, ↓wS.eq_2, ↓wS.eq_3, ↓wS.eq_5, ↓wS.eq_7, ↓wS.eq_10, ↓wS.eq_11, ↓wS.eq_12, ↓wS.eq_13, ↓wS.eq_14, ↓wS.eq_15, ↓wS.eq_16, ↓wS.eq_17, ↓wS.eq_20, ↓wS.eq_21, ↓wS.eq_22, ↓wS.eq_23, ↓wS.eq_24, ↓wS.eq_25, ↓wS.eq_26, ↓wS.eq_27, ↓wS.eq_28, ↓wS.eq_29, ↓wS.eq_30, ↓augW.eq_1, ↓augW.eq_2, ↓augW.eq_3, ↓augW.eq_4, ↓inW.eq_1, ↓inW.eq_2, ↓inW.eq_3, ↓inW.eq_4, ↓zipW.eq_1, ↓zipW.eq_2, ↓cntW.eq_1, ↓dspW.eq_1, ↓idxW.eq_1, ↓opW.eq_1, ↓opW.eq_2, ↓opW.eq_3, ↓opW.eq_4, ↓opW.eq_5, ↓opW.eq_6, ↓opW.eq_7, ↓opW.eq_8, ↓opW.eq_9, ↓opW.eq_10, ↓opW.eq_11, ↓opW.eq_12, ↓opW.eq_13, ↓opW.eq_14, ↓cmpW.eq_1, ↓cmpW.eq_2, ↓cmpW.eq_5, ↓cmpW.eq_6, ↓cmpW.eq_7, ↓cmpW.eq_8, ↓cmpW.eq_9, ↓cmpW.eq_10, ↓cmpW.eq_11, ↓cmpW.eq_12, ↓cmp_ll, ↓cmp_lln, ↓cmp_tt, ↓cmp_ttn, ↓biW.eq_1, ↓biW.eq_2, ↓biW.eq_3, ↓biW.eq_4, ↓biW.eq_5, ↓biW.eq_6, ↓biW.eq_7, ↓biW.eq_8, ↓biW.eq_9, ↓biW.eq_10, ↓biW.eq_11, ↓biW.eq_12, ↓biW.eq_13, ↓biW.eq_14, ↓biW.eq_15, ↓biW.eq_16, ↓biW.eq_17, ↓lenW.eq_1, ↓lenW.eq_2, ↓slW.eq_1, ↓slW.eq_2, ↓revW.eq_1, ↓revW.eq_2, ↓pkW_var, ↓ptW_nil, ↓ptK_i, ↓pkW_cst, ↓pkW_tup, ↓pkW_lst, ↓pkW_bin, ↓pkW_neg, ↓pkW_ix, ↓pkW_sl, ↓pkW_rev, ↓pkW_call, ↓pkW_callP, ↓pkW_bi, ↓pkW_len, ↓pkW_lc, ↓pkW_ite, ↓pkW_gc, ↓pkW_mov, ↓pkW_dsp, ↓pkW_bone, ↓pkW_cmp, ↓pkW_cnt, ↓ptW_cst, ↓ptW_tup, ↓ptW_lst, ↓ptW_bin, ↓ptW_neg, ↓ptW_ix, ↓ptW_sl, ↓ptW_rev, ↓ptW_call, ↓ptW_callP, ↓ptW_bi, ↓ptW_len, ↓ptW_lc, ↓ptW_ite, ↓ptW_gc, ↓ptW_mov, ↓ptW_dsp, ↓ptW_bone, ↓ptW_cmp, ↓ptW_cnt, ↓ptW_var, ↓peek, ↓ownAt, ↓kD.eq_1, ↓kD.eq_2, ↓kM.eq_1, ↓kB.eq_1, ↓kV.eq_1, ↓kV.eq_2, ↓setW, ↓rngW1.eq_1, ↓rngW2.eq_1, ↓rngWd.eq_1, isVar, isNil, isT, gv, pv, setAll, ev0, items.eq_1, items.eq_2, tgs, wipeE, blind_cons, blind_nil, bl1, runB, List.map_cons, List.map_nil, List.replicate, List.cons_append, List.nil_append, if_true, if_false, ite_true, ite_false, reduceCtorEq, Bool.true_and, Bool.and_true, Bool.not_true, Bool.not_false, Bool.false_eq_true, ↓reduceIte, Nat.reduceSub, Nat.reduceAdd, List.length_cons, List.length_nil, decide_eq_true_eq, Bool.not_eq_true', decide_eq_false_iff_not, Bool.and_false, Bool.false_and, true_and, and_true, Nat.sub_self, Nat.succ_eq_add_one, flat, Nat.reduceLeDiff, Int.reduceLE, Int.reduceLT, Int.reduceEq, ne_eq, not_false_eq_true, s10, la_2, la_3, la_4, la_5, la_6, la_7, la_8, la_9, la_10, la_11, la_12, la_13, la_14, la_15, la_16, la_18, la_19, la_20, la_21, la_24, la_25, la_28, la_30, la_35, la_36, la_39, la_40, la_41, la_44, la_45, la_49, la_50, la_52, la_54, la_57, la_63, la_64, la_65, la_72, la_78, la_81, la_90, la_100, la_121, la_123, la_125, la_126, la_144, la_162, la_168, la_176, la_196, la_200, la_216, la_240, la_360, la_369, la_400, la_402, la_441, la_540, la_550, la_900, la_907, la_997, la_1009, la_1100, la_1152, la_1440, la_1764, la_2001, la_2003, la_2200, la_3150, la_4099, la_16807, la_22500, la_24200, la_72600, Nat.reduceLT, ↓ix_t0, ↓ix_t1, ↓ix_t2, ↓ix_t3, ↓ix_t4, ↓ix_t5, ↓ix_t6, ↓ix_l0, ↓ix_l1, ↓ix_l2, ↓ix_l3, ↓ix_l4, ↓ix_l5, ↓ix_l6, ↓add_ttz, ↓isT_tz, ↓sl_tz, isN_non, isN_tup, isN_lst, isN_int, isN_str, isN_bl, isN_fr, isN_tz, ↓hS.eq_1, ↓hS.eq_2, ↓hS.eq_3, ↓hS.eq_4, hE, hB, ↓hide.eq_1, ↓hide.eq_2, isS, Nat.reduceBEq, Bool.or_true, Bool.or_false, Bool.true_or, Bool.false_or, beq_self_eq_true, not_true_eq_false, Int.cast_ofNat_Int, ↓wE_callL, ↓wE_callLP, ↓kR_d, ↓kR_o, ↓kT_twoO, ↓kTP_two, ↓kTP_twoO, ↓pkW_callLP, ↓wE_lemp, ↓wE_lix, ↓wE_lpop0, ↓wE_lcL, ↓wE_lcK, ↓pkW_lcK, ↓kT_two, ↓lentAt, unlend_nil, unlend_cons, ul1_n, ul1_d, ul1_o, ul1_l, ↓wS_lend, ↓wS_lfn, ↓wS_retL, ↓wS_lset, ↓wS_asgN, ↓tgW_nst, noTwo_d, noTwo_o, ↓pkW_callL, ↓pkW_lix, ↓pkW_lemp, ↓pkW_lpop0, ↓pkW_lcL, ↓ptW_callL, ↓ptW_lix, ↓wE_lit, ↓pkW_lit, ↓ptW_lit, ↓cmp_geT, ↓wE_dget, ↓wE_dix, ↓wE_dsrt, ↓wE_dlc, ↓wE_lcD, ↓wE_srt, ↓wS_dnewT, ↓wS_dnewI, ↓wS_dset, ↓dictAt, itemsD_I, itemsD_T, ↓pkW_dget, ↓ptW_dget, ↓pkW_dix, ↓ptW_dix, ↓pkW_dsrt, ↓ptW_dsrt, ↓pkW_dlc, ↓ptW_dlc, ↓pkW_lcD, ↓ptW_lcD, ↓pkW_srt, ↓ptW_srt]
      refine ⟨rfl, rfl, ?_⟩
      rw [show (PyData.tuple []).eqv (PyData.tuple []) = true from rfl]
      walk_at "s"
      refine p_ldone (.inl rfl) ha hb (by decide) (by decide) (by decide) (by decide) ?_
      walk_at "s"
      refine p_ldone (.inl rfl) hb ha (by decide) (by decide) (by decide) (by decide) ?_
      have e : rs (opr 0 b a) = rs (opr 0 a b) := sp_comm b a
      rw [e]
      cases g : gok (rs (opr 0 a b)) with
      | false =>
        rw [dn_n g]
        simp only [↓kD.eq_1]
        refine nn_e ?_
        exact h
      | true =>
        rw [dn_y g]
        walk_at "s"
        refine ⟨shPdT _, shPdT _, ?_⟩
        rw [eqvPdT, decide_eq_true rfl]
        exact h
    · rw [sm_self] at g
      cases g
theorem p_ldone0 {a b : List Pr} {s n m : Nat} {K : Int} (ha : Kd s n K a) (hb : Kd s m K b) (n4 : n + m < 64) (bd : (s + 1) * (n + m + 1) + 1 ≤ 50000000)
    (h : Q (.d (dn (rs (a ++ b))))) : sem fns (k + 6) 20 [.int 0, .tuple (a.map pd), .tuple (b.map pd)] X Q := by
  refine sem_at rfl ⟨rfl, ?_⟩
  unfold dn at h
  (simp only [b__law_done]; walk_at "s")
  refine p_s_plus (ha.app hb).sz (ha.app hb).len n4 bd (fun g => ?_) (fun g => ?_)
  · rw [if_pos g] at h
    (simp only [b__law_done_1]; walk_at "s")
    exact h
  · rw [if_neg (by rw [g]; exact Bool.false_ne_true)] at h
    (simp only [b__law_done_1]; walk_at "s")
    exact h
theorem shDn {n : Nat} (f : List Pr) : Sh (n + 3) (dn f) := by
  unfold dn
  split
  · exact shTup (n := n + 2) fun x hx => by
      obtain ⟨p, _, rfl⟩ := List.mem_map.mp hx
      exact shPd n p
  · exact ⟨rfl, Nat.zero_le _⟩
theorem shDn2 (f g : List Pr) : SeqAt.shaped (.list [dn f, dn g]) = true := shaped_of (shLst (n := 3) fun x hx => by
  simp only [List.mem_cons, List.not_mem_nil, or_false] at hx
  rcases hx with rfl | rfl <;> exact shDn (n := 0) _) (by decide)
theorem dn_in (f g : List Pr) : ([dn f, dn g].any fun z => PyData.eqv z .none) = (!gok f || !gok g) := by
  unfold dn
  cases gok f <;> cases gok g <;> rfl
theorem p_llaws {a b c : List Pr} (ha : Kd 313 3 400 a) (hb : Kd 313 3 400 b) (hc : Kd 313 3 400 c) (ra : Rs a) (h : Q (.d (.bool true))) : sem fns (k + 7) 22 [.tuple (a.map pd), .tuple (b.map pd), .tuple (c.map pd)] X Q := by
  refine sem_at rfl ⟨rfl, ?_⟩
  have hab : Kd 1885 6 400 (rs (a ++ b)) := (ha.app hb).rs
  have hac : Kd 6013 9 160000 (rs (tm a c)) := (ha.tm hc (by decide) (by decide)).rs
  have hbc : Kd 6013 9 160000 (rs (tm b c)) := (hb.tm hc (by decide) (by decide)).rs
  (simp only [b__law_laws]; walk_at "s")
  refine p_ldone0 ha hb (by decide) (by decide) ?_
  cases g : gok (rs (a ++ b)) with
  | false =>
    rw [dn_n g]
    walk_at "s"
    exact h
  | true =>
    rw [dn_y g]
    walk_at "s"
    refine p_ldone (.inr (.inr rfl)) hab (hc.mono (by decide) (Nat.le_refl _) (Int.le_refl _)) (by decide) (by decide) (by decide) (by decide) ?_
    walk_at "s"
    refine p_ldone (.inr (.inr rfl)) ha hc (by decide) (by decide) (by decide) (by decide) ?_
    walk_at "s"
    refine p_ldone (.inr (.inr rfl)) hb hc (by decide) (by decide) (by decide) (by decide) ?_
    have e1 : rs (opr 2 (rs (a ++ b)) c) = rs (rs (tm a c) ++ rs (tm b c)) := (st_add a b c).symm
    have e2 : rs (opr 2 a c) = rs (tm a c) := rfl
    have e3 : rs (opr 2 b c) = rs (tm b c) := rfl
    rw [e1, e2, e3]
    walk_at "s"
    have fin : ∀ (o4 o5 : Option Val), wS (sem fns (k + 6)) ((IS.asg 6 (IE.call 20 ((IE.cst (PyData.int 1)).cons ((IE.var 3).cons ((IE.var 1).cons IE.nil))))).seq ((IS.ret ((IE.cmp CmpOp.Is (IE.var 6) (IE.cst PyData.none)).bor (IE.cmp CmpOp.Eq (IE.var 6) (IE.var 0)).bone)).seq IS.nil))
        [some (.d (.tuple (a.map pd))), some (.d (.tuple (b.map pd))), some (.d (.tuple (c.map pd))), some (.d (.tuple ((rs (a ++ b)).map pd))), o4, o5, none]
        { nx := fun _ => Q (Val.d PyData.none), rt := Q, ex := fun c _ => X c } := by
      intro o4 o5
      walk_at "s"
      refine p_ldone (.inr (.inl rfl)) hab (hb.mono (by decide) (Nat.le_refl _) (Int.le_refl _)) (by decide) (by decide) (by decide) (by decide) ?_
      have e4 : rs (opr 1 (rs (a ++ b)) b) = a := sm_back ra b
      rw [e4]
      cases g2 : gok a with
      | false =>
        rw [dn_n g2]
        walk_at "s"
        exact h
      | true =>
        rw [dn_y g2]
        walk_at "s"
        refine ⟨shPdT _, shPdT _, ?_⟩
        rw [eqvPdT, decide_eq_true rfl]
        exact h
    refine ⟨rfl, shDn2 _ _, ?_⟩
    rw [dn_in]
    cases g2 : gok (rs (tm a c)) with
    | false =>
      walk_at "s"
      exact fin _ _
    | true =>
      cases g3 : gok (rs (tm b c)) with
      | false =>
        walk_at "s"
        exact fin _ _
      | true =>
        cases g4 : gok (rs (rs (tm a c) ++ rs (tm b c))) with
        | false =>
          rw [dn_n g4, show isNone PyData.none = true from rfl]
          walk_at "s"
          exact fin _ _
        | true =>
          rw [dn_y g2, dn_y g3, dn_y g4, show isNone (PyData.tuple ((rs (rs (tm a c) ++ rs (tm b c))).map pd)) = false from rfl]
          walk_at "s"
          refine p_ldone0 hac hbc (by decide) (by decide) ?_
          rw [dn_y g4]
          walk_at "s"
          refine ⟨shPdT _, shPdT _, ?_⟩
          rw [eqvPdT, decide_eq_true rfl]
          walk_at "s"
          exact fin _ _

theorem p_rs1 {d : Nat} {w : Rat} {v : D} (hv : items v = some [.tuple [.int (d : Nat), fr w]]) (d0 : 0 < d) (d1 : d ≤ 10000) (hs : Sf d) (w0 : w ≠ 0) (hw : Sz 100 w) (h : Q (.d (.tuple [pd ((d : Int), w)]))) : sem fns (k + 5) 11 [v] X Q := by
  have ro : Rs [((d : Int), w)] := ⟨List.pairwise_singleton _ _, fun p hp => by rw [List.mem_singleton.mp hp]; exact w0⟩
  have eo : outs [(d, w)] = [((d : Int), w)] := by
    show [(((sqd d).2 : Int), w * (((sqd d).1 : Int) : Rat))] = _
    rw [sqd_sf d0 hs]
    show [((d : Int), w * ((1 : Int) : Rat))] = _
    rw [show w * ((1 : Int) : Rat) = w from by rw [Rat.intCast_one, Rat.mul_one]]
  have er : rs (outs [(d, w)]) = [((d : Int), w)] := by rw [eo]; exact ro.rs
  refine p_root_sum (ts := [(d, w)]) (s := 100) (n := 1) hv (fun t ht => by rw [List.mem_singleton.mp ht]; exact ⟨d0, by show d < _; omega⟩) (fun t ht => by rw [List.mem_singleton.mp ht]; exact hw) (Nat.le_refl _) (by decide) (by decide) (fun g => ?_) (fun g => ?_)
  · rw [er]; exact h
  · exfalso
    rw [er, gok_three (K := 10000) (fun p hp => by rw [List.mem_singleton.mp hp]; show (d : Int) ≤ 10000; omega) (by decide), decide_eq_false_iff_not] at g
    exact g (Nat.le_trans (List.length_filter_le _ _) (show 1 ≤ 3 by decide))
theorem sf_great : ∀ d : Nat, d = 9973 ∨ d = 9967 ∨ d = 9949 ∨ d = 9941 ∨ d = 9931 ∨ d = 9929 ∨ d = 9923 ∨ d = 9907 ∨ d = 9901 ∨ d = 9887 → Sf d := by
  intro d h
  rcases h with rfl | rfl | rfl | rfl | rfl | rfl | rfl | rfl | rfl | rfl <;> exact sf_of 100 (by decide) (by decide +kernel) (by decide)
/-- one pair by one pair, of coprime keys -/
theorem tm_one {x y : Nat} {u w : Rat} (c : Nat.gcd x y = 1) (hu : u ≠ 0) (hw : w ≠ 0) : rs (tm [((x : Int), u)] [((y : Int), w)]) = [(((x * y : Nat) : Int), u * w)] := by
  have e : tm [((x : Int), u)] [((y : Int), w)] = [(((x * y : Nat) : Int), u * w)] := by
    show [(pk x y, u * w * ((gg x y : Int) : Rat))] = _
    have eg : gg (x : Int) (y : Int) = 1 := by
      unfold gg
      rw [show Int.gcd (x : Int) (y : Int) = Nat.gcd x y from rfl, c]; rfl
    unfold pk
    rw [eg, Int.fdiv_one, Int.fdiv_one, Rat.intCast_one, Rat.mul_one]
    push_cast; rfl
  rw [e]
  exact Rs.rs ⟨List.pairwise_singleton _ _, fun p hp => by rw [List.mem_singleton.mp hp]; intro z; rcases Rat.mul_eq_zero.mp z with z | z; exact hu z; exact hw z⟩
def gr1 : List Nat := [9973, 9967, 9949]
def gr2 : List Nat := [9941, 9931, 9929]
def gr3 : List Nat := [9923, 9907, 9901]
theorem gr_all : (gr1.all fun a => gr2.all fun b => gr3.all fun c => decide (Nat.gcd a b = 1 ∧ Nat.gcd (a * b) c = 1 ∧ Nat.gcd (a * b * c) 9887 = 1 ∧ 100000000000 < a * b * c ∧ a * b * c < 1000000000000 ∧ 1000000000000 < a * b * c * 9887 ∧ a * b ≤ 1000000000000)) = true := by decide +kernel
theorem kd_one {d : Nat} {w : Rat} {s : Nat} (d0 : 0 < d) (d1 : d ≤ 1000000000000) (hs : Sf d) (hw : Sz s w) : Kd s 1 1000000000000 [((d : Int), w)] where
  key := fun p hp => by rw [List.mem_singleton.mp hp]; exact ⟨by show (0 : Int) < d; omega, by show Sf (d : Int).toNat; rw [Int.toNat_natCast]; exact hs⟩
  top := fun p hp => by rw [List.mem_singleton.mp hp]; show (d : Int) ≤ _; omega
  sz := fun p hp => by rw [List.mem_singleton.mp hp]; exact hw
  len := Nat.le_refl _
theorem gok_one {d : Nat} {w : Rat} : gok [((d : Int), w)] = decide (d ≤ 1000000000000) := by
  unfold gok
  have e : decide (([((d : Int), w)].filter fun p => decide (1 < p.1)).length ≤ 3) = true := decide_eq_true (Nat.le_trans (List.length_filter_le _ _) (show 1 ≤ 3 by decide))
  rw [e]
  show (true && (decide ((d : Int) ≤ 1000000000000) && true)) = _
  rw [Bool.true_and, Bool.and_true]
  by_cases z : d ≤ 1000000000000
  · rw [decide_eq_true z, decide_eq_true (by omega)]
  · rw [decide_eq_false z, decide_eq_false (by omega)]
theorem p_lgreat {c : Int} (h : Q (.d (.bool true))) : sem fns (k + 7) 23 [.int c] X Q := by
  refine sem_at rfl ⟨rfl, ?_⟩
  have e11 : (10 : Int) ^ Int.toNat 11 = 100000000000 := by decide +kernel
  have e12 : (10 : Int) ^ Int.toNat 12 = 1000000000000 := by decide +kernel
  have m1 := md_lt (a := c) (b := 3) (by decide)
  have m2 := md_lt (a := c.fdiv 3) (b := 3) (by decide)
  have m3 := md_lt (a := c.fdiv 81) (b := 3) (by decide)
  have m4 := md_lt (a := c.fdiv 9) (b := 9) (by decide)
  have sz1 : Sz 100 (1 : Rat) := ⟨bt_c (by decide), bt_c (by decide)⟩
  (simp only [b__law_great]; walk_at "s")
  refine ix_in m1.1 (by simpa using m1.2) fun v hv => ?_
  obtain ⟨x, hx, rfl⟩ : ∃ x ∈ gr1, v = PyData.int (x : Nat) := by
    simp only [List.mem_cons, List.not_mem_nil, or_false] at hv
    rcases hv with rfl | rfl | rfl
    · exact ⟨9973, by decide, rfl⟩
    · exact ⟨9967, by decide, rfl⟩
    · exact ⟨9949, by decide, rfl⟩
  have hx1 : Sf x ∧ 0 < x ∧ x ≤ 10000 := by
    simp only [gr1, List.mem_cons, List.not_mem_nil, or_false] at hx
    refine ⟨sf_great x (by omega), by omega, by omega⟩
  walk_at "s"
  refine p_rs1 (d := x) (w := 1) rfl hx1.2.1 hx1.2.2 hx1.1 (by decide) sz1 ?_
  walk_at "s"
  refine ix_in m2.1 (by simpa using m2.2) fun v hv => ?_
  obtain ⟨y, hy, rfl⟩ : ∃ y ∈ gr2, v = PyData.int (y : Nat) := by
    simp only [List.mem_cons, List.not_mem_nil, or_false] at hv
    rcases hv with rfl | rfl | rfl
    · exact ⟨9941, by decide, rfl⟩
    · exact ⟨9931, by decide, rfl⟩
    · exact ⟨9929, by decide, rfl⟩
  have hy1 : Sf y ∧ 0 < y ∧ y ≤ 10000 := by
    simp only [gr2, List.mem_cons, List.not_mem_nil, or_false] at hy
    refine ⟨sf_great y (by omega), by omega, by omega⟩
  walk_at "s"
  obtain ⟨n, en, n0, n9⟩ : ∃ n : Nat, 1 + (c.fdiv 9).fmod 9 = (n : Nat) ∧ 0 < n ∧ n ≤ 9 := ⟨(1 + (c.fdiv 9).fmod 9).toNat, by omega, by omega, by omega⟩
  obtain ⟨w, wn, wd⟩ : ∃ w : Rat, w.num = 1 ∧ w.den = n := ⟨⟨1, n, by omega, by show Nat.gcd 1 n = 1; exact Nat.gcd_one_left n⟩, rfl, rfl⟩
  have w0 : w ≠ 0 := fun z => by rw [z] at wn; exact absurd wn (by decide)
  have szw : Sz 100 w := ⟨by rw [wn]; exact bt_c (by decide), by rw [wd]; unfold Bt; omega⟩
  have ew : PyData.tuple [.int 1, .int (1 + (c.fdiv 9).fmod 9)] = fr w := fr_c wn (by rw [wd, en])
  rw [ew]
  refine p_rs1 (d := y) (w := w) rfl hy1.2.1 hy1.2.2 hy1.1 w0 szw ?_
  walk_at "s"
  have hall : ∀ z ∈ gr3, Nat.gcd x y = 1 ∧ Nat.gcd (x * y) z = 1 ∧ Nat.gcd (x * y * z) 9887 = 1 ∧ 100000000000 < x * y * z ∧ x * y * z < 1000000000000 ∧ 1000000000000 < x * y * z * 9887 ∧ x * y ≤ 1000000000000 := fun z hz =>
    of_decide_eq_true (List.all_eq_true.mp (List.all_eq_true.mp (List.all_eq_true.mp gr_all x hx) y hy) z hz)
  have cxy := (hall 9923 (by decide)).1
  have bxy := (hall 9923 (by decide)).2.2.2.2.2.2
  have kx := kd_one (s := 100) hx1.2.1 (by omega) hx1.1 sz1
  have ky := kd_one (s := 100) hy1.2.1 (by omega) hy1.1 szw
  have one0 : (1 : Rat) ≠ 0 := by decide
  refine p_s_times (a := [((x : Int), 1)]) (b := [((y : Int), w)]) kx ky (by decide) (by decide) (by decide) (by decide) (fun g => ?_) (fun g => ?_)
  · rw [tm_one cxy one0 w0]
    simp only [List.map_cons, List.map_nil, ↓wE.eq_1, ↓wE.eq_2, ↓wE.eq_3, ↓wE.eq_4, ↓wE.eq_5, ↓wE.eq_6, ↓wE.eq_7, ↓wE.eq_8, ↓wE.eq_9, ↓wE.eq_10, ↓wE.eq_11, ↓wE.eq_12, ↓wE.eq_13, ↓wE.eq_14, ↓wE.eq_15, ↓wE.eq_16, ↓wE.eq_18, ↓wE.eq_19, ↓wE.eq_22, ↓wE.eq_23, ↓wE.eq_24, ↓wE.eq_25, ↓wE.eq_26, ↓wE.eq_27, ↓wE.eq_28, ↓wE.eq_29, ↓wE.eq_30, ↓wE.eq_31, ↓wE.eq_32, ↓wE.eq_34, ↓wE.eq_35, ↓wE.eq_36, ↓wE.eq_37, ↓wE.eq_38, ↓wE.eq_39, ↓wE.eq_40, ↓wE.eq_41, ↓wE_call, ↓wE_callP, ↓wE_lc, ↓wE_lcg, ↓wE_isv, ↓wE_ix, ↓ix_fr0, ↓ix_fr1, ↓cmp_fr, ↓cmp_frn, ↓cmp_fr0, ↓cmp_tz, ↓cmp_tzn, ↓cmp_tz0, ↓cmp_tzn0, ↓bi_list_tz, ↓add_tz,   ↓len_tz, ↓len_fr, ↓isT_fr, items_tz, ↓cmp_bb, ↓cmp_bbn, ↓wS_whl, ↓wS_for, ↓wS_forP, ↓wS_asg, ↓wS_par, ↓wS_setIx, ↓wS_app, ↓tgW_one, ↓tgW_tup, pvF_eq, ↓wS.eq_1, ↓wS.eq_2, ↓wS.eq_3, ↓wS.eq_5, ↓wS.eq_7, ↓wS.eq_10, ↓wS.eq_11, ↓wS.eq_12, ↓wS.eq_13, ↓wS.eq_14, ↓wS.eq_15, ↓wS.eq_16, ↓wS.eq_17, ↓wS.eq_20, ↓wS.eq_21, ↓wS.eq_22, ↓wS.eq_23, ↓wS.eq_24, ↓wS.eq_25, ↓wS.eq_26, ↓wS.eq_27, ↓wS.eq_28, ↓wS.eq_29, ↓wS.eq_30, ↓augW.eq_1, ↓augW.eq_2, ↓augW.eq_3, ↓augW.eq_4, ↓inW.eq_1, ↓inW.eq_2, ↓inW.eq_3, ↓inW.eq_4, ↓zipW.eq_1, ↓zipW.eq_2, ↓cntW.eq_1, ↓dspW.eq_1, ↓idxW.eq_1, ↓opW.eq_1, ↓opW.eq_2, ↓opW.eq_3, ↓opW.eq_4, ↓opW.eq_5, ↓opW.eq_6, ↓opW.eq_7, ↓opW.eq_8, ↓opW.eq_9, ↓opW.eq_10, ↓opW.eq_11, ↓opW.eq_12, ↓opW.eq_13, ↓opW.eq_14, ↓cmpW.eq_1, ↓cmpW.eq_2, ↓cmpW.eq_5, ↓cmpW.eq_6, ↓cmpW.eq_7, ↓cmpW.eq_8, ↓cmpW.eq_9, ↓cmpW.eq_10, ↓cmpW.eq_11, ↓cmpW.eq_12, ↓cmp_ll, ↓cmp_lln, ↓cmp_tt, ↓cmp_ttn, ↓biW.eq_1, ↓biW.eq_2, ↓biW.eq_3, ↓biW.eq_4, ↓biW.eq_5, ↓biW.eq_6, ↓biW.eq_7, ↓biW.eq_8, ↓biW.eq_9, ↓biW.eq_10, ↓biW.eq_11, ↓biW.eq_12, ↓biW.eq_13, ↓biW.eq_14, ↓biW.eq_15, ↓biW.eq_16, ↓biW.eq_17, ↓lenW.eq_1, ↓lenW.eq_2, ↓slW.eq_1, ↓slW.eq_2, ↓revW.eq_1, ↓revW.eq_2, ↓pkW_var, ↓ptW_nil, ↓ptK_i, ↓pkW_cst, ↓pkW_tup, ↓pkW_lst, ↓pkW_bin, ↓pkW_neg, ↓pkW_ix, ↓pkW_sl, ↓pkW_rev, ↓pkW_call, ↓pkW_callP, ↓pkW_bi, ↓pkW_len, ↓pkW_lc, ↓pkW_ite, ↓pkW_gc, ↓pkW_mov, ↓pkW_dsp, ↓pkW_bone, ↓pkW_cmp, ↓pkW_cnt, ↓ptW_cst, ↓ptW_tup, ↓ptW_lst, ↓ptW_bin, ↓ptW_neg, ↓ptW_ix, ↓ptW_sl, ↓ptW_rev, ↓ptW_call, ↓ptW_callP, ↓ptW_bi, ↓ptW_len, ↓ptW_lc, ↓ptW_ite, ↓ptW_gc, ↓ptW_mov, ↓ptW_dsp, ↓ptW_bone, ↓ptW_cmp, ↓ptW_cnt, ↓ptW_var, ↓peek, ↓ownAt, ↓kD.eq_1, ↓kD.eq_2, ↓kM.eq_1, ↓kB.eq_1, ↓kV.eq_1, ↓kV.eq_2, ↓setW, ↓rngW1.eq_1, ↓rngW2.eq_1, ↓rngWd.eq_1, isVar, isNil, isT, gv, pv, setAll, ev0, items.eq_1, items.eq_2, tgs, wipeE, blind_cons, blind_nil, bl1, runB, List.map_cons, List.map_nil, List.replicate, List.cons_append, List.nil_append, if_true, if_false, ite_true, ite_false, reduceCtorEq, Bool.true_and, Bool.and_true, Bool.not_true, Bool.not_false, Bool.false_eq_true, ↓reduceIte, Nat.reduceSub, Nat.reduceAdd, List.length_cons, List.length_nil, decide_eq_true_eq, Bool.not_eq_true', decide_eq_false_iff_not, Bool.and_false, Bool.false_and, true_and, and_true, Nat.sub_self, Nat.succ_eq_add_one, flat, Nat.reduceLeDiff, Int.reduceLE, Int.reduceLT, Int.reduceEq, ne_eq, not_false_eq_true, s10, la_2, la_3, la_4, la_5, la_6, la_7, la_8, la_9, la_10, la_11, la_12, la_13, la_14, la_15, la_16, la_18, la_19, la_20, la_21, la_24, la_25, la_28, la_30, la_35, la_36, la_39, la_40, la_41, la_44, la_45, la_49, la_50, la_52, la_54, la_57, la_63, la_64, la_65, la_72, la_78, la_81, la_90, la_100, la_121, la_123, la_125, la_126, la_144, la_162, la_168, la_176, la_196, la_200, la_216, la_240, la_360, la_369, la_400, la_402, la_441, la_540, la_550, la_900, la_907, la_997, la_1009, la_1100, la_1152, la_1440, la_1764, la_2001, la_2003, la_2200, la_3150, la_4099, la_16807, la_22500, la_24200, la_72600, Nat.reduceLT, ↓ix_t0, ↓ix_t1, ↓ix_t2, ↓ix_t3, ↓ix_t4, ↓ix_t5, ↓ix_t6, ↓ix_l0, ↓ix_l1, ↓ix_l2, ↓ix_l3, ↓ix_l4, ↓ix_l5, ↓ix_l6, ↓add_ttz, ↓isT_tz, ↓sl_tz, isN_non, isN_tup, isN_lst, isN_int, isN_str, isN_bl, isN_fr, isN_tz, ↓hS.eq_1, ↓hS.eq_2, ↓hS.eq_3, ↓hS.eq_4, hE, hB, ↓hide.eq_1, ↓hide.eq_2, isS, Nat.reduceBEq, Bool.or_true, Bool.or_false, Bool.true_or, Bool.false_or, beq_self_eq_true, not_true_eq_false, Int.cast_ofNat_Int, ↓wE_callL, ↓wE_callLP, ↓kR_d, ↓kR_o, ↓kT_twoO, ↓kTP_two, ↓kTP_twoO, ↓pkW_callLP, ↓wE_lemp, ↓wE_lix, ↓wE_lpop0, ↓wE_lcL, ↓wE_lcK, ↓pkW_lcK, ↓kT_two, ↓lentAt, unlend_nil, unlend_cons, ul1_n, ul1_d, ul1_o, ul1_l, ↓wS_lend, ↓wS_lfn, ↓wS_retL, ↓wS_lset, ↓wS_asgN, ↓tgW_nst, noTwo_d, noTwo_o, ↓pkW_callL, ↓pkW_lix, ↓pkW_lemp, ↓pkW_lpop0, ↓pkW_lcL, ↓ptW_callL, ↓ptW_lix, ↓wE_lit, ↓pkW_lit, ↓ptW_lit, ↓cmp_geT, ↓wE_dget, ↓wE_dix, ↓wE_dsrt, ↓wE_dlc, ↓wE_lcD, ↓wE_srt, ↓wS_dnewT, ↓wS_dnewI, ↓wS_dset, ↓dictAt, itemsD_I, itemsD_T, ↓pkW_dget, ↓ptW_dget, ↓pkW_dix, ↓ptW_dix, ↓pkW_dsrt, ↓ptW_dsrt, ↓pkW_dlc, ↓ptW_dlc, ↓pkW_lcD, ↓ptW_lcD, ↓pkW_srt, ↓ptW_srt]
    refine ix_in m3.1 (by simpa using m3.2) fun v hv => ?_
    obtain ⟨z, hz, rfl⟩ : ∃ z ∈ gr3, v = PyData.int (z : Nat) := by
      simp only [List.mem_cons, List.not_mem_nil, or_false] at hv
      rcases hv with rfl | rfl | rfl
      · exact ⟨9923, by decide, rfl⟩
      · exact ⟨9907, by decide, rfl⟩
      · exact ⟨9901, by decide, rfl⟩
    have hz1 : Sf z ∧ 0 < z ∧ z ≤ 10000 := by
      simp only [gr3, List.mem_cons, List.not_mem_nil, or_false] at hz
      refine ⟨sf_great z (by omega), by omega, by omega⟩
    obtain ⟨_, c2, c3, b1, b2, b3, _⟩ := hall z hz
    have t0 : Rat.divInt 2 3 ≠ 0 := by decide +kernel
    have szt : Sz 100 (Rat.divInt 2 3) := sz_divInt (by decide) (bt_c (by decide)) (bt_c (by decide))
    have sxy : Sf (x * y) := sf_mul cxy hx1.1 hy1.1
    have w1 : (1 : Rat) * w ≠ 0 := by rw [Rat.one_mul]; exact w0
    have szw1 : Sz 100 ((1 : Rat) * w) := by rw [Rat.one_mul]; exact szw
    walk_at "s"
    refine p_rs1 (d := z) (w := Rat.divInt 2 3) rfl hz1.2.1 hz1.2.2 hz1.1 t0 szt ?_
    walk_at "s"
    have kxy := kd_one (s := 100) (Nat.mul_pos hx1.2.1 hy1.2.1) bxy sxy szw1
    have kz := kd_one (s := 100) hz1.2.1 (by omega) hz1.1 szt
    refine p_s_times (a := [(((x * y : Nat) : Int), 1 * w)]) (b := [((z : Int), Rat.divInt 2 3)]) kxy kz (by decide) (by decide) (by decide) (by decide) (fun g => ?_) (fun g => ?_)
    · have t1 : (1 : Rat) * w * Rat.divInt 2 3 ≠ 0 := fun q => by rcases Rat.mul_eq_zero.mp q with q | q; exact w1 q; exact t0 q
      have k3 := kd_one (s := 300) (Nat.mul_pos (Nat.mul_pos hx1.2.1 hy1.2.1) hz1.2.1) (by omega) (sf_mul c2 sxy hz1.1) ((sz_mulA szw1 szt).mono (by decide))
      have k4 := kd_one (d := 9887) (w := 1) (s := 300) (by decide) (by decide) (sf_great 9887 (by decide)) (sz1.mono (by decide))
      rw [tm_one c2 w1 t0]
      simp only [List.map_cons, List.map_nil, ↓wE.eq_1, ↓wE.eq_2, ↓wE.eq_3, ↓wE.eq_4, ↓wE.eq_5, ↓wE.eq_6, ↓wE.eq_7, ↓wE.eq_8, ↓wE.eq_9, ↓wE.eq_10, ↓wE.eq_11, ↓wE.eq_12, ↓wE.eq_13, ↓wE.eq_14, ↓wE.eq_15, ↓wE.eq_16, ↓wE.eq_18, ↓wE.eq_19, ↓wE.eq_22, ↓wE.eq_23, ↓wE.eq_24, ↓wE.eq_25, ↓wE.eq_26, ↓wE.eq_27, ↓wE.eq_28, ↓wE.eq_29, ↓wE.eq_30, ↓wE.eq_31, ↓wE.eq_32, ↓wE.eq_34, ↓wE.eq_35, ↓wE.eq_36, ↓wE.eq_37, ↓wE.eq_38, ↓wE.eq_39, ↓wE.eq_40, ↓wE.eq_41, ↓wE_call, ↓wE_callP, ↓wE_lc, ↓wE_lcg, ↓wE_isv, ↓wE_ix, ↓ix_fr0, ↓ix_fr1, ↓cmp_fr, ↓cmp_frn, ↓cmp_fr0, ↓cmp_tz, ↓cmp_tzn, ↓cmp_tz0, ↓cmp_tzn0, ↓bi_list_tz, ↓add_tz,   ↓len_tz, ↓len_fr, ↓isT_fr, items_tz, ↓cmp_bb, ↓cmp_bbn, ↓wS_whl, ↓wS_for, ↓wS_forP, ↓wS_asg, ↓wS_par, ↓wS_setIx, ↓wS_app, ↓tgW_one, ↓tgW_tup, pvF_eq, ↓wS.eq_1, ↓wS.eq_2, ↓wS.eq_3, ↓wS.eq_5, ↓wS.eq_7, ↓wS.eq_10, ↓wS.eq_11, ↓wS.eq_12, ↓wS.eq_13, ↓wS.eq_14, ↓wS.eq_15, ↓wS.eq_16, ↓wS.eq_17, ↓wS.eq_20, ↓wS.eq_21, ↓wS.eq_22, ↓wS.eq_23, ↓wS.eq_24, ↓wS.eq_25, ↓wS.eq_26, ↓wS.eq_27, ↓wS.eq_28, ↓wS.eq_29, ↓wS.eq_30, ↓augW.eq_1, ↓augW.eq_2, ↓augW.eq_3, ↓augW.eq_4, ↓inW.eq_1, ↓inW.eq_2, ↓inW.eq_3, ↓inW.eq_4, ↓zipW.eq_1, ↓zipW.eq_2, ↓cntW.eq_1, ↓dspW.eq_1, ↓idxW.eq_1, ↓opW.eq_1, ↓opW.eq_2, ↓opW.eq_3, ↓opW.eq_4, ↓opW.eq_5, ↓opW.eq_6, ↓opW.eq_7, ↓opW.eq_8, ↓opW.eq_9, ↓opW.eq_10, ↓opW.eq_11, ↓opW.eq_12, ↓opW.eq_13, ↓opW.eq_14, ↓cmpW.eq_1, ↓cmpW.eq_2, ↓cmpW.eq_5, ↓cmpW.eq_6, ↓cmpW.eq_7, ↓cmpW.eq_8, ↓cmpW.eq_9, ↓cmpW.eq_10, ↓cmpW.eq_11, ↓cmpW.eq_12, ↓cmp_ll, ↓cmp_lln, ↓cmp_tt, ↓cmp_ttn, ↓biW.eq_1, ↓biW.eq_2, ↓biW.eq_3, ↓biW.eq_4, ↓biW.eq_5, ↓biW.eq_6, ↓biW.eq_7, ↓biW.eq_8, ↓biW.eq_9, ↓biW.eq_10, ↓biW.eq_11, ↓biW.eq_12, ↓biW.eq_13, ↓biW.eq_14, ↓biW.eq_15, ↓biW.eq_16, ↓biW.eq_17, ↓lenW.eq_1, ↓lenW.eq_2, ↓slW.eq_1, ↓slW.eq_2, ↓revW.eq_1, ↓revW.eq_2, ↓pkW_var, ↓ptW_nil, ↓ptK_i, ↓pkW_cst, ↓pkW_tup, ↓pkW_lst, ↓pkW_bin, ↓pkW_neg, ↓pkW_ix, ↓pkW_sl, ↓pkW_rev, ↓pkW_call, ↓pkW_callP, ↓pkW_bi, ↓pkW_len, ↓pkW_lc, ↓pkW_ite, ↓pkW_gc, ↓pkW_mov, ↓pkW_dsp, ↓pkW_bone, ↓pkW_cmp, ↓pkW_cnt, ↓ptW_cst, ↓ptW_tup, ↓ptW_lst, ↓ptW_bin, ↓ptW_neg, ↓ptW_ix, ↓ptW_sl, ↓ptW_rev, ↓ptW_call, ↓ptW_callP, ↓ptW_bi, ↓ptW_len, ↓ptW_lc, ↓ptW_ite, ↓ptW_gc, ↓ptW_mov, ↓ptW_dsp, ↓ptW_bone, ↓ptW_cmp, ↓ptW_cnt, ↓ptW_var, ↓peek, ↓ownAt, ↓kD.eq_1, ↓kD.eq_2, ↓kM.eq_1, ↓kB.eq_1, ↓kV.eq_1, ↓kV.eq_2, ↓setW, ↓rngW1.eq_1, ↓rngW2.eq_1, ↓rngWd.eq_1, isVar, isNil, isT, gv, pv, setAll, ev0, items.eq_1, items.eq_2, tgs, wipeE, blind_cons, blind_nil, bl1, runB, List.map_cons, List.map_nil, List.replicate, List.cons_append, List.nil_append, if_true, if_false, ite_true, ite_false, reduceCtorEq, Bool.true_and, Bool.and_true, Bool.not_true, Bool.not_false, Bool.false_eq_true, ↓reduceIte, Nat.reduceSub, Nat.reduceAdd, List.length_cons, List.length_nil, decide_eq_true_eq, Bool.not_eq_true', decide_eq_false_iff_not, Bool.and_false, Bool.false_and, true_and, and_true, Nat.sub_self, Nat.succ_eq_add_one, flat, Nat.reduceLeDiff, Int.reduceLE, Int.reduceLT, Int.reduceEq, ne_eq, not_false_eq_true, s10, la_2, la_3, la_4, la_5, la_6, la_7, la_8, la_9, la_10, la_11, la_12, la_13, la_14, la_15, la_16, la_18, la_19, la_20, la_21, la_24, la_25, la_28, la_30, la_35, la_36, la_39, la_40, la_41, la_44, la_45, la_49, la_50, la_52, la_54, la_57, la_63, la_64, la_65, la_72, la_78, la_81, la_90, la_100, la_121, la_123, la_125, la_126, la_144, la_162, la_168, la_176, la_196, la_200, la_216, la_240, la_360, la_369, la_400, la_402, la_441, la_540, la_550, la_900, la_907, la_997, la_1009, la_1100, la_1152, la_1440, la_1764, la_2001, la_2003, la_2200, la_3150, la_4099, la_16807, la_22500, la_24200, la_72600, Nat.reduceLT, ↓ix_t0, ↓ix_t1, ↓ix_t2, ↓ix_t3, ↓ix_t4, ↓ix_t5, ↓ix_t6, ↓ix_l0, ↓ix_l1, ↓ix_l2, ↓ix_l3, ↓ix_l4, ↓ix_l5, ↓ix_l6, ↓add_ttz, ↓isT_tz, ↓sl_tz, isN_non, isN_tup, isN_lst, isN_int, isN_str, isN_bl, isN_fr, isN_tz, ↓hS.eq_1, ↓hS.eq_2, ↓hS.eq_3, ↓hS.eq_4, hE, hB, ↓hide.eq_1, ↓hide.eq_2, isS, Nat.reduceBEq, Bool.or_true, Bool.or_false, Bool.true_or, Bool.false_or, beq_self_eq_true, not_true_eq_false, Int.cast_ofNat_Int, ↓wE_callL, ↓wE_callLP, ↓kR_d, ↓kR_o, ↓kT_twoO, ↓kTP_two, ↓kTP_twoO, ↓pkW_callLP, ↓wE_lemp, ↓wE_lix, ↓wE_lpop0, ↓wE_lcL, ↓wE_lcK, ↓pkW_lcK, ↓kT_two, ↓lentAt, unlend_nil, unlend_cons, ul1_n, ul1_d, ul1_o, ul1_l, ↓wS_lend, ↓wS_lfn, ↓wS_retL, ↓wS_lset, ↓wS_asgN, ↓tgW_nst, noTwo_d, noTwo_o, ↓pkW_callL, ↓pkW_lix, ↓pkW_lemp, ↓pkW_lpop0, ↓pkW_lcL, ↓ptW_callL, ↓ptW_lix, ↓wE_lit, ↓pkW_lit, ↓ptW_lit, ↓cmp_geT, ↓wE_dget, ↓wE_dix, ↓wE_dsrt, ↓wE_dlc, ↓wE_lcD, ↓wE_srt, ↓wS_dnewT, ↓wS_dnewI, ↓wS_dset, ↓dictAt, itemsD_I, itemsD_T, ↓pkW_dget, ↓ptW_dget, ↓pkW_dix, ↓ptW_dix, ↓pkW_dsrt, ↓ptW_dsrt, ↓pkW_dlc, ↓ptW_dlc, ↓pkW_lcD, ↓ptW_lcD, ↓pkW_srt, ↓ptW_srt]
      refine p_rs1 (d := 9887) (w := 1) rfl (by decide) (by decide) (sf_great 9887 (by decide)) one0 sz1 ?_
      simp only [pd, List.length_cons, List.length_nil, ↓wE.eq_1, ↓wE.eq_2, ↓wE.eq_3, ↓wE.eq_4, ↓wE.eq_5, ↓wE.eq_6, ↓wE.eq_7, ↓wE.eq_8, ↓wE.eq_9, ↓wE.eq_10, ↓wE.eq_11, ↓wE.eq_12, ↓wE.eq_13, ↓wE.eq_14, ↓wE.eq_15, ↓wE.eq_16, ↓wE.eq_18, ↓wE.eq_19, ↓wE.eq_22, ↓wE.eq_23, ↓wE.eq_24, ↓wE.eq_25, ↓wE.eq_26, ↓wE.eq_27, ↓wE.eq_28, ↓wE.eq_29, ↓wE.eq_30, ↓wE.eq_31, ↓wE.eq_32, ↓wE.eq_34, ↓wE.eq_35, ↓wE.eq_36, ↓wE.eq_37, ↓wE.eq_38, ↓wE.eq_39, ↓wE.eq_40, ↓wE.eq_41, ↓wE_call, ↓wE_callP, ↓wE_lc, ↓wE_lcg, ↓wE_isv, ↓wE_ix, ↓ix_fr0, ↓ix_fr1, ↓cmp_fr, ↓cmp_frn, ↓cmp_fr0, ↓cmp_tz, ↓cmp_tzn, ↓cmp_tz0, ↓cmp_tzn0, ↓bi_list_tz, ↓add_tz,   ↓len_tz, ↓len_fr, ↓isT_fr, items_tz, ↓cmp_bb, ↓cmp_bbn, ↓wS_whl, ↓wS_for, ↓wS_forP, ↓wS_asg, ↓wS_par, ↓wS_setIx, ↓wS_app, ↓tgW_one, ↓tgW_tup, pvF_eq, ↓wS.eq_1, ↓wS.eq_2, ↓wS.eq_3, ↓wS.eq_5, ↓wS.eq_7, ↓wS.eq_10, ↓wS.eq_11, ↓wS.eq_12, ↓wS.eq_13, ↓wS.eq_14, ↓wS.eq_15, ↓wS.eq_16, ↓wS.eq_17, ↓wS.eq_20, ↓wS.eq_21, ↓wS.eq_22, ↓wS.eq_23, ↓wS.eq_24, ↓wS.eq_25, ↓wS.eq_26, ↓wS.eq_27, ↓wS.eq_28, ↓wS.eq_29, ↓wS.eq_30, ↓augW.eq_1, ↓augW.eq_2, ↓augW.eq_3, ↓augW.eq_4, ↓inW.eq_1, ↓inW.eq_2, ↓inW.eq_3, ↓inW.eq_4, ↓zipW.eq_1, ↓zipW.eq_2, ↓cntW.eq_1, ↓dspW.eq_1, ↓idxW.eq_1, ↓opW.eq_1, ↓opW.eq_2, ↓opW.eq_3, ↓opW.eq_4, ↓opW.eq_5, ↓opW.eq_6, ↓opW.eq_7, ↓opW.eq_8, ↓opW.eq_9, ↓opW.eq_10, ↓opW.eq_11, ↓opW.eq_12, ↓opW.eq_13, ↓opW.eq_14, ↓cmpW.eq_1, ↓cmpW.eq_2, ↓cmpW.eq_5, ↓cmpW.eq_6, ↓cmpW.eq_7, ↓cmpW.eq_8, ↓cmpW.eq_9, ↓cmpW.eq_10, ↓cmpW.eq_11, ↓cmpW.eq_12, ↓cmp_ll, ↓cmp_lln, ↓cmp_tt, ↓cmp_ttn, ↓biW.eq_1, ↓biW.eq_2, ↓biW.eq_3, ↓biW.eq_4, ↓biW.eq_5, ↓biW.eq_6, ↓biW.eq_7, ↓biW.eq_8, ↓biW.eq_9, ↓biW.eq_10, ↓biW.eq_11, ↓biW.eq_12, ↓biW.eq_13, ↓biW.eq_14, ↓biW.eq_15, ↓biW.eq_16, ↓biW.eq_17, ↓lenW.eq_1, ↓lenW.eq_2, ↓slW.eq_1, ↓slW.eq_2, ↓revW.eq_1, ↓revW.eq_2, ↓pkW_var, ↓ptW_nil, ↓ptK_i, ↓pkW_cst, ↓pkW_tup, ↓pkW_lst, ↓pkW_bin, ↓pkW_neg, ↓pkW_ix, ↓pkW_sl, ↓pkW_rev, ↓pkW_call, ↓pkW_callP, ↓pkW_bi, ↓pkW_len, ↓pkW_lc, ↓pkW_ite, ↓pkW_gc, ↓pkW_mov, ↓pkW_dsp, ↓pkW_bone, ↓pkW_cmp, ↓pkW_cnt, ↓ptW_cst, ↓ptW_tup, ↓ptW_lst, ↓ptW_bin, ↓ptW_neg, ↓ptW_ix, ↓ptW_sl, ↓ptW_rev, ↓ptW_call, ↓ptW_callP, ↓ptW_bi, ↓ptW_len, ↓ptW_lc, ↓ptW_ite, ↓ptW_gc, ↓ptW_mov, ↓ptW_dsp, ↓ptW_bone, ↓ptW_cmp, ↓ptW_cnt, ↓ptW_var, ↓peek, ↓ownAt, ↓kD.eq_1, ↓kD.eq_2, ↓kM.eq_1, ↓kB.eq_1, ↓kV.eq_1, ↓kV.eq_2, ↓setW, ↓rngW1.eq_1, ↓rngW2.eq_1, ↓rngWd.eq_1, isVar, isNil, isT, gv, pv, setAll, ev0, items.eq_1, items.eq_2, tgs, wipeE, blind_cons, blind_nil, bl1, runB, List.map_cons, List.map_nil, List.replicate, List.cons_append, List.nil_append, if_true, if_false, ite_true, ite_false, reduceCtorEq, Bool.true_and, Bool.and_true, Bool.not_true, Bool.not_false, Bool.false_eq_true, ↓reduceIte, Nat.reduceSub, Nat.reduceAdd, List.length_cons, List.length_nil, decide_eq_true_eq, Bool.not_eq_true', decide_eq_false_iff_not, Bool.and_false, Bool.false_and, true_and, and_true, Nat.sub_self, Nat.succ_eq_add_one, flat, Nat.reduceLeDiff, Int.reduceLE, Int.reduceLT, Int.reduceEq, ne_eq, not_false_eq_true, s10, la_2, la_3, la_4, la_5, la_6, la_7, la_8, la_9, la_10, la_11, la_12, la_13, la_14, la_15, la_16, la_18, la_19, la_20, la_21, la_24, la_25, la_28, la_30, la_35, la_36, la_39, la_40, la_41, la_44, la_45, la_49, la_50, la_52, la_54, la_57, la_63, la_64, la_65, la_72, la_78, la_81, la_90, la_100, la_121, la_123, la_125, la_126, la_144, la_162, la_168, la_176, la_196, la_200, la_216, la_240, la_360, la_369, la_400, la_402, la_441, la_540, la_550, la_900, la_907, la_997, la_1009, la_1100, la_1152, la_1440, la_1764, la_2001, la_2003, la_2200, la_3150, la_4099, la_16807, la_22500, la_24200, la_72600, Nat.reduceLT, ↓ix_t0, ↓ix_t1, ↓ix_t2, ↓ix_t3, ↓ix_t4, ↓ix_t5, ↓ix_t6, ↓ix_l0, ↓ix_l1, ↓ix_l2, ↓ix_l3, ↓ix_l4, ↓ix_l5, ↓ix_l6, ↓add_ttz, ↓isT_tz, ↓sl_tz, isN_non, isN_tup, isN_lst, isN_int, isN_str, isN_bl, isN_fr, isN_tz, ↓hS.eq_1, ↓hS.eq_2, ↓hS.eq_3, ↓hS.eq_4, hE, hB, ↓hide.eq_1, ↓hide.eq_2, isS, Nat.reduceBEq, Bool.or_true, Bool.or_false, Bool.true_or, Bool.false_or, beq_self_eq_true, not_true_eq_false, Int.cast_ofNat_Int, ↓wE_callL, ↓wE_callLP, ↓kR_d, ↓kR_o, ↓kT_twoO, ↓kTP_two, ↓kTP_twoO, ↓pkW_callLP, ↓wE_lemp, ↓wE_lix, ↓wE_lpop0, ↓wE_lcL, ↓wE_lcK, ↓pkW_lcK, ↓kT_two, ↓lentAt, unlend_nil, unlend_cons, ul1_n, ul1_d, ul1_o, ul1_l, ↓wS_lend, ↓wS_lfn, ↓wS_retL, ↓wS_lset, ↓wS_asgN, ↓tgW_nst, noTwo_d, noTwo_o, ↓pkW_callL, ↓pkW_lix, ↓pkW_lemp, ↓pkW_lpop0, ↓pkW_lcL, ↓ptW_callL, ↓ptW_lix, ↓wE_lit, ↓pkW_lit, ↓ptW_lit, ↓cmp_geT, ↓wE_dget, ↓wE_dix, ↓wE_dsrt, ↓wE_dlc, ↓wE_lcD, ↓wE_srt, ↓wS_dnewT, ↓wS_dnewI, ↓wS_dset, ↓dictAt, itemsD_I, itemsD_T, ↓pkW_dget, ↓ptW_dget, ↓pkW_dix, ↓ptW_dix, ↓pkW_dsrt, ↓ptW_dsrt, ↓pkW_dlc, ↓ptW_dlc, ↓pkW_lcD, ↓ptW_lcD, ↓pkW_srt, ↓ptW_srt]
      rw [e11, e12]
      rw [if_pos (show (100000000000 : Int) < ((x * y * z : Nat) : Int) by omega), if_pos (show ((x * y * z : Nat) : Int) < 1000000000000 by omega)]
      refine p_ldone (i := 2) (a := [(((x * y * z : Nat) : Int), 1 * w * Rat.divInt 2 3)]) (b := [(((9887 : Nat) : Int), 1)]) (.inr (.inr rfl)) k3 k4 (by decide) (by decide) (by decide) (by decide) ?_
      have eo : rs (opr 2 [(((x * y * z : Nat) : Int), 1 * w * Rat.divInt 2 3)] [(((9887 : Nat) : Int), 1)]) = [(((x * y * z * 9887 : Nat) : Int), 1 * w * Rat.divInt 2 3 * 1)] := tm_one c3 t1 one0
      rw [eo, dn_n (by rw [gok_one, decide_eq_false_iff_not]; omega)]
      walk_at "s"
      exact h
    · exfalso
      rw [tm_one c2 w1 t0, gok_one, decide_eq_false_iff_not] at g
      omega
  · exfalso
    rw [tm_one cxy one0 w0, gok_one, decide_eq_false_iff_not] at g
    omega
theorem p_law {ns : List Int} (hl : ns.length ≤ 63) (h : Q (.d (.bool true))) : sem fns (k + 8) 24 [.list (ns.map .int)] X Q := by
  refine sem_at rfl ⟨rfl, ?_⟩
  (simp only [b_law]; walk_at "s")
  refine p_cellz (by decide) fun z => ?_
  walk_at "s"
  have m1 := md_lt (a := z) (b := 8) (by decide)
  have m2 := md_lt (a := z.fdiv 8) (b := 5) (by decide)
  have m3 := md_lt (a := z.fdiv 1440) (b := 3) (by decide)
  have m4 := md_lt (a := z.fdiv 40) (b := 9) (by decide)
  refine ix_in m1.1 (by simpa using m1.2) fun v hv => ?_
  obtain ⟨m, rfl, hm⟩ : ∃ m : Nat, v = .int (m : Nat) ∧ (m = 7 ∨ m = 11 ∨ m = 13 ∨ m = 15 ∨ m = 21 ∨ m = 34 ∨ m = 97 ∨ m = 95) := by
    simp only [List.mem_cons, List.not_mem_nil, or_false] at hv
    rcases hv with rfl | rfl | rfl | rfl | rfl | rfl | rfl | rfl
    · exact ⟨7, rfl, by decide⟩
    · exact ⟨11, rfl, by decide⟩
    · exact ⟨13, rfl, by decide⟩
    · exact ⟨15, rfl, by decide⟩
    · exact ⟨21, rfl, by decide⟩
    · exact ⟨34, rfl, by decide⟩
    · exact ⟨97, rfl, by decide⟩
    · exact ⟨95, rfl, by decide⟩
  have sm : Sf m ∧ gg (m : Int) (m : Int) = (m : Int) ∧ pk (m : Int) (m : Int) = 1 := by
    rcases hm with rfl | rfl | rfl | rfl | rfl | rfl | rfl | rfl <;> exact ⟨sf_of 10 (by decide) (by decide +kernel) (by decide), by decide +kernel, by decide +kernel⟩
  have m0 : 0 < m ∧ m ≤ 97 := by omega
  walk_at "s"
  refine ⟨mulOk_l (by unfold small64; decide), ?_⟩
  refine ix_in m2.1 (by simpa using m2.2) fun v hv => ?_
  obtain ⟨rl, rfl, hr, hr0⟩ : ∃ rl : List Nat, v = .list (rl.map fun n : Nat => .int n) ∧ (∀ r ∈ rl, 0 < r ∧ r ≤ 400) ∧ rl.length = 4 := by
    simp only [List.mem_cons, List.not_mem_nil, or_false] at hv
    rcases hv with rfl | rfl | rfl | rfl | rfl
    · exact ⟨[1, 2, 3, 6], rfl, by decide, rfl⟩
    · exact ⟨[1, 2, 8, 18], rfl, by decide, rfl⟩
    · exact ⟨[1, 5, 2, 10], rfl, by decide, rfl⟩
    · refine ⟨[1, m, 4 * m, 1], by simp only [List.map_cons, List.map_nil]; push_cast; rfl, fun r hr => ?_, rfl⟩
      simp only [List.mem_cons, List.not_mem_nil, or_false] at hr
      omega
    · exact ⟨[2, 3, 5, 1], rfl, by decide, rfl⟩
  walk_at "s"
  refine p_lone (at' := 1) hr (by omega) (by omega) fun a ha ra => ?_
  walk_at "s"
  refine ix_in m3.1 (by simpa using m3.2) fun v hv => ?_
  obtain ⟨rl2, rfl, hs, hs0⟩ : ∃ rl : List Nat, v = .list (rl.map fun n : Nat => .int n) ∧ (∀ r ∈ rl, 0 < r ∧ r ≤ 400) ∧ rl.length = 4 := by
    simp only [List.mem_cons, List.not_mem_nil, or_false] at hv
    rcases hv with rfl | rfl | rfl
    · exact ⟨rl, rfl, hr, hr0⟩
    · exact ⟨rl, rfl, hr, hr0⟩
    · exact ⟨[1, 3, 7, 10], rfl, by decide, rfl⟩
  walk_at "s"
  refine p_lone (at' := 5) hs (by omega) (by omega) fun b hb rb => ?_
  walk_at "s"
  refine p_lone (at' := 9) hr (by omega) (by omega) fun c hc rc => ?_
  walk_at "s"
  refine p_lright ha hb ?_
  walk_at "s"
  refine p_lright hb hc ?_
  walk_at "s"
  refine p_llaws ha hb hc ra ?_
  walk_at "s"
  split
  case' isTrue =>
    refine p_cellz (by decide) fun w => ?_
    walk_at "s"
    refine p_lgreat ?_
    walk_at "s"
  all_goals
    obtain ⟨t, et, t0, t1⟩ : ∃ t : Int, (z.fdiv 40).fmod 9 - 4 = t ∧ -4 ≤ t ∧ t ≤ 4 := ⟨_, rfl, by omega, by omega⟩
    have et2 : 4 - (z.fdiv 40).fmod 9 = -t := by omega
    have two : Sf 2 := sf_of 2 (by decide) (by decide +kernel) (by decide)
    have one : Sf 1 := sf_of 2 (by decide) (by decide +kernel) (by decide)
    have szi : ∀ q : Int, -10000 ≤ q → q ≤ 10000 → Sz 20 (q : Rat) := fun q q0 q1 => ⟨by show Bt 20 q; unfold Bt; omega, by show Bt 20 (1 : Int); exact bt_c (by decide)⟩
    have fri : ∀ q : Int, PyData.tuple [.int q, .int 1] = fr (q : Rat) := fun q => fr_c rfl rfl
    have eo : ∀ q : Rat, outs [(m, 1), (2, q)] = [((m : Int), 1), (2, q)] := fun q => by
      show [(((sqd m).2 : Int), (1 : Rat) * (((sqd m).1 : Int) : Rat)), (((sqd 2).2 : Int), q * (((sqd 2).1 : Int) : Rat))] = _
      rw [sqd_sf m0.1 sm.1, sqd_sf (by decide) two]
      show [((m : Int), (1 : Rat) * ((1 : Int) : Rat)), (((2 : Nat) : Int), q * ((1 : Int) : Rat))] = _
      rw [Rat.intCast_one, Rat.mul_one, Rat.mul_one]; rfl
    have kd : ∀ q : Int, -10000 ≤ q → q ≤ 10000 → Kd 20 2 100 [((m : Int), (1 : Rat)), (2, (q : Rat))] := fun q q0 q1 => ⟨fun p hp => by
        simp only [List.mem_cons, List.not_mem_nil, or_false] at hp
        rcases hp with rfl | rfl
        · exact ⟨by show (0 : Int) < m; omega, by show Sf (m : Int).toNat; rw [Int.toNat_natCast]; exact sm.1⟩
        · exact ⟨show (0 : Int) < 2 by decide, two⟩, fun p hp => by
        simp only [List.mem_cons, List.not_mem_nil, or_false] at hp
        rcases hp with rfl | rfl
        · show (m : Int) ≤ 100; omega
        · exact show (2 : Int) ≤ 100 by decide, fun p hp => by
        simp only [List.mem_cons, List.not_mem_nil, or_false] at hp
        rcases hp with rfl | rfl
        · exact szi 1 (by decide) (by decide)
        · exact szi q q0 q1, Nat.le_refl _⟩
    have gk : ∀ {s n : Nat} {K : Int} {f : List Pr}, Kd s n K f → n ≤ 3 → K ≤ 1000000000000 → gok f = true := fun {s n K f} hk hn hK => by
      rw [gok_three hk.top hK, decide_eq_true_eq]
      exact Nat.le_trans (List.length_filter_le _ _) (Nat.le_trans hk.len hn)
    have go : ∀ {Q : Val → Prop} {v : D} (q : Int), -10000 ≤ q → q ≤ 10000 → items v = some [.tuple [.int (m : Nat), fr 1], .tuple [.int (2 : Nat), fr (q : Rat)]] → Q (.d (.tuple ((rs [((m : Int), (1 : Rat)), (2, (q : Rat))]).map pd))) → sem fns (k + 7) 11 [v] X Q := fun {Q v} q q0 q1 hv hq => by
      refine p_root_sum (ts := [(m, 1), (2, (q : Rat))]) (s := 20) (n := 2) hv (fun t ht => ?_) (fun t ht => ?_) (Nat.le_refl _) (by decide) (by decide) (fun g => ?_) (fun g => ?_)
      · simp only [List.mem_cons, List.not_mem_nil, or_false] at ht
        rcases ht with rfl | rfl
        · exact ⟨m0.1, by show m < _; omega⟩
        · exact show 0 < 2 ∧ 2 < 2 ^ 60 by decide
      · simp only [List.mem_cons, List.not_mem_nil, or_false] at ht
        rcases ht with rfl | rfl
        · exact szi 1 (by decide) (by decide)
        · exact szi q q0 q1
      · rw [eo]; exact hq
      · exfalso
        rw [eo, gk (kd q q0 q1).rs (by decide) (by decide)] at g
        cases g
    rw [et, fri t]
    refine go t (by omega) (by omega) rfl ?_
    walk_at "s"
    rw [et2, fri (-t)]
    refine go (-t) (by omega) (by omega) rfl ?_
    walk_at "s"
    rw [et]
    have bt : Bt 20 t := by unfold Bt; omega
    refine ⟨mulOk_of bt bt (by decide), mulOk_of (bt.mul bt) (bt_c (a := 20) (by decide)) (by decide), ?_⟩
    have tt : t * t ≤ 16 ∧ 0 ≤ t * t := by
      have h1 : (-4 ≤ t ∧ t ≤ 4) := ⟨t0, t1⟩
      have : t = -4 ∨ t = -3 ∨ t = -2 ∨ t = -1 ∨ t = 0 ∨ t = 1 ∨ t = 2 ∨ t = 3 ∨ t = 4 := by omega
      rcases this with rfl | rfl | rfl | rfl | rfl | rfl | rfl | rfl | rfl <;> decide
    have eq1 : rs (tm (rs [((m : Int), (1 : Rat)), (2, (t : Rat))]) (rs [((m : Int), (1 : Rat)), (2, ((-t : Int) : Rat))])) = rs [(1, (((m : Int) - t * t * 2 : Int) : Rat))] := by
      rw [Rat.intCast_neg, tm_like (m : Int) (t : Rat) sm.2.1 sm.2.2, Rat.intCast_sub, Rat.intCast_mul, Rat.intCast_mul]
      rfl
    obtain ⟨q, eq, q0, q1⟩ : ∃ q : Int, (m : Int) - t * t * 2 = q ∧ -100 ≤ q ∧ q ≤ 100 := ⟨_, rfl, by omega, by omega⟩
    have kq : Kd 20 1 1 [((1 : Int), (q : Rat))] := ⟨fun p hp => by rw [List.mem_singleton.mp hp]; exact ⟨show (0 : Int) < 1 by decide, one⟩, fun p hp => by rw [List.mem_singleton.mp hp]; exact Int.le_refl _, fun p hp => by rw [List.mem_singleton.mp hp]; exact szi q (by omega) (by omega), Nat.le_refl _⟩
    have eo1 : outs [(1, (q : Rat))] = [((1 : Int), (q : Rat))] := by
      show [(((sqd 1).2 : Int), (q : Rat) * (((sqd 1).1 : Int) : Rat))] = _
      rw [sqd_sf (by decide) one]
      show [(((1 : Nat) : Int), (q : Rat) * ((1 : Int) : Rat))] = _
      rw [Rat.intCast_one, Rat.mul_one]; rfl
    rw [eq] at eq1
    refine p_s_times (kd t (by omega) (by omega)).rs (kd (-t) (by omega) (by omega)).rs (by decide) (by decide) (by decide) (by decide) (fun g => ?_) (fun g => ?_)
    · rw [eq1]
      walk_at "s"
      rw [eq, fri q]
      refine p_root_sum (ts := [(1, (q : Rat))]) (s := 20) (n := 1) rfl (fun t ht => by rw [List.mem_singleton.mp ht]; exact show 0 < 1 ∧ 1 < 2 ^ 60 by decide) (fun t ht => by rw [List.mem_singleton.mp ht]; exact szi q (by omega) (by omega)) (Nat.le_refl _) (by decide) (by decide) (fun g2 => ?_) (fun g2 => ?_)
      · rw [eo1]
        walk_at "s"
        refine ⟨shPdT _, shPdT _, ?_⟩
        rw [eqvPdT, decide_eq_true rfl]
        exact h
      · exfalso
        rw [eo1, gk kq.rs (by decide) (by decide)] at g2
        cases g2
    · exfalso
      rw [eq1, gk kq.rs (by decide) (by decide)] at g
      cases g
theorem holds : PySem.Challenge.rw_rootcourt_k65_whole_root_sums_reckoned.Holds := holds_of 7 ⟨rfl, by decide, by decide⟩ fun ns hl _ => p_law (k := 0) hl rfl
end

end K65

theorem PySem.Challenge.cw_rootcourt_k65_whole_root_sums_reckoned_holds : PySem.Challenge.rw_rootcourt_k65_whole_root_sums_reckoned.Holds := by
  exact K65.holds

