import PyProof.Rows.All
import Wide.All
import OpenK.AllK
import Wide.FinOn
import KE.KStateDown
import KE.KTupSum
import HandS.Base
import HandS.Call
import HandS.List
import HandS.Comp
import HandS.Ends
import HandS.Iter
import HandS.Text
import HandS.Walk
import HandS.Wide
import HandS.Rev
import HandS.Zip
import HandS.TupAny
import HandS.TupMul
import HandS.Style
import HandS.IsInst
import HandS.Deep
import HandS.Exc
import HandS.ExcOwn
import HandS.TryOnly
import HandS.CallSlots
import HandS.RevRange
import HandS.More
import HandS.SetFor
import HandS.Words
import HandS.WordsExc
import HandS.WordsList
import HandS.ExcIs
import KE.KIsAll
import HandS.Dict
import HandS.TupLe
import KE.KDictKeyed
import KE.SortData
import KE.GoesEnum
import HandS.RevTup
import PyProof.ListRange
import KE.KDictWalk
import KE.OsSort
import HandS.Defaults
import HandS.Head0
import HandS.Head1
import HandS.Head2
import HandS.HeadEnd
import HandS.EndBits
import HandS.HeadHook1
import HandS.HeadHook2
import HandS.HeadHook4
import PySem.Challenge.RW_rootcourt_k33_forms_made
set_option Elab.async false
set_option linter.all false
set_option maxRecDepth 100000
set_option maxHeartbeats 4000000
/-! The small language: its data, its terms, what they mean. No heap here. -/
namespace Rc
open PySem

abbrev D := PyData
/-- what a name holds: data that stands still, or a list that this frame alone has and may change -/
inductive Val where
  | d (x : D) | own (xs : List D) | many (xs : List D) | exc (c : Nat)
  /- a list that is lent to this frame: the caller's, and this frame may change it; two: what a def that borrows tells, and the list behind -/
  | lent (xs : List D) | two (x : D) (xs : List D) | twoO (ys xs : List D)
  /- a dict of the frame's own: keys whole numbers, or tuples of them -/
  | dI (kvs : List (Int × D)) | dT (kvs : List (List Int × D))
abbrev Ev := List (Option Val)
def gv : Ev → Nat → Option Val
  | [], _ => none
  | x :: _, 0 => x
  | _ :: r, n + 1 => gv r n
def pv : Ev → Nat → Option Val → Ev
  | [], _, _ => []
  | _ :: r, 0, v => v :: r
  | x :: r, n + 1, v => x :: pv r n v

mutual
/-- data without a list in it -/
def noL : D → Bool
  | .list _ => false
  | .dict _ => false
  | .tuple xs => noLs xs
  | _ => true
def noLs : List D → Bool
  | [] => true
  | x :: r => noL x && noLs r
end
/-- what a def that borrows tells -/
def kT (k : Val → List D → Prop) : Val → Prop := fun v => match v with
  | .two x xs => k (.d x) xs
  | .twoO ys xs => k (.own ys) xs
  | _ => False
/-- .. where lists of the frame's own were looked at -/
def kTP (k : Val → List D → Prop) : Val → Prop := fun v => match v with
  | .two x xs => noL x = true ∧ noLs xs = true ∧ k (.d x) xs
  | .twoO ys xs => noLs ys = true ∧ noLs xs = true ∧ k (.own ys) xs
  | _ => False
def noTwo : Val → Bool
  | .two _ _ => false
  | .twoO _ _ => false
  | _ => true
/-- what was lent is out of sight -/
def unlend : Ev → Ev
  | [] => []
  | some (.lent _) :: r => none :: unlend r
  | o :: r => o :: unlend r
/-- the list that is lent -/
def lentAt (ε : Ev) (j : Nat) (k : List D → Prop) : Prop := match gv ε j with
  | some (.lent xs) => k xs
  | _ => False
/-! ### dicts -/
section
variable {κ : Type} [DecidableEq κ]
def lkp (kvs : List (κ × D)) (k : κ) : Option D := (kvs.find? fun kv => decide (kv.1 = k)).map (·.2)
def putL (kvs : List (κ × D)) (k : κ) (v : D) : List (κ × D) :=
  if (kvs.any fun kv => decide (kv.1 = k)) = true then kvs.map (fun kv => if kv.1 = k then (kv.1, v) else kv) else kvs ++ [(k, v)]
end
def isDc : Val → Bool
  | .dI _ => true
  | .dT _ => true
  | _ => false
/-- the dict of a name -/
def dictAt (ε : Ev) (j : Nat) (k : Val → Prop) : Prop := match gv ε j with
  | some (.dI kvs) => k (.dI kvs)
  | some (.dT kvs) => k (.dT kvs)
  | _ => False
inductive Ty where
  | int | bool | tuple | list | str
  deriving DecidableEq
inductive Bi where
  | abs | int | list | tuple | max | min | all | any | sum | str
  deriving DecidableEq
inductive Tg where
  | one (j : Nat) | tup (js : List Nat) | nst (js : List Nat) (j : Nat)
inductive IE where
  | nil | cons (a r : IE) | consP (a r : IE)
  | var (j : Nat) | mov (j : Nat)
  | cst (c : D)
  | tup (a : IE) | lst (a : IE)
  | bin (o : Operator) (a b : IE)
  | cmp (o : CmpOp) (a b : IE)
  | neg (a : IE)
  | bnot (a : IE) | band (a r : IE) | bor (a r : IE) | bone (a : IE)
  | ite (c a b : IE)
  | ix (a b : IE)
  | sl (a lo hi : IE)
  | rev (a : IE)
  | call (f : Nat) (a : IE) | callP (f : Nat) (a : IE)
  | bi (b : Bi) (a : IE) | len (a : IE)
  | isi (t : Ty) (a : IE)
  | isx (c : Nat) (j : Nat)
  | itv (a : IE) | rng1 (a : IE) | rng2 (a b : IE) | rngd (a b : IE) | enm (a : IE) | rvd (a : IE) | zip (a b : IE)
  | lc (t : Tg) (it c elt : IE)
  | inn (neg : Bool) (a b : IE) | cmp2 (o o' : CmpOp) (a b c : IE) | cnt (a b : IE) | dsp (kvs : List (Str × D)) (a : IE) | rvr (a : IE) | gc (f : Nat) (d : D) | lsc (a : IE) | idx (a b : IE)
  | callL (f j : Nat) (a : IE) | lemp (j : Nat) | lix (j n : Nat) | lpop0 (j : Nat)
  | lcL (t : Tg) (it elt : IE) (j : Nat) | callLP (f j : Nat) (a : IE) | lcK (t : Tg) (it elt : IE) (j : Nat)
  /- d.get(k, x); d[k]; sorted(d); [.. for t in d.items() if c]; a comprehension that looks at a dict; sorted(xs) -/
  | dget (j : Nat) (k x : IE) | dix (j : Nat) (k : IE) | dsrt (j : Nat) | dlc (t : Tg) (c elt : IE) (j : Nat) | lcD (t : Tg) (it c elt : IE) (j : Nat) | srt (a : IE)
  /- a written tuple of written things -/
  | lit (d : D)
  /- f(g(..), written things): a def that borrows, lent a list told anew; list(reversed(xs)); len(set(ints)); {} -/
  | callF (f g : Nat) (a : IE) (ds : List D) | rvl (a : IE) | lset (a : IE) | emp
  /- a comprehension over a name's own list, that stays its own -/
  | lcO (t : Tg) (j : Nat) (c elt : IE)
/-- what an except suite reckons: it knows the class that was caught alone -/
inductive HE where
  | cst (c : D) | isx (c : Nat) | isv
  | bnot (a : HE) | band (a r : HE) | bor (a r : HE) | bone (a : HE)
/-- a text put behind a name's text: a written one, or [x, y][int(c)] -/
inductive HT where
  | str (s : Str) | pick (x y : Str) (c : HE)
inductive HS where
  | nil | asg (j : Nat) (e : HE) (r : HS) | ite (c : HE) (a b r : HS) | ret (e : HE) | asgC (j i : Nat) (t : HT) (r : HS)
/-- class c' is a class c: class 0 is above all others -/
def isS (c' c : Nat) : Bool := c == 0 || c == c'
def hB (c' : Nat) : HE → Bool
  | .cst (.bool b) => b
  | .cst _ => false
  | .isx c => isS c' c
  | .isv => true
  | .bnot a => !hB c' a
  | .band a r => hB c' a && hB c' r
  | .bor a r => hB c' a || hB c' r
  | .bone a => hB c' a
def hE (c' : Nat) : HE → D
  | .cst c => c
  | e => .bool (hB c' e)
def hTx (c' : Nat) : HT → Str
  | .str s => s
  | .pick x y c => if hB c' c = true then y else x
inductive IS where
  | nil | seq (s r : IS) | still (j : Nat) (r : IS)
  | asg (j : Nat) (e : IE)
  | asgT (js : List Nat) (e : IE)
  | par (i j : Nat) (a b : IE) | par3 (i j l : Nat) (a b c : IE)
  | setIx (j : Nat) (k e : IE)
  | app (j : Nat) (e : IE) | pop (j : Nat) | popT (t : Tg) (j : Nat) | ins (j : Nat) (k e : IE) | clr (j : Nat)
  | drop (e : IE)
  | ret (e : IE) | retN
  | ite (c : IE) (a b : IS) | whl (c : IE) (b : IS) | forr (t : Tg) (it : IE) (b : IS)
  | raise (c : Nat)
  | try1 (b : IS) (c : Nat) (j : Option Nat) (h : HS)
  | brk | cont | pass | never
  | aug (j : Nat) (o : Operator) (e : IE) | ext (j : Nat) (e : IE) | popI (t : Tg) (j : Nat) (k : IE)
  | set2 (j : Nat) (k l e : IE)
  | clrE (e : IE) | forP (t : Tg) (j : Nat) (c e : IE)
  | lend (j : Nat) (r : IS) | lfn (r : IS) | retL (e : IE) | lset (j n : Nat) (e : IE)
  | asgN (t : Tg) (e : IE)
  | dnew (j : Nat) (tup : Bool) | dset (j : Nat) (k e : IE)

/-- what may be wanted of an error -/
abbrev XP := Nat → Ev → Prop
abbrev KE := Val → Ev → Prop
def kD (k : D → Ev → Prop) : KE := fun v ε => match v with
  | .d x => k x ε
  | .own xs => k (.list xs) ε
  | _ => False
def kM (k : List D → Ev → Prop) : KE := fun v ε => match v with
  | .many xs => k xs ε
  | _ => False
def kB (k : Bool → Ev → Prop) : KE := fun v ε => match v with
  | .d (.bool b) => k b ε
  | _ => False
/-- a name, looked at -/
def isVar : IE → Option Nat
  | .var j => some j
  | _ => none
def peek (ε : Ev) (j : Nat) (k : D → Ev → Prop) : Prop := match gv ε j with
  | some (.d x) => k x ε
  | some (.own xs) => k (.list xs) ε
  | _ => False

def cut {α : Type} (xs : List α) (lo hi : Option Int) : List α := (xs.drop (HT.sIx xs.length 0 lo)).take (HT.sIx xs.length xs.length hi - HT.sIx xs.length 0 lo)
def small64 (i : Int) : Prop := -(2 ^ 64) < i ∧ i < 2 ^ 64
def mulOk (i j : Int) : Prop := small64 i ∨ small64 j ∨ i.natAbs.log2 + j.natAbs.log2 + 2 ≤ 134217728
def opW : Operator → D → D → (Val → Prop) → Prop
  | .Add, .int i, .int j, Q => Q (.d (.int (i + j)))
  | .Add, .tuple a, .tuple b, Q => a.length + b.length ≤ 16777216 ∧ Q (.d (.tuple (a ++ b)))
  | .Add, .list a, .list b, Q => a.length + b.length ≤ 16777216 ∧ Q (.own (a ++ b))
  | .Add, .str a, .str b, Q => a.length + b.length ≤ 16777216 ∧ Q (.d (.str (a ++ b)))
  | .Sub, .int i, .int j, Q => Q (.d (.int (i - j)))
  | .Mult, .int i, .int j, Q => mulOk i j ∧ Q (.d (.int (i * j)))
  | .Mult, .list a, .int k, Q => -(2 ^ 63) ≤ k ∧ k < 2 ^ 63 ∧ a.length * k.toNat ≤ 16777216 ∧ Q (.own (List.replicate k.toNat a).flatten)
  | .FloorDiv, .int i, .int j, Q => j ≠ 0 ∧ Q (.d (.int (i.fdiv j)))
  | .Mod, .int i, .int j, Q => j ≠ 0 ∧ Q (.d (.int (i.fmod j)))
  | .Pow, .int i, .int j, Q => 0 ≤ j ∧ j ≤ 1000000 ∧ small64 i ∧ Q (.d (.int (i ^ j.toNat)))
  | .LShift, .int i, .int j, Q => 0 ≤ j ∧ j ≤ 1000000 ∧ small64 i ∧ Q (.d (.int (i * 2 ^ j.toNat)))
  | .RShift, .int i, .int j, Q => 0 ≤ j ∧ Q (.d (.int (i / 2 ^ j.toNat)))
  | .BitAnd, .int i, .int j, Q => Q (.d (.int (Builtin.bitAnd i j)))
  | .Mult, .tuple a, .int k, Q => -(2 ^ 63) ≤ k ∧ k ≤ 1000 ∧ a.length ≤ 1000 ∧ Q (.d (.tuple (List.replicate k.toNat a).flatten))
  | _, _, _, _ => False
def isNone : D → Bool
  | .none => true
  | _ => false
def asInts : List D → Option (List Int)
  | [] => some []
  | .int i :: r => (asInts r).map (i :: ·)
  | _ :: _ => none
/-- x >= y of rows of whole numbers -/
def geI : List Int → List Int → Bool
  | _, [] => true
  | [], _ :: _ => false
  | x :: r, y :: t => if x = y then geI r t else decide (y ≤ x)
def cmpW : CmpOp → D → D → (Bool → Prop) → Prop
  | .Eq, .int i, .int j, Q => Q (decide (i = j))
  | .NotEq, .int i, .int j, Q => Q (!decide (i = j))
  | .Eq, a, b, Q => SeqAt.shaped a = true ∧ SeqAt.shaped b = true ∧ Q (PyData.eqv a b)
  | .NotEq, a, b, Q => SeqAt.shaped a = true ∧ SeqAt.shaped b = true ∧ Q (!PyData.eqv a b)
  | .Lt, .int i, .int j, Q => Q (decide (i < j))
  | .LtE, .int i, .int j, Q => Q (decide (i ≤ j))
  | .Gt, .int i, .int j, Q => Q (decide (j < i))
  | .GtE, .int i, .int j, Q => Q (decide (j ≤ i))
  | .Is, a, .none, Q => Q (isNone a)
  | .IsNot, a, .none, Q => Q (!isNone a)
  | .Is, .bool a, .bool b, Q => Q (decide (a = b))
  | .IsNot, .bool a, .bool b, Q => Q (!decide (a = b))
  | .GtE, .tuple a, .tuple b, Q => ∃ ns ms, asInts a = some ns ∧ asInts b = some ms ∧ Q (geI ns ms)
  | _, _, _, _ => False
def flatD : D → Bool
  | .none | .bool _ | .int _ | .str _ => true
  | _ => false
/-- x in y -/
def inW : D → D → (Bool → Prop) → Prop
  | x, .list ys, Q => SeqAt.shaped x = true ∧ SeqAt.shaped (.list ys) = true ∧ Q (ys.any fun z => PyData.eqv z x)
  | .tuple zs, .tuple ys, Q => SeqAt.shaped (.tuple zs) = true ∧ SeqAt.shaped (.tuple ys) = true ∧ Q (ys.any fun z => PyData.eqv z (.tuple zs))
  | x, .tuple ys, Q => flatD x = true ∧ ys.all flatD = true ∧ Q (ys.any fun z => PyData.eqv z x)
  | .str i, .str j, Q => Q (!(Builtin.Str.occurrences j i 0 j.length 1).isEmpty)
  | _, _, _ => False
/-- what a display of texts tells -/
def dspGet (s : Str) : List (Str × D) → Option D
  | [] => none
  | (x, d) :: r => if x = s then some d else dspGet s r
def dspW (kvs : List (Str × D)) : D → (D → Prop) → Prop
  | .str s, Q => ∃ d, dspGet s kvs = some d ∧ Q d
  | _, _ => False
def ixW : D → D → (D → Prop) → Prop
  | .list xs, .int i, Q => ∃ v, L2.atI xs i = some v ∧ Q v
  | .tuple xs, .int i, Q => ∃ v, L2.atI xs i = some v ∧ Q v
  | _, _, _ => False
def slW : D → Option Int → Option Int → (Val → Prop) → Prop
  | .list xs, lo, hi, Q => Q (.own (cut xs lo hi))
  | .tuple xs, lo, hi, Q => Q (.d (.tuple (cut xs lo hi)))
  | _, _, _, _ => False
def revW : D → (Val → Prop) → Prop
  | .list xs, Q => Q (.own xs.reverse)
  | .tuple xs, Q => Q (.d (.tuple xs.reverse))
  | _, _ => False
def isT : Ty → D → Bool
  | .int, .int _ => true
  | .int, .bool _ => true
  | .bool, .bool _ => true
  | .tuple, .tuple _ => true
  | .list, .list _ => true
  | .str, .str _ => true
  | _, _ => false
def asBools : List D → Option (List Bool)
  | [] => some []
  | .bool i :: r => (asBools r).map (i :: ·)
  | _ :: _ => none
def biW : Bi → List D → (Val → Prop) → Prop
  | .abs, [.int i], Q => Q (.d (.int (if i < 0 then -i else i)))
  | .int, [.int i], Q => Q (.d (.int i))
  | .int, [.bool b], Q => Q (.d (.int (if b then 1 else 0)))
  | .list, [.list xs], Q => Q (.own xs)
  | .list, [.tuple xs], Q => Q (.own xs)
  | .tuple, [.list xs], Q => Q (.d (.tuple xs))
  | .tuple, [.tuple xs], Q => Q (.d (.tuple xs))
  | .max, [.int i, .int j], Q => Q (.d (.int (if j > i then j else i)))
  | .min, [.int i, .int j], Q => Q (.d (.int (if j < i then j else i)))
  | .max, [.list xs], Q => ∃ ns m, asInts xs = some ns ∧ m ∈ ns ∧ (∀ y ∈ ns, y ≤ m) ∧ Q (.d (.int m))
  | .min, [.list xs], Q => ∃ ns m, asInts xs = some ns ∧ m ∈ ns ∧ (∀ y ∈ ns, m ≤ y) ∧ Q (.d (.int m))
  | .sum, [.list xs], Q => ∃ ns, asInts xs = some ns ∧ Q (.d (.int ns.sum))
  | .sum, [.tuple xs], Q => ∃ ns, asInts xs = some ns ∧ Q (.d (.int ns.sum))
  | .all, [.list xs], Q => ∃ bs, asBools xs = some bs ∧ Q (.d (.bool (bs.all id)))
  | .any, [.list xs], Q => ∃ bs, asBools xs = some bs ∧ Q (.d (.bool (bs.any id)))
  | .str, [.int i], Q => i.natAbs.log2 < 1920 ∧ Q (.d (.str (toString i)))
  | _, _, _ => False
def cntW : D → D → (Int → Prop) → Prop
  | .list xs, .int i, Q => ∃ ns, asInts xs = some ns ∧ Q ((ns.count i : Nat) : Int)
  | _, _, _ => False
/-- the place of the first thing that is equal -/
def idxW : D → D → (Int → Prop) → Prop
  | .list xs, y, Q => SeqAt.shaped (.list xs) = true ∧ SeqAt.shaped y = true ∧ ∃ (j : Nat) (z : D), xs[j]? = some z ∧ PyData.eqv z y = true ∧ (∀ (m : Nat) (z' : D), m < j → xs[m]? = some z' → PyData.eqv z' y = false) ∧ Q (j : Nat)
  | _, _, _ => False
def lenW : D → (Int → Prop) → Prop
  | .list xs, Q => Q xs.length
  | .tuple xs, Q => Q xs.length
  | _, _ => False
def rngW1 : D → (List D → Prop) → Prop
  | .int n, Q => (n < 2 ^ 62 ∧ -(2 ^ 62) ≤ n) ∧ Q ((List.range n.toNat).map fun (i : Nat) => .int i)
  | _, _ => False
def rngW2 : D → D → (List D → Prop) → Prop
  | .int a, .int b, Q => (-(2 ^ 62) ≤ a ∧ a < 2 ^ 62 ∧ -(2 ^ 62) ≤ b ∧ b < 2 ^ 62) ∧ Q ((List.range (b - a).toNat).map fun (i : Nat) => .int (a + i))
  | _, _, _ => False
def rngWd : D → D → (List D → Prop) → Prop
  | .int a, .int b, Q => (-(2 ^ 62) ≤ a ∧ a < 2 ^ 62 ∧ -(2 ^ 62) ≤ b ∧ b < 2 ^ 62) ∧ Q ((List.range (a - b).toNat).map fun (i : Nat) => .int (a - i))
  | _, _, _ => False
def items : D → Option (List D)
  | .list xs => some xs
  | .tuple xs => some xs
  | _ => none
def enums (n : Nat) : List D → List D
  | [] => []
  | x :: r => .tuple [.int n, x] :: enums (n + 1) r
def zips : List D → List D → List D
  | x :: r, y :: t => .tuple [x, y] :: zips r t
  | _, _ => []
def zipW : D → D → (List D → Prop) → Prop
  | .list xs, .list ys, Q => Q (zips xs ys)
  | .tuple xs, .tuple ys, Q => Q (zips xs ys)
  | .list xs, .tuple ys, Q => Q (zips xs ys)
  | _, _, _ => False
def setAll : List Nat → List D → Ev → Ev
  | j :: js, x :: xs, ε => setAll js xs (pv ε j (some (.d x)))
  | _, _, ε => ε
def tgW : Tg → D → Ev → (Ev → Prop) → Prop
  | .one j, x, ε, K => K (pv ε j (some (.d x)))
  | .tup js, .tuple xs, ε, K => xs.length = js.length ∧ K (setAll js xs ε)
  | .nst js j, .tuple [.tuple xs, y], ε, K => xs.length = js.length ∧ K (pv (setAll js xs ε) j (some (.d y)))
  | _, _, _, _ => False
def tgs : Tg → List Nat
  | .one j => [j]
  | .tup js => js
  | .nst js j => js ++ [j]
def wipeE (ε : Ev) : List Nat → Ev
  | [] => ε
  | j :: js => pv (wipeE ε js) j none
/-- a frame's own lists are out of sight -/
def blind : Ev → Ev
  | [] => []
  | some (.d x) :: r => some (.d x) :: blind r
  | _ :: r => none :: blind r
/-- a comprehension's turns: C the test, E the element -/
def lcW (t : Tg) (ε : Ev) (C : Ev → (Bool → Ev → Prop) → Prop) (E : Ev → (D → Ev → Prop) → Prop) : List D → List D → (List D → Prop) → Prop
  | [], acc, K => K acc
  | x :: r, acc, K => tgW t x (wipeE (blind ε) (tgs t)) fun ε1 => C ε1 fun b ε2 =>
      if b = true then E ε2 fun y _ => acc.length < 16777216 ∧ lcW t ε C E r (acc ++ [y]) K else lcW t ε C E r acc K
/-- a key of a dict -/
def keyI : D → Option Int
  | .int i => some i
  | _ => none
def keyT : D → Option (List Int)
  | .tuple xs => asInts xs
  | _ => none
def dGetW : Val → D → (Option D → Prop) → Prop
  | .dI kvs, y, Q => ∃ i, keyI y = some i ∧ Q (lkp kvs i)
  | .dT kvs, y, Q => ∃ i, keyT y = some i ∧ Q (lkp kvs i)
  | _, _, _ => False
def dPutW : Val → D → D → (Val → Prop) → Prop
  | .dI kvs, y, v, Q => ∃ i, keyI y = some i ∧ kvs.length < 16777216 ∧ Q (.dI (putL kvs i v))
  | .dT kvs, y, v, Q => ∃ i, keyT y = some i ∧ kvs.length < 16777216 ∧ Q (.dT (putL kvs i v))
  | _, _, _, _ => False
/-- sorted(d), keys whole numbers -/
def dSrtW : Val → (List D → Prop) → Prop
  | .dI kvs, Q => kvs.length < 64 ∧ Q (((kvs.map (·.1)).mergeSort fun x y => decide (x ≤ y)).map .int)
  | _, _ => False
def itemsD : Val → List D
  | .dI kvs => kvs.map fun kv => .tuple [.int kv.1, kv.2]
  | .dT kvs => kvs.map fun kv => .tuple [.tuple (kv.1.map .int), kv.2]
  | _ => []
/-- sorted(xs) -/
def srtW : D → (List D → Prop) → Prop
  | .list xs, Q => PySem.W.AllAlike xs ∧ PySem.W.Sortable xs ∧ (xs.length ≤ 16777216 ∧ ∀ d ∈ xs, d.depth ≤ 16) ∧ Q (xs.mergeSort (PySem.W.dataLe false id))
  | _, _ => False
def ownAt (ε : Ev) (j : Nat) (k : List D → Prop) : Prop := match gv ε j with
  | some (.own xs) => k xs
  | _ => False
/-- no list is lent -/
def noLt : Ev → Bool
  | [] => true
  | some (.lent _) :: _ => false
  | _ :: r => noLt r
def ntF (ε : Ev) : Prop := noLt ε = true
/-- a comprehension whose elements look at a list that is a name's own -/
def lckW (t : Tg) (ε : Ev) (j : Nat) (L : List D) (E : Ev → (D → Ev → Prop) → Prop) : List D → List D → (List D → Prop) → Prop
  | [], acc, K => K acc
  | x :: r, acc, K => tgW t x (pv (wipeE (blind ε) (tgs t)) j (some (.own L))) fun ε1 => E ε1 fun y ε2 => ownAt ε2 j fun _ => acc.length < 16777216 ∧ lckW t ε j L E r (acc ++ [y]) K
/-- a comprehension that looks at a dict -/
def lcdW (t : Tg) (ε : Ev) (j : Nat) (v : Val) (C : Ev → (Bool → Ev → Prop) → Prop) (E : Ev → (D → Ev → Prop) → Prop) : List D → List D → (List D → Prop) → Prop
  | [], acc, K => K acc
  | x :: r, acc, K => tgW t x (pv (wipeE (blind ε) (tgs t)) j (some v)) fun ε1 => C ε1 fun b ε2 =>
      if b = true then E ε2 fun y ε3 => dictAt ε3 j fun _ => acc.length < 16777216 ∧ lcdW t ε j v C E r (acc ++ [y]) K else dictAt ε2 j fun _ => lcdW t ε j v C E r acc K
/-- a comprehension whose elements change the list that is lent -/
def lclW (t : Tg) (ε : Ev) (j : Nat) (E : Ev → (D → Ev → Prop) → Prop) : List D → List D → List D → (List D → List D → Prop) → Prop
  | [], acc, L, K => K acc L
  | x :: r, acc, L, K => tgW t x (pv (wipeE (blind ε) (tgs t)) j (some (.lent L))) fun ε1 => E ε1 fun y ε2 => lentAt ε2 j fun L' => acc.length < 16777216 ∧ lclW t ε j E r (acc ++ [y]) L' K
/-- what the defs do -/
abbrev Fs := Nat → List D → (Nat → Prop) → (Val → Prop) → Prop
def flat : Val → Bool
  | .d .none | .d (.bool _) | .d (.int _) | .d (.str _) => true
  | .d (.tuple xs) => noLs xs
  | _ => false
/-- an operand: a name is only looked at -/
def pkW (i : IE) (ε : Ev) (T : KE → Prop) (k : D → Ev → Prop) : Prop := match isVar i with
  | some j => peek ε j k
  | none => T (kD k)
def isNil : IE → Bool
  | .nil => true
  | _ => false
def ptW (i : IE) (ε : Ev) (T : KE → Prop) (k : Option Int → Ev → Prop) : Prop :=
  if isNil i = true then k none ε else T (kD fun y ε1 => match y with | .int h => k (some h) ε1 | _ => False)
section
variable (Φ : Fs)
def wE : IE → Ev → XP → KE → Prop
  | .nil, ε, _, Q => Q (.many []) ε
  | .cons a r, ε, X, Q => wE a ε X (kD fun x ε1 => wE r ε1 X (kM fun xs ε2 => Q (.many (x :: xs)) ε2))
  | .consP a r, ε, X, Q => pkW a ε (fun T => wE a ε X T) fun x ε1 => wE r ε1 X (kM fun xs ε2 => Q (.many (x :: xs)) ε2)
  | .var j, ε, _, Q => (match gv ε j with
    | some (.d x) => Q (.d x) ε
    | some (.own xs) => Q (.d (.list xs)) (pv ε j (some (.d (.list xs))))
    | _ => False)
  | .mov j, ε, _, Q => (match gv ε j with
    | some (.d x) => Q (.d x) ε
    | some (.own xs) => Q (.own xs) (pv ε j none)
    | _ => False)
  | .cst c, ε, _, Q => Q (.d c) ε
  | .tup a, ε, X, Q => wE a ε X (kM fun xs ε1 => xs.length ≤ 16777216 ∧ Q (.d (.tuple xs)) ε1)
  | .lst a, ε, X, Q => wE a ε X (kM fun xs ε1 => xs.length ≤ 16777216 ∧ Q (.own xs) ε1)
  | .bin o a b, ε, X, Q => wE a ε X (kD fun x ε1 => wE b ε1 X (kD fun y ε2 => opW o x y fun v => Q v ε2))
  | .cmp o a b, ε, X, Q => pkW a ε (fun T => wE a ε X T) fun x ε1 => pkW b ε1 (fun T => wE b ε1 X T) fun y ε2 => cmpW o x y fun c => Q (.d (.bool c)) ε2
  | .neg a, ε, X, Q => wE a ε X (kD fun x ε1 => match x with
    | .int i => Q (.d (.int (-i))) ε1
    | _ => False)
  | .bnot a, ε, X, Q => wE a ε X (kB fun b ε1 => Q (.d (.bool (!b))) ε1)
  | .band a r, ε, X, Q => wE a ε X (kB fun b ε1 => if b = true then wE r ε1 X Q else Q (.d (.bool false)) ε1)
  | .bor a r, ε, X, Q => wE a ε X (kB fun b ε1 => if b = true then Q (.d (.bool true)) ε1 else wE r ε1 X Q)
  | .bone a, ε, X, Q => wE a ε X (kD fun x ε1 => Q (.d x) ε1)
  | .ite c a b, ε, X, Q => wE c ε X (kB fun t ε1 => if t = true then wE a ε1 X Q else wE b ε1 X Q)
  | .ix a b, ε, X, Q => pkW a ε (fun T => wE a ε X T) fun x ε1 => wE b ε1 X (kD fun y ε2 => ixW x y fun v => Q (.d v) ε2)
  | .sl a lo hi, ε, X, Q => pkW a ε (fun T => wE a ε X T) fun x ε1 => ptW lo ε1 (fun T => wE lo ε1 X T) fun l ε2 => ptW hi ε2 (fun T => wE hi ε2 X T) fun h ε3 => slW x l h fun v => Q v ε3
  | .rev a, ε, X, Q => pkW a ε (fun T => wE a ε X T) fun x ε1 => revW x fun v => Q v ε1
  | .call f a, ε, X, Q => wE a ε X (kM fun ds ε1 => Φ f ds (fun c => X c ε1) fun v => Q v ε1)
  | .callP f a, ε, X, Q => wE a ε X (kM fun ds ε1 => Φ f ds (fun c => X c ε1) fun v => flat v = true ∧ Q v ε1)
  | .bi b a, ε, X, Q => wE a ε X (kM fun ds ε1 => biW b ds fun v => Q v ε1)
  | .len a, ε, X, Q => pkW a ε (fun T => wE a ε X T) fun x ε1 => lenW x fun n => Q (.d (.int n)) ε1
  | .isi t a, ε, X, Q => pkW a ε (fun T => wE a ε X T) fun x ε1 => Q (.d (.bool (isT t x))) ε1
  | .isx c j, ε, X, Q => False
  | .itv a, ε, X, Q => wE a ε X (kD fun x ε1 => match items x with
    | some xs => Q (.many xs) ε1
    | none => False)
  | .rng1 a, ε, X, Q => wE a ε X (kD fun x ε1 => rngW1 x fun xs => Q (.many xs) ε1)
  | .rng2 a b, ε, X, Q => wE a ε X (kD fun x ε1 => wE b ε1 X (kD fun y ε2 => rngW2 x y fun xs => Q (.many xs) ε2))
  | .rngd a b, ε, X, Q => wE a ε X (kD fun x ε1 => wE b ε1 X (kD fun y ε2 => rngWd x y fun xs => Q (.many xs) ε2))
  | .enm a, ε, X, Q => wE a ε X (kD fun x ε1 => match items x with
    | some xs => Q (.many (enums 0 xs)) ε1
    | none => False)
  | .rvd a, ε, X, Q => wE a ε X (kD fun x ε1 => match items x with
    | some xs => Q (.many xs.reverse) ε1
    | none => False)
  | .zip a b, ε, X, Q => wE a ε X (kD fun x ε1 => wE b ε1 X (kD fun y ε2 => zipW x y fun zs => Q (.many zs) ε2))
  | .lc t it c elt, ε, X, Q => wE it ε X (kM fun xs ε1 =>
      lcW t ε1 (fun ε2 k => if isNil c = true then k true ε2 else wE c ε2 (fun _ _ => False) (kB k))
        (fun ε2 k => wE elt ε2 (fun _ _ => False) (kD k)) xs [] fun ys => Q (.own ys) ε1)
  | .inn neg a b, ε, X, Q => pkW a ε (fun T => wE a ε X T) fun x ε1 => pkW b ε1 (fun T => wE b ε1 X T) fun y ε2 => inW x y fun c => Q (.d (.bool (if neg = true then !c else c))) ε2
  | .cmp2 o o' a b c, ε, X, Q => wE a ε X (kD fun x ε1 => wE b ε1 X (kD fun y ε2 => cmpW o x y fun t =>
      if t = true then wE c ε2 X (kD fun z ε3 => cmpW o' y z fun u => Q (.d (.bool u)) ε3) else Q (.d (.bool false)) ε2))
  | .cnt a b, ε, X, Q => pkW a ε (fun T => wE a ε X T) fun x ε1 => isT .list x = true ∧ wE b ε1 X (kD fun y ε2 => cntW x y fun n => Q (.d (.int n)) ε2)
  | .dsp kvs a, ε, X, Q => wE a ε X (kD fun y ε1 => dspW kvs y fun d => Q (.d d) ε1)
  | .gc _ d, ε, _, Q => Q (.d d) ε
  | .rvr a, ε, X, Q => wE a ε X (kD fun x ε1 => rngW1 x fun xs => Q (.many xs.reverse) ε1)
  | .lsc a, ε, X, Q => pkW a ε (fun T => wE a ε X T) fun x ε1 => match items x with
    | some xs => Q (.own xs) ε1
    | none => False
  | .idx a b, ε, X, Q => pkW a ε (fun T => wE a ε X T) fun x ε1 => isT .list x = true ∧ wE b ε1 X (kD fun y ε2 => idxW x y fun n => Q (.d (.int n)) ε2)
  | .callL f j a, ε, X, Q => lentAt ε j fun _ => wE a ε X (kM fun ds ε1 => lentAt ε1 j fun xs => Φ f (.list xs :: ds) (fun c => X c (pv ε1 j none)) (kT fun v ys => Q v (pv ε1 j (some (.lent ys)))))
  | .lemp j, ε, _, Q => lentAt ε j fun xs => SeqAt.shaped (.list xs) = true ∧ Q (.d (.bool xs.isEmpty)) ε
  | .lix j n, ε, _, Q => lentAt ε j fun xs => ∃ v, xs[n]? = some v ∧ Q (.d v) ε
  | .lpop0 j, ε, _, Q => lentAt ε j fun xs => ∃ x r, xs = x :: r ∧ Q (.d x) (pv ε j (some (.lent r)))
  | .lcL t it elt j, ε, X, Q => wE it ε X (kM fun xs ε1 => lentAt ε1 j fun L => lclW t ε1 j (fun ε2 k => wE elt ε2 (fun _ _ => False) (kD k)) xs [] L fun ys L' => Q (.own ys) (pv ε1 j (some (.lent L'))))
  | .callLP f j a, ε, X, Q => lentAt ε j fun _ => wE a ε X (kM fun ds ε1 => lentAt ε1 j fun xs => Φ f (.list xs :: ds) (fun c => X c (pv ε1 j none)) (kTP fun v ys => Q v (pv ε1 j (some (.lent ys)))))
  | .lcK t it elt j, ε, X, Q => wE it ε X (kM fun xs ε1 => ownAt ε1 j fun L => lckW t ε1 j L (fun ε2 k => wE elt ε2 (fun _ _ => False) (kD k)) xs [] fun ys => Q (.own ys) ε1)
  | .dget j k x, ε, X, Q => dictAt ε j fun _ => wE k ε X (kD fun y ε1 => wE x ε1 X (kD fun z ε2 => dictAt ε2 j fun v => dGetW v y fun o => Q (.d (o.getD z)) ε2))
  | .dix j k, ε, X, Q => dictAt ε j fun _ => wE k ε X (kD fun y ε1 => dictAt ε1 j fun v => dGetW v y fun o => ∃ d, o = some d ∧ Q (.d d) ε1)
  | .dsrt j, ε, _, Q => dictAt ε j fun v => dSrtW v fun ys => Q (.own ys) ε
  | .dlc t c elt j, ε, _, Q => dictAt ε j fun v => lcW t ε (fun ε2 k => if isNil c = true then k true ε2 else wE c ε2 (fun _ _ => False) (kB k))
        (fun ε2 k => wE elt ε2 (fun _ _ => False) (kD k)) (itemsD v) [] fun ys => Q (.own ys) ε
  | .lcD t it c elt j, ε, X, Q => wE it ε X (kM fun xs ε1 => dictAt ε1 j fun v =>
      lcdW t ε1 j v (fun ε2 k => if isNil c = true then k true ε2 else wE c ε2 (fun _ _ => False) (kB k))
        (fun ε2 k => wE elt ε2 (fun _ _ => False) (kD k)) xs [] fun ys => Q (.own ys) ε1)
  | .srt a, ε, X, Q => wE a ε X (kD fun x ε1 => srtW x fun ys => Q (.own ys) ε1)
  | .lit d, ε, _, Q => Q (.d d) ε
  | .callF f g a ds, ε, X, Q => wE a ε X (kM fun us ε1 => Φ g us (fun c => X c ε1) fun v => match v with
    | .own xs => Φ f (.list xs :: ds) (fun c => X c ε1) (kT fun v _ => Q v ε1)
    | _ => False)
  | .rvl a, ε, X, Q => wE a ε X (kD fun x ε1 => match x with
    | .list xs => Q (.own xs.reverse) ε1
    | _ => False)
  | .lset a, ε, X, Q => wE a ε X (kD fun x ε1 => match x with
    | .list xs => ∃ ns, asInts xs = some ns ∧ ns.Nodup ∧ ns.length ≤ 4000 ∧ Q (.d (.int xs.length)) ε1
    | _ => False)
  | .emp, ε, _, Q => Q (.d (.dict [])) ε
  | .lcO t j c elt, ε, _, Q => ownAt ε j fun L => lcW t (pv ε j (some (.d (.list L)))) (fun ε2 k => if isNil c = true then k true ε2 else wE c ε2 (fun _ _ => False) (kB k))
        (fun ε2 k => wE elt ε2 (fun _ _ => False) (kD k)) L [] fun ys => noLs ys = true ∧ ntF ε ∧ Q (.own ys) ε
end
/-! ### statements -/
structure En where
  nx : Ev → Prop
  rt : Val → Prop
  bk : Ev → Prop := fun _ => False
  ct : Ev → Prop := fun _ => False
  ex : XP := fun _ _ => False
def kV (k : Val → Ev → Prop) : KE := fun v ε => match v with
  | .d _ => k v ε
  | .own _ => k v ε
  | _ => False
def forW (t : Tg) (B : Ev → En → Prop) : List D → Ev → En → Prop
  | [], ε, D => D.nx ε
  | x :: r, ε, D => tgW t x ε fun ε1 => B ε1 { D with nx := fun e => forW t B r e D, ct := fun e => forW t B r e D, bk := D.nx }
def whlW (T : Ev → (Bool → Ev → Prop) → Prop) (B : Ev → En → Prop) (ε : Ev) (D : En) : Prop :=
  ∃ I : Nat → Ev → Prop, (∃ m, I m ε) ∧ ∀ m ε1, I m ε1 → T ε1 fun b ε2 =>
    if b = true then B ε2 { D with nx := fun e => ∃ m', m' < m ∧ I m' e, ct := fun e => ∃ m', m' < m ∧ I m' e, bk := D.nx } else D.nx ε2
/-- x op= y -/
def augW : Operator → D → D → (D → Prop) → Prop
  | .Add, .int i, .int j, Q => Q (.int (i + j))
  | .Add, .str a, .str b, Q => a.length + b.length ≤ 16777216 ∧ Q (.str (a ++ b))
  | .Sub, .int i, .int j, Q => Q (.int (i - j))
  | .Mult, .int i, .int j, Q => mulOk i j ∧ Q (.int (i * j))
  | _, _, _, _ => False
def hS (c' : Nat) : HS → Ev → En → Prop
  | .nil, ε, D => D.nx ε
  | .asg j e r, ε, D => hS c' r (pv ε j (some (.d (hE c' e)))) D
  | .ite c a b r, ε, D => if hB c' c = true then hS c' a ε { D with nx := fun ε1 => hS c' r ε1 D } else hS c' b ε { D with nx := fun ε1 => hS c' r ε1 D }
  | .ret e, _, D => D.rt (.d (hE c' e))
  | .asgC j i t r, ε, D => ∃ s, gv ε i = some (.d (.str s)) ∧ s.length + (hTx c' t).length ≤ 16777216 ∧ hS c' r (pv ε j (some (.d (.str (s ++ hTx c' t))))) D
/-- the name of an except clause is out of sight -/
def hide (ε : Ev) : Option Nat → Ev
  | some j => pv ε j none
  | none => ε
/-- x[k] = v of a frame's own list -/
def setW (Φ : Fs) (j : Nat) (k : IE) (v : D) (ε : Ev) (X : XP) (K : Ev → Prop) : Prop := ownAt ε j fun _ => wE Φ k ε X (kD fun i ε2 => match i with
  | .int z => ownAt ε2 j fun xs => ∃ n, L2.ixN xs.length z = some n ∧ K (pv ε2 j (some (.own (xs.set n v))))
  | _ => False)
/-- for x in L: if c: return e -/
def forPW (t : Tg) (j : Nat) (xs0 : List D) (T : Ev → (Bool → Ev → Prop) → Prop) (Rt : Ev → Prop) (nx : Ev → Prop) : List D → Ev → Prop
  | [], ε => nx ε
  | x :: r, ε => tgW t x ε fun ε1 => T ε1 fun b ε2 => if b = true then Rt ε2 else gv ε2 j = some (.own xs0) ∧ forPW t j xs0 T Rt nx r ε2
section
variable (Φ : Fs)
def wS : IS → Ev → En → Prop
  | .nil, ε, D => D.nx ε
  | .seq s r, ε, D => wS s ε { D with nx := fun ε1 => wS r ε1 D }
  | .still j r, ε, D => wE Φ (.var j) ε (fun _ _ => False) (fun _ ε1 => wS r ε1 D)
  | .asg j e, ε, D => wE Φ e ε D.ex (kV fun v ε1 => D.nx (pv ε1 j (some v)))
  | .asgT js e, ε, D => wE Φ e ε D.ex (kD fun x ε1 => tgW (.tup js) x ε1 D.nx)
  | .par i j a b, ε, D => wE Φ a ε D.ex (kD fun x ε1 => wE Φ b ε1 D.ex (kD fun y ε2 => D.nx (pv (pv ε2 i (some (.d x))) j (some (.d y)))))
  | .par3 i j l a b c, ε, D => wE Φ a ε D.ex (kD fun x ε1 => wE Φ b ε1 D.ex (kD fun y ε2 => wE Φ c ε2 D.ex (kD fun z ε3 => D.nx (pv (pv (pv ε3 i (some (.d x))) j (some (.d y))) l (some (.d z))))))
  | .setIx j k e, ε, D => wE Φ e ε D.ex (kD fun v ε1 => ownAt ε1 j fun _ => wE Φ k ε1 D.ex (kD fun i ε2 => match i with
      | .int z => ownAt ε2 j fun xs => ∃ n, L2.ixN xs.length z = some n ∧ D.nx (pv ε2 j (some (.own (xs.set n v))))
      | _ => False))
  | .app j e, ε, D => ownAt ε j fun _ => wE Φ e ε D.ex (kD fun v ε1 => ownAt ε1 j fun xs => xs.length < 16777216 ∧ D.nx (pv ε1 j (some (.own (xs ++ [v])))))
  | .pop j, ε, D => ownAt ε j fun xs => xs ≠ [] ∧ D.nx (pv ε j (some (.own xs.dropLast)))
  | .popT t j, ε, D => ownAt ε j fun xs => ∃ x, xs[xs.length - 1]? = some x ∧ tgW t x (pv ε j (some (.own xs.dropLast))) D.nx
  | .ins j k e, ε, D => ownAt ε j fun _ => wE Φ k ε D.ex (kD fun i ε1 => wE Φ e ε1 D.ex (kD fun v ε2 => match i with
      | .int z => ownAt ε2 j fun xs => (0 ≤ z ∧ z < 2 ^ 63 ∧ xs.length < 16777216) ∧ D.nx (pv ε2 j (some (.own (xs.take z.toNat ++ [v] ++ xs.drop z.toNat))))
      | _ => False))
  | .clr j, ε, D => ownAt ε j fun _ => D.nx (pv ε j (some (.own [])))
  | .drop e, ε, D => wE Φ e ε D.ex (kV fun _ ε1 => D.nx ε1)
  | .ret e, ε, D => wE Φ e ε D.ex (kV fun v _ => D.rt v)
  | .retN, _, D => D.rt (.d .none)
  | .ite c a b, ε, D => wE Φ c ε D.ex (kB fun t ε1 => if t = true then wS a ε1 D else wS b ε1 D)
  | .whl c b, ε, D => whlW (fun ε1 k => wE Φ c ε1 D.ex (kB k)) (fun ε1 D' => wS b ε1 D') ε D
  | .forr t it b, ε, D => wE Φ it ε D.ex (kM fun xs ε1 => forW t (fun ε2 D' => wS b ε2 D') xs ε1 D)
  | .raise c, ε, D => D.ex c ε
  | .try1 b c j h, ε, D => wS b ε { D with ex := fun c' ε1 => if isS c' c = true then hS c' h (hide ε1 j) D else D.ex c' ε1 }
  | .brk, ε, D => D.bk ε
  | .cont, ε, D => D.ct ε
  | .pass, ε, D => D.nx ε
  | .never, _, _ => False
  | .aug j o e, ε, D => ∃ d0, gv ε j = some (.d d0) ∧ wE Φ e ε D.ex (kD fun y ε1 => ∃ d1, gv ε1 j = some (.d d1) ∧ augW o d1 y fun v => D.nx (pv ε1 j (some (.d v))))
  | .ext j e, ε, D => ownAt ε j fun _ => wE Φ e ε D.ex fun v ε1 => (match v with
      | .own ys => ownAt ε1 j fun xs => xs.length + ys.length ≤ 16777216 ∧ D.nx (pv ε1 j (some (.own (xs ++ ys))))
      | _ => False)
  | .popI t j k, ε, D => ownAt ε j fun _ => wE Φ k ε D.ex (kD fun i ε1 => match i with
      | .int z => ownAt ε1 j fun xs => (-(2 ^ 63) ≤ z ∧ z < 2 ^ 63) ∧ ∃ n x, seqIndex? z xs.length = some n ∧ xs[n]? = some x ∧ tgW t x (pv ε1 j (some (.own (xs.eraseIdx n)))) D.nx
      | _ => False)
  | .set2 j k l e, ε, D => wE Φ e ε D.ex (kD fun x ε1 => match x with
      | .tuple [v, w] => setW Φ j k v ε1 D.ex fun ε2 => setW Φ j l w ε2 D.ex D.nx
      | _ => False)
  | .clrE e, ε, D => wE Φ e ε D.ex fun v ε1 => (match v with
      | .own _ => D.nx ε1
      | _ => False)
  | .forP t j c e, ε, D => ownAt ε j fun xs => forPW t j xs (fun ε1 k => wE Φ c ε1 D.ex (kB k)) (fun ε1 => wE Φ e ε1 D.ex (kV fun v _ => D.rt v)) D.nx xs ε
  | .lend j r, ε, D => ownAt ε j fun xs => wS r (pv ε j (some (.lent xs))) { nx := fun e => D.nx (unlend e), rt := fun v => noTwo v = true ∧ D.rt v, bk := fun e => D.bk (unlend e), ct := fun e => D.ct (unlend e), ex := fun c e => D.ex c (unlend e) }
  | .lfn r, ε, D => (match gv ε 0 with
    | some (.d (.list xs)) => wS r (pv ε 0 (some (.lent xs))) { D with nx := fun _ => False }
    | _ => False)
  | .retL e, ε, D => wE Φ e ε D.ex fun v ε1 => (match v with
      | .d x => lentAt ε1 0 fun xs => D.rt (.two x xs)
      | .own ys => lentAt ε1 0 fun xs => D.rt (.twoO ys xs)
      | _ => False)
  | .lset j n e, ε, D => wE Φ e ε D.ex (kD fun v ε1 => lentAt ε1 j fun xs => n < xs.length ∧ D.nx (pv ε1 j (some (.lent (xs.set n v)))))
  | .asgN t e, ε, D => wE Φ e ε D.ex (kD fun x ε1 => tgW t x ε1 D.nx)
  | .dnew j t, ε, D => D.nx (pv ε j (some (if t = true then .dT [] else .dI [])))
  | .dset j k e, ε, D => wE Φ e ε D.ex (kD fun v ε1 => dictAt ε1 j fun _ => wE Φ k ε1 D.ex (kD fun y ε2 => dictAt ε2 j fun dv => dPutW dv y v fun dv' => D.nx (pv ε2 j (some dv'))))
end
structure FnI where
  name : Str
  ps : List Str
  N : List Str
  np : Nat
  nn : Nat
  body : IS
  con : Option D
def ev0 (n : Nat) (ds : List D) : Ev := ds.map (fun x => some (.d x)) ++ List.replicate (n - ds.length) none
def runB (Φ : Fs) (fi : FnI) (ds : List D) (X : Nat → Prop) (Q : Val → Prop) : Prop :=
  ds.length = fi.np ∧ wS Φ fi.body (ev0 fi.nn ds) { nx := fun _ => Q (.d .none), rt := Q, ex := fun c _ => X c }
def sem (fns : List FnI) : Nat → Fs
  | 0 => fun _ _ _ _ => False
  | k + 1 => fun f ds X Q => match fns[f]? with
    | some fi => runB (sem fns k) fi ds X Q
    | none => False
end Rc

/-! The heap behind the small language. -/
namespace Rc
open PySem PySem.Spec PyProof.Rows L2
abbrev St := L2.St

/-! ### names and their values -/
theorem gv_pv : ∀ (ε : Ev) (i : Nat) (v : Option Val) (j : Nat), gv (pv ε i v) j = if j = i then (if i < ε.length then v else none) else gv ε j
  | [], i, v, j => by
    show gv [] j = _
    cases j <;> simp [gv]
  | x :: r, 0, v, j => by
    cases j with
    | zero => simp [pv, gv]
    | succ j => simp [pv, gv]
  | x :: r, i + 1, v, j => by
    cases j with
    | zero => simp [pv, gv]
    | succ j => simp [pv, gv, gv_pv r i v j]
theorem pv_len : ∀ (ε : Ev) (i : Nat) (v : Option Val), (pv ε i v).length = ε.length
  | [], _, _ => rfl
  | _ :: _, 0, _ => rfl
  | _ :: r, i + 1, v => by simp [pv, pv_len r i v]
theorem gv_lt : ∀ {ε : Ev} {j : Nat} {v : Val}, gv ε j = some v → j < ε.length
  | [], _, _, h => by cases h
  | _ :: _, 0, _, _ => by simp
  | _ :: r, j + 1, v, h => by
    have := gv_lt (ε := r) (j := j) (v := v) h
    simp; omega

/-! ### data at values -/
mutual
inductive Dp (K : PySem.W.Frag) (H : Hp) : V → D → Prop
  | non : Dp K H .non .none
  | bl (b : Bool) : Dp K H (.bl b) (.bool b)
  | int (i : Int) : Dp K H (.int i) (.int i)
  | str (x : Str) : Dp K H (.str x) (.str x)
  | lst {a : Addr} {xs : List V} {ds : List D} : SqL K H a xs → DpAll K H xs ds → Dp K H (.ref a) (.list ds)
  | tup {a : Addr} {xs : List V} {ds : List D} : SqT K H a xs → DpAll K H xs ds → Dp K H (.ref a) (.tuple ds)
  | dct {a : Addr} : H a = some (.dK []) → Dp K H (.ref a) (.dict [])
inductive DpAll (K : PySem.W.Frag) (H : Hp) : List V → List D → Prop
  | nil : DpAll K H [] []
  | cons {v : V} {vs : List V} {d : D} {ds : List D} : Dp K H v d → DpAll K H vs ds → DpAll K H (v :: vs) (d :: ds)
end
mutual
/-- no dict in it -/
def noDct : D → Bool
  | .list xs => noDcts xs
  | .tuple xs => noDcts xs
  | .dict _ => false
  | _ => true
def noDcts : List D → Bool
  | [] => true
  | x :: r => noDct x && noDcts r
end
mutual
theorem noDct_lay : ∀ {d : D}, d.canLay0 = true → noDct d = true
  | .none, _ | .bool _, _ | .int _, _ | .str _, _ => by simp only [noDct]
  | .list xs, h => by
    simp only [noDct]
    exact noDcts_lay (by simpa [PyData.canLay0] using h)
  | .tuple xs, h => by
    simp only [noDct]
    exact noDcts_lay (by simpa [PyData.canLay0] using h)
  | .dict _, h => nomatch h
theorem noDcts_lay : ∀ {ds : List D}, PyData.canLayAll0 ds = true → noDcts ds = true
  | [], _ => by simp only [noDcts]
  | d :: r, h => by
    simp only [PyData.canLayAll0, Bool.and_eq_true] at h
    simp only [noDcts, Bool.and_eq_true]
    exact ⟨noDct_lay h.1, noDcts_lay h.2⟩
end
mutual
theorem noDct_alike : ∀ {d : D}, PySem.W.alike d d = true → noDct d = true
  | .none, _ | .bool _, _ | .int _, _ | .str _, _ => by simp only [noDct]
  | .list xs, h => by
    simp only [noDct]
    exact noDcts_alike (by simpa [PySem.W.alike] using h)
  | .tuple xs, h => by
    simp only [noDct]
    exact noDcts_alike (by simpa [PySem.W.alike] using h)
  | .dict _, h => by simp [PySem.W.alike] at h
theorem noDcts_alike : ∀ {ds : List D}, PySem.W.alikeAll ds ds = true → noDcts ds = true
  | [], _ => by simp only [noDcts]
  | d :: r, h => by
    simp only [PySem.W.alikeAll, Bool.and_eq_true] at h
    simp only [noDcts, Bool.and_eq_true]
    exact ⟨noDct_alike h.1, noDcts_alike h.2⟩
end
mutual
theorem dpOut {K : PySem.W.Frag} {F : Hp} : ∀ {v : V} {d : D}, noDct d = true → Dp K F v d → L2.Dp K F v d
  | _, _, _, .non => .non
  | _, _, _, .bl b => .bl b
  | _, _, _, .int i => .int i
  | _, _, _, .str x => .str x
  | _, _, h, .lst q r => .lst q (daOut (by simpa only [noDct] using h) r)
  | _, _, h, .tup q r => .tup q (daOut (by simpa only [noDct] using h) r)
  | _, _, h, .dct _ => by simp only [noDct, Bool.false_eq_true] at h
theorem daOut {K : PySem.W.Frag} {F : Hp} : ∀ {vs : List V} {ds : List D}, noDcts ds = true → DpAll K F vs ds → L2.DpAll K F vs ds
  | _, _, _, .nil => .nil
  | _, _, h, .cons a b => by
    simp only [noDcts, Bool.and_eq_true] at h
    exact .cons (dpOut h.1 a) (daOut h.2 b)
end
theorem dpOutS {K : PySem.W.Frag} {F : Hp} {v : V} {d : D} (h : SeqAt.shaped d = true) (a : Dp K F v d) : L2.Dp K F v d := dpOut (noDct_lay (SeqAt.canLay_of_shaped h)) a

/-! ### heaps -/
def Sub (F H : Hp) : Prop := ∀ a o, F a = some o → H a = some o
theorem Sub.refl (F : Hp) : Sub F F := fun _ _ h => h
theorem Sub.trans {F G H : Hp} (a : Sub F G) (b : Sub G H) : Sub F H := fun c o h => b c o (a c o h)
theorem Sub.upd {F H : Hp} {a : Addr} {o : HO} (s : Sub F H) (n : F a = none) : Sub F (upd H a o) := fun c u h => by
  by_cases e : c = a
  · subst e; rw [n] at h; cases h
  · rw [upd_ne e]; exact s c u h
theorem Sub.none {F H : Hp} {a : Addr} (s : Sub F H) (n : H a = none) : F a = none := by
  cases q : F a with
  | none => rfl
  | some o => rw [s a o q] at n; cases n
theorem Sub.upd2 {F H : Hp} {a : Addr} {o : HO} (s : Sub F H) : Sub (L2.upd F a o) (L2.upd H a o) := fun c u h => by
  by_cases e : c = a
  · subst e; rw [upd_same] at h ⊢; exact h
  · rw [upd_ne e] at h ⊢; exact s c u h
theorem Sub.add {F H : Hp} {a : Addr} {o : HO} (s : Sub F H) (h : H a = some o) : Sub (L2.upd F a o) H := fun c u q => by
  by_cases e : c = a
  · subst e; rw [upd_same] at q; rw [h]; exact q
  · rw [upd_ne e] at q; exact s c u q
section
variable {K : PySem.W.Frag} {F G H : Hp}
theorem rdSub {a : Addr} {u : HO} (s : Sub F G) (r : Rd F a u) : Rd G a u := by
  rcases r with r | ⟨o, r⟩
  · exact .inl (s _ _ r)
  · exact .inr ⟨o, s _ _ r⟩
theorem sqtSub {a : Addr} {xs : List V} (s : Sub F G) (r : SqT K F a xs) : SqT K G a xs := by
  rcases r with r | r
  · exact .inl (rdSub s r)
  · exact .inr r
theorem sqlSub {a : Addr} {xs : List V} (s : Sub F G) (r : SqL K F a xs) : SqL K G a xs := by
  rcases r with r | r
  · exact .inl (rdSub s r)
  · exact .inr r
mutual
theorem dpSub (s : Sub F G) : ∀ {v : V} {d : D}, Dp K F v d → Dp K G v d
  | _, _, .non => .non
  | _, _, .bl b => .bl b
  | _, _, .int i => .int i
  | _, _, .str x => .str x
  | _, _, .lst q r => .lst (sqlSub s q) (daSub s r)
  | _, _, .tup q r => .tup (sqtSub s q) (daSub s r)
  | _, _, .dct q => .dct (s _ _ q)
theorem daSub (s : Sub F G) : ∀ {vs : List V} {ds : List D}, DpAll K F vs ds → DpAll K G vs ds
  | _, _, .nil => .nil
  | _, _, .cons a b => .cons (dpSub s a) (daSub s b)
end
theorem daLen : ∀ {vs : List V} {ds : List D}, DpAll K F vs ds → vs.length = ds.length
  | _, _, .nil => rfl
  | _, _, .cons _ b => by simp [daLen b]
theorem daGet : ∀ {vs : List V} {ds : List D} {i : Nat} {v : V}, DpAll K F vs ds → vs[i]? = some v → ∃ d, ds[i]? = some d ∧ Dp K F v d
  | _, _, _, _, .nil, h => by simp at h
  | _, _, 0, v, .cons a _, h => by simp at h; subst h; exact ⟨_, rfl, a⟩
  | _, _, i + 1, v, .cons _ b, h => by
    obtain ⟨d, h1, h2⟩ := daGet (i := i) (v := v) b (by simpa using h)
    exact ⟨d, by simpa using h1, h2⟩
theorem daGet' : ∀ {vs : List V} {ds : List D} {i : Nat} {d : D}, DpAll K F vs ds → ds[i]? = some d → ∃ v, vs[i]? = some v ∧ Dp K F v d
  | _, _, _, _, .nil, h => by simp at h
  | _, _, 0, v, .cons a _, h => by simp at h; subst h; exact ⟨_, rfl, a⟩
  | _, _, i + 1, v, .cons _ b, h => by
    obtain ⟨d, h1, h2⟩ := daGet' (i := i) (d := v) b (by simpa using h)
    exact ⟨d, by simpa using h1, h2⟩
theorem daApp : ∀ {vs ws : List V} {ds es : List D}, DpAll K F vs ds → DpAll K F ws es → DpAll K F (vs ++ ws) (ds ++ es)
  | _, _, _, _, .nil, h => h
  | _, _, _, _, .cons a b, h => .cons a (daApp b h)
theorem daSet {v : V} {d : D} (r : Dp K F v d) : ∀ {vs : List V} {ds : List D} (i : Nat), DpAll K F vs ds → DpAll K F (vs.set i v) (ds.set i d)
  | _, _, _, .nil => .nil
  | _, _, 0, .cons _ b => .cons r b
  | _, _, i + 1, .cons a b => .cons a (daSet r i b)
theorem daTake : ∀ {vs : List V} {ds : List D} (n : Nat), DpAll K F vs ds → DpAll K F (vs.take n) (ds.take n)
  | _, _, 0, _ => .nil
  | _, _, _ + 1, .nil => .nil
  | _, _, n + 1, .cons a b => .cons a (daTake n b)
theorem daDrop : ∀ {vs : List V} {ds : List D} (n : Nat), DpAll K F vs ds → DpAll K F (vs.drop n) (ds.drop n)
  | _, _, 0, r => r
  | _, _, _ + 1, .nil => .nil
  | _, _, n + 1, .cons _ b => daDrop n b
theorem daRev : ∀ {vs : List V} {ds : List D}, DpAll K F vs ds → DpAll K F vs.reverse ds.reverse
  | _, _, .nil => .nil
  | _, _, .cons a b => by
    rw [List.reverse_cons, List.reverse_cons]
    exact daApp (daRev b) (.cons a .nil)
theorem daRep {vs : List V} {ds : List D} (h : DpAll K F vs ds) : ∀ n : Nat, DpAll K F (List.replicate n vs).flatten (List.replicate n ds).flatten
  | 0 => .nil
  | n + 1 => by
    rw [List.replicate_succ, List.replicate_succ, List.flatten_cons, List.flatten_cons]
    exact daApp h (daRep h n)
theorem daDropLast : ∀ {vs : List V} {ds : List D}, DpAll K F vs ds → DpAll K F vs.dropLast ds.dropLast := fun {vs ds} h => by
  rw [List.dropLast_eq_take, List.dropLast_eq_take, ← daLen h]
  exact daTake _ h
theorem cutV_eq (xs : List V) (lo hi : Option Int) : cutV xs lo hi = cut xs lo hi := rfl
theorem daCut {vs : List V} {ds : List D} (h : DpAll K F vs ds) (lo hi : Option Int) : DpAll K F (cut vs lo hi) (cut ds lo hi) := by
  unfold Rc.cut
  rw [daLen h]
  exact daTake _ (daDrop _ h)
theorem dpInt {v : V} {i : Int} (h : Dp K F v (.int i)) : v = .int i := by cases h; rfl
theorem dpBl {v : V} {i : Bool} (h : Dp K F v (.bool i)) : v = .bl i := by cases h; rfl
theorem dpStr {v : V} {i : Str} (h : Dp K F v (.str i)) : v = .str i := by cases h; rfl
theorem dpNon {v : V} (h : Dp K F v .none) : v = .non := by cases h; rfl
theorem dpLst {v : V} {ds : List D} (h : Dp K F v (.list ds)) : ∃ a vs, v = .ref a ∧ SqL K F a vs ∧ DpAll K F vs ds := by
  cases h with
  | lst q r => exact ⟨_, _, rfl, q, r⟩
theorem dpTup {v : V} {ds : List D} (h : Dp K F v (.tuple ds)) : ∃ a vs, v = .ref a ∧ SqT K F a vs ∧ DpAll K F vs ds := by
  cases h with
  | tup q r => exact ⟨_, _, rfl, q, r⟩
theorem dpIsNon {v : V} {d : D} (h : Dp K F v d) : decide (v = .non) = isNone d := by
  cases h <;> rfl
theorem asInts_of : ∀ {vs : List V} {ds : List D} {ns : List Int}, DpAll K F vs ds → asInts ds = some ns → vs = ns.map V.int
  | _, _, _, .nil, h => by simp [asInts] at h; subst h; rfl
  | _, _, ns, .cons (d := d) a b, h => by
    cases d with
    | int i =>
      simp only [asInts, Option.map_eq_some_iff] at h
      obtain ⟨r, h1, h2⟩ := h
      subst h2
      rw [dpInt a, asInts_of b h1]
      rfl
    | _ => simp [asInts] at h
theorem asBools_of : ∀ {vs : List V} {ds : List D} {ns : List Bool}, DpAll K F vs ds → asBools ds = some ns → vs = ns.map V.bl
  | _, _, _, .nil, h => by simp [asBools] at h; subst h; rfl
  | _, _, ns, .cons (d := d) a b, h => by
    cases d with
    | bool i =>
      simp only [asBools, Option.map_eq_some_iff] at h
      obtain ⟨r, h1, h2⟩ := h
      subst h2
      rw [dpBl a, asBools_of b h1]
      rfl
    | _ => simp [asBools] at h
end

/-- a frame's ground: the heap that it was called in, and which list is lent to it -/
structure Zn where
  h : Hp
  l : Addr → Prop
def Zn.no (Z : Zn) (p : Addr) : Prop := Z.h p = none ∧ ¬ Z.l p
def Zn.of (H : Hp) : Zn := ⟨H, fun _ => False⟩
/-- all but what is lent stays -/
def SubZ (Z : Zn) (G H : Hp) : Prop := ∀ a o, ¬ Z.l a → G a = some o → H a = some o
theorem SubZ.refl {Z : Zn} (H : Hp) : SubZ Z H H := fun _ _ _ h => h
theorem SubZ.trans {Z : Zn} {F G H : Hp} (a : SubZ Z F G) (b : SubZ Z G H) : SubZ Z F H := fun c o n h => b c o n (a c o n h)
theorem SubZ.of {Z : Zn} {G H : Hp} (s : Same G H) : SubZ Z G H := fun a o _ h => s a o h
theorem SubZ.same {G G0 H : Hp} (s : SubZ (Zn.of G0) G H) : Same G H := fun a o h => s a o (fun z => z) h
theorem SubZ.upd {Z : Zn} {G H : Hp} {a : Addr} {o : HO} (s : SubZ Z G H) (n : G a = none) : SubZ Z G (upd H a o) := fun c u m h => by
  by_cases e : c = a
  · subst e; rw [n] at h; cases h
  · rw [upd_ne e]; exact s c u m h
/-! ### dicts -/
/-- keys whole numbers -/
inductive KvI (K : PySem.W.Frag) (F : Hp) : List (Key × V) → List (Int × D) → Prop
  | nil : KvI K F [] []
  | cons {i : Int} {v : V} {d : D} {r : List (Key × V)} {t : List (Int × D)} : Dp K F v d → KvI K F r t → KvI K F ((.inl i, v) :: r) ((i, d) :: t)
/-- keys tuples of whole numbers: each key, where it stands, the value -/
inductive KvT (K : PySem.W.Frag) (F : Hp) : List (List Int × Addr × Value) → List (List Int × D) → Prop
  | nil : KvT K F [] []
  | cons {k : List Int} {a : Addr} {v : V} {u : Value} {d : D} {r : List (List Int × Addr × Value)} {t : List (List Int × D)} : Dp K F (.ref a) (.tuple (k.map .int)) → RelV v u → Dp K F v d → KvT K F r t → KvT K F ((k, a, u) :: r) ((k, d) :: t)
def hshT (k : List Int) : Int := reduceHash (Builtin.Tuple.tupleHashOf (k.map hashInt))
def entT (x : List Int × Addr × Value) : DictEntry := ⟨hshT x.1, .ref x.2.1, x.2.2⟩
/-- the dict's object -/
def TbAt (p : Addr) (xs : List (List Int × Addr × Value)) (h : Heap) : Prop := ∃ o es ep, h.get? p = some o ∧ o.ExactDict ∧ o.data = .dict es ep ∧ es.toList = xs.map entT ∧ (xs.map (·.1)).Nodup ∧ xs.length ≤ sizeLine ∧ (p == sysModules) = false
def DcAt (K : PySem.W.Frag) (F H : Hp) (p : Addr) : Val → Prop
  | .dI kvs => ∃ vs, H p = some (.dK vs) ∧ KvI K F vs kvs
  | .dT kvs => ∃ xs, H p = some (.ext (TbAt p xs)) ∧ KvT K F xs kvs
  | _ => False
theorem KvI.mono {K : PySem.W.Frag} {F F' : Hp} (s : Sub F F') {a : List (Key × V)} {b : List (Int × D)} (h : KvI K F a b) : KvI K F' a b := by
  induction h with
  | nil => exact .nil
  | cons d _ ih => exact .cons (dpSub s d) ih
theorem KvT.mono {K : PySem.W.Frag} {F F' : Hp} (s : Sub F F') {a : List (List Int × Addr × Value)} {b : List (List Int × D)} (h : KvT K F a b) : KvT K F' a b := by
  induction h with
  | nil => exact .nil
  | cons k r d _ ih => exact .cons (dpSub s k) r (dpSub s d) ih
theorem DcAt.mono {K : PySem.W.Frag} {F F' H H' : Hp} {p : Addr} {v : Val} (s : Sub F F') (t : ∀ o, H p = some o → H' p = some o) (h : DcAt K F H p v) : DcAt K F' H' p v := by
  cases v with
  | dI kvs => obtain ⟨vs, h1, h2⟩ := h; exact ⟨vs, t _ h1, h2.mono s⟩
  | dT kvs => obtain ⟨vs, h1, h2⟩ := h; exact ⟨vs, t _ h1, h2.mono s⟩
  | _ => exact h.elim
theorem DcAt.there {K : PySem.W.Frag} {F H : Hp} {p : Addr} {v : Val} (h : DcAt K F H p v) : ∃ o, H p = some o ∧ (∀ vs, o ≠ .lst vs) ∧ (∀ vs, o ≠ .tup vs) ∧ Mut (some o) := by
  cases v with
  | dI kvs => obtain ⟨vs, h1, h2⟩ := h; exact ⟨_, h1, (fun _ z => nomatch z), (fun _ z => nomatch z), True.intro⟩
  | dT kvs => obtain ⟨vs, h1, h2⟩ := h; exact ⟨_, h1, (fun _ z => nomatch z), (fun _ z => nomatch z), True.intro⟩
  | _ => exact h.elim
/-- the frame's own dicts -/
structure Dcs (K : PySem.W.Frag) (Z : Zn) (F H : Hp) (σ : St) (ε : Ev) : Prop where
  at_ : ∀ j v, gv ε j = some v → isDc v = true → ∃ p, σ[j]? = some (some (.ref p)) ∧ DcAt K F H p v ∧ F p = none ∧ Z.no p
  uni : ∀ i j u v p, gv ε i = some u → isDc u = true → gv ε j = some v → isDc v = true → σ[i]? = some (some (.ref p)) → σ[j]? = some (some (.ref p)) → i = j
theorem Dcs.sub {K : PySem.W.Frag} {Z Z' : Zn} {F F' H H' : Hp} {σ σ' : St} {ε ε' : Ev} (h : Dcs K Z F H σ ε) (g : ∀ j v, gv ε' j = some v → isDc v = true → gv ε j = some v ∧ σ'[j]? = σ[j]?)
    (s : Sub F F') (t : ∀ p o, H p = some o → (∀ vs, o ≠ .lst vs) → (∀ vs, o ≠ .tup vs) → F p = none → Z.no p → (∃ j : Nat, σ[j]? = some (some (.ref p))) → H' p = some o ∧ F' p = none ∧ Z'.no p) : Dcs K Z' F' H' σ' ε' where
  at_ := fun j v q c => by
    obtain ⟨g1, g2⟩ := g j v q c
    obtain ⟨p, a1, a2, a3, a4⟩ := h.at_ j v g1 c
    obtain ⟨o, e, e1, e2, _⟩ := a2.there
    obtain ⟨t1, t2, t3⟩ := t p o e e1 e2 a3 a4 ⟨j, a1⟩
    exact ⟨p, by rw [g2]; exact a1, a2.mono s (fun o' z => by rw [e] at z; cases z; exact t1), t2, t3⟩
  uni := fun i j u v p a ca b cb ea eb => by
    obtain ⟨g1, g2⟩ := g i u a ca
    obtain ⟨g3, g4⟩ := g j v b cb
    exact h.uni i j u v p g1 ca g3 cb (by rw [← g2]; exact ea) (by rw [← g4]; exact eb)
/-- no dict -/
theorem Dcs.nil {K : PySem.W.Frag} {Z : Zn} {F H : Hp} {σ : St} {ε : Ev} (h : ∀ j v, gv ε j = some v → isDc v = false) : Dcs K Z F H σ ε where
  at_ := fun j v q c => by rw [h j v q] at c; cases c
  uni := fun i j u v p q c => by rw [h i u q] at c; cases c
/-- a name that holds no dict is told otherwise -/
theorem dcGv {ε : Ev} {j : Nat} {o : Option Val} (no : ∀ v, o = some v → isDc v = false) : ∀ i v, gv (pv ε j o) i = some v → isDc v = true → gv ε i = some v ∧ i ≠ j := fun i v q c => by
  rw [gv_pv] at q
  split at q
  · split at q
    · rw [no v q] at c; cases c
    · cases q
  · rename_i hi; exact ⟨q, hi⟩
/-! ### the state told by the small language's names -/
structure Rep (K : PySem.W.Frag) (H0 : Zn) (F0 F H : Hp) (σ : St) (ε : Ev) : Prop where
  fh : Sub F H
  ff : Sub F0 F
  h0 : SubZ H0 H0.h H
  fr : ∀ a o, F a = some o → F0 a = some o ∨ H0.h a = none
  len : σ.length = ε.length
  dat : ∀ j x, gv ε j = some (.d x) → ∃ v, σ[j]? = some (some v) ∧ Dp K F v x
  own : ∀ j xs, gv ε j = some (.own xs) → ∃ p vs, σ[j]? = some (some (.ref p)) ∧ H p = some (.lst vs) ∧ DpAll K F vs xs ∧ F p = none ∧ H0.no p
  uni : ∀ i j xs ys p, gv ε i = some (.own xs) → gv ε j = some (.own ys) → σ[i]? = some (some (.ref p)) → σ[j]? = some (some (.ref p)) → i = j
  lnt : ∀ j xs, gv ε j = some (.lent xs) → ∃ p vs, σ[j]? = some (some (.ref p)) ∧ H p = some (.lst vs) ∧ DpAll K F vs xs ∧ F p = none ∧ H0.l p
  one : ∀ i j xs ys p, gv ε i = some (.lent xs) → gv ε j = some (.lent ys) → σ[i]? = some (some (.ref p)) → σ[j]? = some (some (.ref p)) → i = j
  ll : ∀ a, H0.l a → (∃ o, H a = some o) ∧ F a = none
  dcs : Dcs K H0 F H σ ε
theorem Rep.no {K : PySem.W.Frag} {H0 : Zn} {F0 F H : Hp} {σ : St} {ε : Ev} (R : Rep K H0 F0 F H σ ε) {p : Addr} (h : H p = none) : H0.no p := by
  have nl : ¬ H0.l p := fun z => by
    obtain ⟨⟨o, e⟩, _⟩ := R.ll p z
    rw [h] at e; cases e
  refine ⟨?_, nl⟩
  cases q : H0.h p with
  | none => rfl
  | some o => rw [R.h0 p o nl q] at h; cases h
/-- p is no name's own list -/
def Off (σ : St) (ε : Ev) (p : Addr) : Prop := ∀ j ys, gv ε j = some (.own ys) → σ[j]? ≠ some (some (.ref p))
def VAt (K : PySem.W.Frag) (H0 : Zn) (F H : Hp) (σ : St) (ε : Ev) (v : V) : Val → Prop
  | .d x => Dp K F v x
  | .own xs => ∃ p vs, v = .ref p ∧ H p = some (.lst vs) ∧ DpAll K F vs xs ∧ F p = none ∧ H0.no p ∧ Off σ ε p
  | .two x xs => Dp K F v x ∧ ∃ p vs, H p = some (.lst vs) ∧ DpAll K F vs xs ∧ F p = none ∧ H0.l p
  | .twoO ys xs => (∃ p vs, v = .ref p ∧ H p = some (.lst vs) ∧ DpAll K F vs ys ∧ F p = none ∧ H0.no p) ∧ ∃ p vs, H p = some (.lst vs) ∧ DpAll K F vs xs ∧ F p = none ∧ H0.l p
  | _ => False
/-- a value that a look alone was taken at -/
def PAt (K : PySem.W.Frag) (H0 : Zn) (F H : Hp) (v : V) (x : D) : Prop := Dp K F v x ∨ ∃ p vs xs, v = .ref p ∧ x = .list xs ∧ H p = some (.lst vs) ∧ DpAll K F vs xs ∧ ¬ H0.l p
section
variable {K : PySem.W.Frag} {H0 : Zn} {F0 F H F' H' : Hp} {σ : St} {ε : Ev}
theorem PAt.dp {v : V} {x : D} (s : Sub F H) (h : PAt K H0 F H v x) : Dp K H v x := by
  rcases h with h | ⟨p, vs, xs, rfl, rfl, h1, h2, _⟩
  · exact dpSub s h
  · exact .lst (.inl (.inl h1)) (daSub s h2)
theorem PAt.mono {v : V} {x : D} (s : Sub F F') (t : SubZ H0 H H') (h : PAt K H0 F H v x) : PAt K H0 F' H' v x := by
  rcases h with h | ⟨p, vs, xs, rfl, rfl, h1, h2, h3⟩
  · exact .inl (dpSub s h)
  · exact .inr ⟨p, vs, xs, rfl, rfl, t _ _ h3 h1, daSub s h2, h3⟩
/-- new things stand behind -/
def New (F F' H : Hp) : Prop := ∀ a o, F' a = some o → F a = some o ∨ H a = none
theorem Rep.grow (R : Rep K H0 F0 F H σ ε) (t : Same H H') (s : Sub F F') (fh : Sub F' H') (n : New F F' H) : Rep K H0 F0 F' H' σ ε where
  fh := fh
  ff := R.ff.trans s
  h0 := R.h0.trans (.of t)
  fr := fun a o h => by
    rcases n a o h with q | q
    · exact R.fr a o q
    · exact .inr (R.no q).1
  len := R.len
  dat := fun j x h => let ⟨v, e, d⟩ := R.dat j x h; ⟨v, e, dpSub s d⟩
  own := fun j xs h => by
    obtain ⟨p, vs, e, h1, h2, h3, h4⟩ := R.own j xs h
    refine ⟨p, vs, e, t _ _ h1, daSub s h2, ?_, h4⟩
    cases z : F' p with
    | none => rfl
    | some u =>
      rcases n p u z with q | q
      · rw [h3] at q; cases q
      · rw [h1] at q; cases q
  uni := R.uni
  lnt := fun j xs h => by
    obtain ⟨p, vs, e, h1, h2, h3, h4⟩ := R.lnt j xs h
    refine ⟨p, vs, e, t _ _ h1, daSub s h2, ?_, h4⟩
    cases z : F' p with
    | none => rfl
    | some u =>
      rcases n p u z with q | q
      · rw [h3] at q; cases q
      · rw [h1] at q; cases q
  one := R.one
  ll := fun a h => by
    obtain ⟨⟨o, e⟩, f⟩ := R.ll a h
    refine ⟨⟨o, t _ _ e⟩, ?_⟩
    cases z : F' a with
    | none => rfl
    | some u =>
      rcases n a u z with q | q
      · rw [f] at q; cases q
      · rw [e] at q; cases q
  dcs := R.dcs.sub (fun j v h _ => ⟨h, rfl⟩) s fun p o e _ _ f z _ => ⟨t _ _ e, (by
    cases q : F' p with
    | none => rfl
    | some u =>
      rcases n p u q with g | g
      · rw [f] at g; cases g
      · rw [e] at g; cases g), z⟩
theorem New.refl : New F F H := fun _ _ h => .inl h
theorem New.add {a : Addr} {o : HO} (h : H a = none) : New F (upd F a o) H := fun b u q => by
  by_cases e : b = a
  · subst e; exact .inr h
  · rw [upd_ne e] at q; exact .inl q
theorem same_upd {a : Addr} {o : HO} (h : H a = none) : Same H (upd H a o) := fun b u q => by
  rw [upd_ne (ne_of_none q h)]; exact q
theorem sub_updF {a : Addr} {o : HO} (h : F a = none) : Sub F (upd F a o) := fun b u q => by
  rw [upd_ne (ne_of_none q h)]; exact q
/-- a new tuple -/
theorem Rep.tup (R : Rep K H0 F0 F H σ ε) {p : Addr} (o : HO) (hp : H p = none) : Rep K H0 F0 (upd F p o) (upd H p o) σ ε :=
  R.grow (same_upd hp) (sub_updF (R.fh.none hp)) R.fh.upd2 (.add hp)
/-- a new list, nobody's yet -/
theorem Rep.lst (R : Rep K H0 F0 F H σ ε) {p : Addr} (o : HO) (hp : H p = none) : Rep K H0 F0 F (upd H p o) σ ε :=
  R.grow (same_upd hp) (Sub.refl F) (R.fh.upd (R.fh.none hp)) .refl
theorem Rep.offNew (R : Rep K H0 F0 F H σ ε) {p : Addr} (hp : H p = none) : Off σ ε p := fun j ys h e => by
  obtain ⟨q, vs, e1, h1, _⟩ := R.own j ys h
  rw [e] at e1
  have : p = q := by simpa using e1
  subst this
  rw [hp] at h1; cases h1
theorem VAt.newL (R : Rep K H0 F0 F H σ ε) {p : Addr} {vs : List V} {xs : List D} (hp : H p = none) (d : DpAll K F vs xs) : VAt K H0 F (upd H p (.lst vs)) σ ε (.ref p) (.own xs) :=
  ⟨p, vs, rfl, upd_same, d, R.fh.none hp, R.no hp, R.offNew hp⟩
/-- an own thing that is held: it stands still from now on -/
theorem Rep.freeze (R : Rep K H0 F0 F H σ ε) {v : V} {x : Val} (h : VAt K H0 F H σ ε v x) {d : D} (e : (match x with | .d y => some y | .own xs => some (.list xs) | _ => none) = some d) :
    ∃ F', Sub F F' ∧ Rep K H0 F0 F' H σ ε ∧ Dp K F' v d := by
  cases x with
  | d y => cases e; exact ⟨F, .refl F, R, h⟩
  | own xs =>
    cases e
    obtain ⟨p, vs, rfl, h1, h2, h3, h4, h5⟩ := h
    have sb : Sub F (upd F p (.lst vs)) := sub_updF h3
    refine ⟨upd F p (.lst vs), sb, ⟨R.fh.add h1, R.ff.trans sb, R.h0, fun a o q => ?_, R.len, fun j y q => ?_, fun j ys q => ?_, R.uni, fun j ys q => ?_, R.one, fun a q => ?_, R.dcs.sub (fun j v h _ => ⟨h, rfl⟩) sb fun q o e n1 _ f z _ => ⟨e, by rw [upd_ne (fun w => n1 vs (by rw [w, h1] at e; exact (Option.some.inj e).symm))]; exact f, z⟩⟩, .lst (.inl (.inl upd_same)) (daSub sb h2)⟩
    · by_cases e : a = p
      · subst e; exact .inr h4.1
      · rw [upd_ne e] at q; exact R.fr a o q
    · obtain ⟨w, e, q⟩ := R.dat j y q
      exact ⟨w, e, dpSub sb q⟩
    · obtain ⟨r, ws, e1, g1, g2, g3, g4⟩ := R.own j ys q
      have ne : r ≠ p := fun z => by subst z; exact h5 j ys q e1
      exact ⟨r, ws, e1, g1, daSub sb g2, by rw [upd_ne ne]; exact g3, g4⟩
    · obtain ⟨r, ws, e1, g1, g2, g3, g4⟩ := R.lnt j ys q
      have ne : r ≠ p := fun z => by subst z; exact h4.2 g4
      exact ⟨r, ws, e1, g1, daSub sb g2, by rw [upd_ne ne]; exact g3, g4⟩
    · have ne : a ≠ p := fun z => by subst z; exact h4.2 q
      obtain ⟨g1, g2⟩ := R.ll a q
      exact ⟨g1, by rw [upd_ne ne]; exact g2⟩
  | many _ => cases e
  | exc _ => cases e
  | lent _ => cases e
  | two _ _ => cases e
  | twoO _ _ => cases e
  | dI _ => cases e
  | dT _ => cases e
theorem σlt {σ : St} {j : Nat} {v : V} (h : σ[j]? = some (some v)) : j < σ.length := (List.getElem?_eq_some_iff.mp h).1
/-- a name is told less of -/
theorem Rep.forget (R : Rep K H0 F0 F H σ ε) (j : Nat) : Rep K H0 F0 F H σ (pv ε j none) where
  fh := R.fh
  ff := R.ff
  h0 := R.h0
  fr := R.fr
  len := by rw [pv_len]; exact R.len
  dat := fun i x h => by
    rw [gv_pv] at h
    split at h
    · split at h <;> cases h
    · exact R.dat i x h
  own := fun i x h => by
    rw [gv_pv] at h
    split at h
    · split at h <;> cases h
    · exact R.own i x h
  uni := fun i k xs ys p a b => by
    rw [gv_pv] at a b
    split at a
    · split at a <;> cases a
    · split at b
      · split at b <;> cases b
      · exact R.uni i k xs ys p a b
  lnt := fun i x h => by
    rw [gv_pv] at h
    split at h
    · split at h <;> cases h
    · exact R.lnt i x h
  one := fun i k xs ys p a b => by
    rw [gv_pv] at a b
    split at a
    · split at a <;> cases a
    · split at b
      · split at b <;> cases b
      · exact R.one i k xs ys p a b
  ll := R.ll
  dcs := R.dcs.sub (fun i v h c => ⟨(dcGv (fun _ z => by cases z) i v h c).1, rfl⟩) (.refl _) fun p o e _ _ f z _ => ⟨e, f, z⟩
/-- a name's own list stands still from now on -/
theorem Rep.stillX (R : Rep K H0 F0 F H σ ε) {j : Nat} {xs : List D} (h : gv ε j = some (.own xs)) :
    ∃ v F', σ[j]? = some (some v) ∧ Sub F F' ∧ Rep K H0 F0 F' H σ (pv ε j (some (.d (.list xs)))) ∧ Dp K F' v (.list xs) ∧ ∃ p vs, v = .ref p ∧ F' p = some (.lst vs) := by
  obtain ⟨p, vs, e, h1, h2, h3, h4⟩ := R.own j xs h
  have sb : Sub F (upd F p (.lst vs)) := sub_updF h3
  have dd : Dp K (upd F p (.lst vs)) (.ref p) (.list xs) := .lst (.inl (.inl upd_same)) (daSub sb h2)
  refine ⟨.ref p, upd F p (.lst vs), e, sb, ⟨R.fh.add h1, R.ff.trans sb, R.h0, fun a o q => ?_, by rw [pv_len]; exact R.len, fun i y q => ?_, fun i ys q => ?_, fun i k ys zs r a b => ?_, fun i ys q => ?_, fun i k ys zs r a b => ?_, fun a q => ?_, R.dcs.sub (fun i v h c => ⟨(dcGv (fun _ z => by cases z; rfl) i v h c).1, rfl⟩) sb fun q o e n1 _ f z _ => ⟨e, by rw [upd_ne (fun w => n1 vs (by rw [w, h1] at e; exact (Option.some.inj e).symm))]; exact f, z⟩⟩, dd, p, vs, rfl, upd_same⟩
  · by_cases e : a = p
    · subst e; exact .inr h4.1
    · rw [upd_ne e] at q; exact R.fr a o q
  · rw [gv_pv] at q
    split at q
    · rename_i hi
      subst hi
      split at q
      · cases q; exact ⟨_, e, dd⟩
      · cases q
    · obtain ⟨w, e, q⟩ := R.dat i y q
      exact ⟨w, e, dpSub sb q⟩
  · rw [gv_pv] at q
    split at q
    · split at q <;> cases q
    · rename_i hi
      obtain ⟨r, ws, e1, g1, g2, g3, g4⟩ := R.own i ys q
      have ne : r ≠ p := fun z => by subst z; exact hi (R.uni i j ys xs r q h e1 e)
      exact ⟨r, ws, e1, g1, daSub sb g2, by rw [upd_ne ne]; exact g3, g4⟩
  · rw [gv_pv] at a b
    split at a
    · split at a <;> cases a
    · split at b
      · split at b <;> cases b
      · exact R.uni i k ys zs r a b
  · rw [gv_pv] at q
    split at q
    · split at q <;> cases q
    · obtain ⟨r, ws, e1, g1, g2, g3, g4⟩ := R.lnt i ys q
      have ne : r ≠ p := fun z => by subst z; exact h4.2 g4
      exact ⟨r, ws, e1, g1, daSub sb g2, by rw [upd_ne ne]; exact g3, g4⟩
  · rw [gv_pv] at a b
    split at a
    · split at a <;> cases a
    · split at b
      · split at b <;> cases b
      · exact R.one i k ys zs r a b
  · have ne : a ≠ p := fun z => by subst z; exact h4.2 q
    obtain ⟨g1, g2⟩ := R.ll a q
    exact ⟨g1, by rw [upd_ne ne]; exact g2⟩
theorem Rep.still (R : Rep K H0 F0 F H σ ε) {j : Nat} {xs : List D} (h : gv ε j = some (.own xs)) :
    ∃ v F', σ[j]? = some (some v) ∧ Sub F F' ∧ Rep K H0 F0 F' H σ (pv ε j (some (.d (.list xs)))) ∧ Dp K F' v (.list xs) := by
  obtain ⟨v, F', a, b, c, d, _⟩ := R.stillX h
  exact ⟨v, F', a, b, c, d⟩
/-- a name's own list is handed on -/
theorem Rep.move (R : Rep K H0 F0 F H σ ε) {j : Nat} {xs : List D} (h : gv ε j = some (.own xs)) :
    ∃ v, σ[j]? = some (some v) ∧ Rep K H0 F0 F H σ (pv ε j none) ∧ VAt K H0 F H σ (pv ε j none) v (.own xs) := by
  obtain ⟨p, vs, e, h1, h2, h3, h4⟩ := R.own j xs h
  refine ⟨.ref p, e, R.forget j, p, vs, rfl, h1, h2, h3, h4, fun i ys q z => ?_⟩
  rw [gv_pv] at q
  split at q
  · split at q <;> cases q
  · rename_i hi
    exact hi (R.uni i j ys xs p q h z e)
/-- a name takes a value -/
theorem Rep.store (R : Rep K H0 F0 F H σ ε) {v : V} {x : Val} (h : VAt K H0 F H σ ε v x) (j : Nat) : Rep K H0 F0 F H (σ.set j (some v)) (pv ε j (some x)) where
  fh := R.fh
  ff := R.ff
  h0 := R.h0
  fr := R.fr
  len := by rw [pv_len, List.length_set]; exact R.len
  dat := fun i y q => by
    rw [gv_pv] at q
    split at q
    · rename_i hi
      subst hi
      split at q
      · rename_i hl
        cases q
        exact ⟨v, by rw [List.getElem?_set_self (by rw [R.len]; exact hl)], h⟩
      · cases q
    · rename_i hi
      obtain ⟨w, e, d⟩ := R.dat i y q
      exact ⟨w, by rw [List.getElem?_set_ne (Ne.symm hi)]; exact e, d⟩
  own := fun i ys q => by
    rw [gv_pv] at q
    split at q
    · rename_i hi
      subst hi
      split at q
      · rename_i hl
        cases q
        obtain ⟨p, vs, rfl, h1, h2, h3, h4, h5⟩ := h
        exact ⟨p, vs, by rw [List.getElem?_set_self (by rw [R.len]; exact hl)], h1, h2, h3, h4⟩
      · cases q
    · rename_i hi
      obtain ⟨w, ws, e, d⟩ := R.own i ys q
      exact ⟨w, ws, by rw [List.getElem?_set_ne (Ne.symm hi)]; exact e, d⟩
  uni := fun i k xs ys p a b ea eb => by
    rw [gv_pv] at a b
    split at a
    · rename_i hi
      split at b
      · rename_i hk; rw [hi, hk]
      · rename_i hk
        split at a
        · rename_i hl
          cases a
          rw [hi, List.getElem?_set_self (by rw [R.len]; exact hl)] at ea
          rw [List.getElem?_set_ne (Ne.symm hk)] at eb
          obtain ⟨p', vs, rfl, h1, h2, h3, h4, h5⟩ := h
          have : p' = p := by simpa using ea
          subst this
          exact absurd eb (h5 k ys b)
        · cases a
    · rename_i hi
      rw [List.getElem?_set_ne (Ne.symm hi)] at ea
      split at b
      · rename_i hk
        split at b
        · rename_i hl
          cases b
          rw [hk, List.getElem?_set_self (by rw [R.len]; exact hl)] at eb
          obtain ⟨p', vs, rfl, h1, h2, h3, h4, h5⟩ := h
          have : p' = p := by simpa using eb
          subst this
          exact absurd ea (h5 i xs a)
        · cases b
      · rename_i hk
        rw [List.getElem?_set_ne (Ne.symm hk)] at eb
        exact R.uni i k xs ys p a b ea eb
  lnt := fun i ys q => by
    rw [gv_pv] at q
    split at q
    · split at q
      · cases q; exact h.elim
      · cases q
    · rename_i hi
      obtain ⟨w, ws, e, d⟩ := R.lnt i ys q
      exact ⟨w, ws, by rw [List.getElem?_set_ne (Ne.symm hi)]; exact e, d⟩
  one := fun i k xs ys p a b ea eb => by
    rw [gv_pv] at a b
    split at a
    · split at a
      · cases a; exact h.elim
      · cases a
    · rename_i hi
      split at b
      · split at b
        · cases b; exact h.elim
        · cases b
      · rename_i hk
        rw [List.getElem?_set_ne (Ne.symm hi)] at ea
        rw [List.getElem?_set_ne (Ne.symm hk)] at eb
        exact R.one i k xs ys p a b ea eb
  ll := R.ll
  dcs := R.dcs.sub (fun i w q c => by
    have no : ∀ w, some x = some w → isDc w = false := fun w z => by
      cases z
      cases x with
      | dI _ => exact h.elim
      | dT _ => exact h.elim
      | _ => rfl
    obtain ⟨g1, g2⟩ := dcGv no i w q c
    exact ⟨g1, List.getElem?_set_ne (Ne.symm g2)⟩) (.refl _) fun p o e _ _ f z _ => ⟨e, f, z⟩
/-- a name's own list is changed -/
theorem Rep.change (R : Rep K H0 F0 F H σ ε) {j : Nat} {xs ys : List D} {p : Addr} {ws : List V} (h : gv ε j = some (.own xs)) (e : σ[j]? = some (some (.ref p))) (d : DpAll K F ws ys) :
    Rep K H0 F0 F (upd H p (.lst ws)) σ (pv ε j (some (.own ys))) := by
  obtain ⟨p', vs, e', h1, h2, h3, h4⟩ := R.own j xs h
  have : p' = p := by rw [e'] at e; simpa using e
  subst this
  refine ⟨R.fh.upd h3, R.ff, R.h0.upd h4.1, R.fr, by rw [pv_len]; exact R.len, fun i y q => ?_, fun i zs q => ?_, fun i k as bs r a b ea eb => ?_, fun i zs q => ?_, fun i k as bs r a b => ?_, fun a q => ?_,
    R.dcs.sub (fun i v h c => ⟨(dcGv (fun _ z => by cases z; rfl) i v h c).1, rfl⟩) (.refl _) fun q o e n1 _ f z _ => ⟨by rw [upd_ne (fun w => n1 vs (by rw [w, h1] at e; exact (Option.some.inj e).symm))]; exact e, f, z⟩⟩
  · rw [gv_pv] at q
    split at q
    · split at q <;> cases q
    · exact R.dat i y q
  · rw [gv_pv] at q
    split at q
    · rename_i hi
      subst hi
      split at q
      · cases q; exact ⟨p', ws, e, upd_same, d, h3, h4⟩
      · cases q
    · rename_i hi
      obtain ⟨r, us, g1, g2, g3⟩ := R.own i zs q
      have ne : r ≠ p' := fun z => by subst z; exact hi (R.uni i j zs xs r q h g1 e)
      exact ⟨r, us, g1, by rw [upd_ne ne]; exact g2, g3⟩
  · have fix : ∀ {i : Nat} {as : List D}, gv (pv ε j (some (.own ys))) i = some (.own as) → ∃ bs, gv ε i = some (.own bs) := fun {i as} q => by
      rw [gv_pv] at q
      split at q
      · rename_i hi; subst hi; exact ⟨xs, h⟩
      · exact ⟨as, q⟩
    obtain ⟨as', a'⟩ := fix a
    obtain ⟨bs', b'⟩ := fix b
    exact R.uni i k as' bs' r a' b' ea eb
  · rw [gv_pv] at q
    split at q
    · split at q <;> cases q
    · obtain ⟨r, us, g1, g2, g3, g4, g5⟩ := R.lnt i zs q
      have ne : r ≠ p' := fun z => by subst z; exact h4.2 g5
      exact ⟨r, us, g1, by rw [upd_ne ne]; exact g2, g3, g4, g5⟩
  · rw [gv_pv] at a b
    split at a
    · split at a <;> cases a
    · split at b
      · split at b <;> cases b
      · exact R.one i k as bs r a b
  · have ne : a ≠ p' := fun z => by subst z; exact h4.2 q
    obtain ⟨⟨o, g1⟩, g2⟩ := R.ll a q
    exact ⟨⟨o, by rw [upd_ne ne]; exact g1⟩, g2⟩
/-- what is lent is changed, and more things stand -/
theorem Rep.lentTo (R : Rep K H0 F0 F H σ ε) {j : Nat} {xs ys : List D} {p : Addr} {ws : List V} (h : gv ε j = some (.lent xs)) (e : σ[j]? = some (some (.ref p))) (t : ∀ a o, a ≠ p → H a = some o → H' a = some o) (s : Sub F F') (fh : Sub F' H') (n : New F F' H)
    (hp : H' p = some (.lst ws)) (d : DpAll K F' ws ys) (fp : F' p = none) : Rep K H0 F0 F' H' σ (pv ε j (some (.lent ys))) := by
  obtain ⟨p', vs, e', h1, h2, h3, h4⟩ := R.lnt j xs h
  have : p' = p := by rw [e'] at e; simpa using e
  subst this
  have nl : ∀ a, ¬ H0.l a → a ≠ p' := fun a z e => z (e ▸ h4)
  have nf : ∀ {a : Addr} {o : HO}, H a = some o → F a = none → F' a = none := fun {a o} q f => by
    cases z : F' a with
    | none => rfl
    | some u =>
      rcases n a u z with g | g
      · rw [f] at g; cases g
      · rw [q] at g; cases g
  refine ⟨fh, R.ff.trans s, fun a o z q => t a o (nl a z) (R.h0 a o z q), fun a o q => ?_, by rw [pv_len]; exact R.len, fun i y q => ?_, fun i zs q => ?_, fun i k as bs r a b ea eb => ?_, fun i zs q => ?_, fun i k as bs r a b ea eb => ?_, fun a q => ?_,
    R.dcs.sub (fun i v h c => ⟨(dcGv (fun _ z => by cases z; rfl) i v h c).1, rfl⟩) s fun q o e n1 _ f z _ => ⟨t _ _ (nl _ z.2) e, nf e f, z⟩⟩
  · rcases n a o q with q | q
    · exact R.fr a o q
    · exact .inr (R.no q).1
  · rw [gv_pv] at q
    split at q
    · split at q <;> cases q
    · obtain ⟨v, g1, g2⟩ := R.dat i y q
      exact ⟨v, g1, dpSub s g2⟩
  · rw [gv_pv] at q
    split at q
    · split at q <;> cases q
    · obtain ⟨r, us, g1, g2, g3, g4, g5⟩ := R.own i zs q
      exact ⟨r, us, g1, t _ _ (nl _ g5.2) g2, daSub s g3, nf g2 g4, g5⟩
  · rw [gv_pv] at a b
    split at a
    · split at a <;> cases a
    · split at b
      · split at b <;> cases b
      · exact R.uni i k as bs r a b ea eb
  · rw [gv_pv] at q
    split at q
    · rename_i hi
      subst hi
      split at q
      · cases q; exact ⟨p', ws, e, hp, d, fp, h4⟩
      · cases q
    · rename_i hi
      obtain ⟨r, us, g1, g2, g3, g4, g5⟩ := R.lnt i zs q
      have ne : r ≠ p' := fun z => by subst z; exact hi (R.one i j zs xs r q h g1 e)
      exact ⟨r, us, g1, t _ _ ne g2, daSub s g3, nf g2 g4, g5⟩
  · have fix : ∀ {i : Nat} {as : List D}, gv (pv ε j (some (.lent ys))) i = some (.lent as) → ∃ bs, gv ε i = some (.lent bs) := fun {i as} q => by
      rw [gv_pv] at q
      split at q
      · rename_i hi; subst hi; exact ⟨xs, h⟩
      · exact ⟨as, q⟩
    obtain ⟨as', a'⟩ := fix a
    obtain ⟨bs', b'⟩ := fix b
    exact R.one i k as' bs' r a' b' ea eb
  · by_cases ea : a = p'
    · subst ea
      exact ⟨⟨_, hp⟩, fp⟩
    · obtain ⟨⟨o, g1⟩, g2⟩ := R.ll a q
      exact ⟨⟨o, t _ _ ea g1⟩, nf g1 g2⟩
/-- behind an error in a def that had the list -/
theorem Rep.lentGone (R : Rep K H0 F0 F H σ ε) {j : Nat} {xs : List D} {p : Addr} (h : gv ε j = some (.lent xs)) (e : σ[j]? = some (some (.ref p))) (t : ∀ a o, a ≠ p → H a = some o → H' a = some o) (hp : ∃ o, H' p = some o) : Rep K H0 F0 F H' σ (pv ε j none) := by
  obtain ⟨p', vs, e', h1, h2, h3, h4⟩ := R.lnt j xs h
  have : p' = p := by rw [e'] at e; simpa using e
  subst this
  have nl : ∀ a, ¬ H0.l a → a ≠ p' := fun a z e => z (e ▸ h4)
  have R1 := R.forget j
  refine ⟨fun a o q => t a o (fun z => by subst z; rw [h3] at q; cases q) (R.fh a o q), R.ff, fun a o z q => t a o (nl a z) (R.h0 a o z q), R.fr, R1.len, R1.dat, fun i zs q => ?_, R1.uni, fun i zs q => ?_, R1.one, fun a q => ?_,
    R1.dcs.sub (fun i v h c => ⟨h, rfl⟩) (.refl _) fun q o e n1 _ f z _ => ⟨t _ _ (nl _ z.2) e, f, z⟩⟩
  · obtain ⟨r, us, g1, g2, g3, g4, g5⟩ := R1.own i zs q
    exact ⟨r, us, g1, t _ _ (nl _ g5.2) g2, g3, g4, g5⟩
  · rw [gv_pv] at q
    split at q
    · split at q <;> cases q
    · rename_i hi
      obtain ⟨r, us, g1, g2, g3, g4, g5⟩ := R.lnt i zs q
      have ne : r ≠ p' := fun z => by subst z; exact hi (R.one i j zs xs r q h g1 e)
      exact ⟨r, us, g1, t _ _ ne g2, g3, g4, g5⟩
  · by_cases ea : a = p'
    · subst ea
      exact ⟨hp, h3⟩
    · obtain ⟨⟨o, g1⟩, g2⟩ := R.ll a q
      exact ⟨⟨o, t _ _ ea g1⟩, g2⟩
/-- a name takes a dict -/
theorem Rep.dcAny (R : Rep K H0 F0 F H σ ε) {σ' : St} {j : Nat} {p : Addr} {o : HO} {v : Val} (c : isDc v = true) (d : DcAt K F (upd H p o) p v) (fp : F p = none) (np : H0.no p) (nl : ∀ vs, H p ≠ some (.lst vs))
    (hu : ∀ i w, i ≠ j → gv ε i = some w → isDc w = true → σ[i]? ≠ some (some (.ref p))) (hl : σ'.length = σ.length) (hs : ∀ i, i ≠ j → σ'[i]? = σ[i]?) (hj : j < σ.length → σ'[j]? = some (some (.ref p))) :
    Rep K H0 F0 F (upd H p o) σ' (pv ε j (some v)) := by
  have nv : ∀ {x : Val}, v = x → isDc x = true := fun e => e ▸ c
  have tk : ∀ {q : Addr} {vs : List V}, H q = some (.lst vs) → upd H p o q = some (.lst vs) := fun {q vs} e => by rw [upd_ne (fun z => nl vs (by rw [← z]; exact e))]; exact e
  have gg : ∀ {i : Nat} {w : Val}, gv (pv ε j (some v)) i = some w → (i = j ∧ w = v ∧ j < σ.length) ∨ (i ≠ j ∧ gv ε i = some w) := fun {i w} q => by
    rw [gv_pv] at q
    split at q
    · rename_i hi
      split at q
      · rename_i hh
        cases q; exact .inl ⟨hi, rfl, by rw [R.len]; exact hh⟩
      · cases q
    · rename_i hi; exact .inr ⟨hi, q⟩
  refine ⟨R.fh.upd fp, R.ff, R.h0.upd np.1, R.fr, by rw [pv_len, hl]; exact R.len, fun i y q => ?_, fun i zs q => ?_, fun i k as bs r a b ea eb => ?_, fun i zs q => ?_, fun i k as bs r a b ea eb => ?_, fun a q => ?_, ⟨fun i w q cw => ?_, fun i k u w r a ca b cb ea eb => ?_⟩⟩
  · rcases gg q with ⟨_, e, _⟩ | ⟨hi, q⟩
    · cases nv e.symm
    · rw [hs i hi]; exact R.dat i y q
  · rcases gg q with ⟨_, e, _⟩ | ⟨hi, q⟩
    · cases nv e.symm
    · obtain ⟨r, us, g1, g2, g3⟩ := R.own i zs q
      exact ⟨r, us, by rw [hs i hi]; exact g1, tk g2, g3⟩
  · rcases gg a with ⟨_, e, _⟩ | ⟨hi, a⟩
    · cases nv e.symm
    · rcases gg b with ⟨_, e, _⟩ | ⟨hk, b⟩
      · cases nv e.symm
      · rw [hs i hi] at ea
        rw [hs k hk] at eb
        exact R.uni i k as bs r a b ea eb
  · rcases gg q with ⟨_, e, _⟩ | ⟨hi, q⟩
    · cases nv e.symm
    · obtain ⟨r, us, g1, g2, g3⟩ := R.lnt i zs q
      exact ⟨r, us, by rw [hs i hi]; exact g1, tk g2, g3⟩
  · rcases gg a with ⟨_, e, _⟩ | ⟨hi, a⟩
    · cases nv e.symm
    · rcases gg b with ⟨_, e, _⟩ | ⟨hk, b⟩
      · cases nv e.symm
      · rw [hs i hi] at ea
        rw [hs k hk] at eb
        exact R.one i k as bs r a b ea eb
  · obtain ⟨⟨u, g1⟩, g2⟩ := R.ll a q
    have ne : a ≠ p := fun z => np.2 (by rw [← z]; exact q)
    exact ⟨⟨u, by rw [upd_ne ne]; exact g1⟩, g2⟩
  · rcases gg q with ⟨hi, e, hh⟩ | ⟨hi, q⟩
    · subst e
      exact ⟨p, by rw [hi]; exact hj hh, d, fp, np⟩
    · obtain ⟨r, a1, a2, a3, a4⟩ := R.dcs.at_ i w q cw
      have ne : r ≠ p := fun z => hu i w hi q cw (by rw [← z]; exact a1)
      exact ⟨r, by rw [hs i hi]; exact a1, a2.mono (.refl _) (fun u e => by rw [upd_ne ne]; exact e), a3, a4⟩
  · rcases gg a with ⟨hi, e, hh⟩ | ⟨hi, a⟩
    · rcases gg b with ⟨hk, _, _⟩ | ⟨hk, b⟩
      · rw [hi, hk]
      · rw [hi, hj hh] at ea
        have e3 : p = r := by simpa using ea
        rw [hs k hk, ← e3] at eb
        exact absurd eb (hu k w hk b cb)
    · rw [hs i hi] at ea
      rcases gg b with ⟨hk, e, hh⟩ | ⟨hk, b⟩
      · rw [hk, hj hh] at eb
        have e3 : p = r := by simpa using eb
        rw [← e3] at ea
        exact absurd ea (hu i u hi a ca)
      · rw [hs k hk] at eb
        exact R.dcs.uni i k u w r a ca b cb ea eb
/-- a new dict -/
theorem Rep.dcNew (R : Rep K H0 F0 F H σ ε) {j : Nat} {p : Addr} {o : HO} {v : Val} (c : isDc v = true) (hp : H p = none) (d : DcAt K F (upd H p o) p v) : Rep K H0 F0 F (upd H p o) (σ.set j (some (.ref p))) (pv ε j (some v)) :=
  R.dcAny c d (R.fh.none hp) (R.no hp) (fun vs z => by rw [hp] at z; cases z) (fun i w _ q cw e => by
    obtain ⟨r, a1, a2, _⟩ := R.dcs.at_ i w q cw
    obtain ⟨u, e2, _⟩ := a2.there
    rw [e] at a1
    have : p = r := by simpa using a1
    subst this
    rw [hp] at e2; cases e2) (by rw [List.length_set]) (fun i hi => List.getElem?_set_ne (Ne.symm hi)) (fun hh => List.getElem?_set_self hh)
/-- a dict is changed -/
theorem Rep.dcPut (R : Rep K H0 F0 F H σ ε) {j : Nat} {p : Addr} {o : HO} {u v : Val} (h : gv ε j = some u) (cu : isDc u = true) (e : σ[j]? = some (some (.ref p))) (c : isDc v = true) (d : DcAt K F (upd H p o) p v) : Rep K H0 F0 F (upd H p o) σ (pv ε j (some v)) := by
  obtain ⟨r, a1, a2, a3, a4⟩ := R.dcs.at_ j u h cu
  rw [a1] at e
  have : r = p := by simpa using e
  subst this
  obtain ⟨w, e2, n1, _⟩ := a2.there
  exact R.dcAny c d a3 a4 (fun vs z => n1 vs (by rw [e2] at z; exact Option.some.inj z)) (fun i w hi q cw z => hi (R.dcs.uni i j w u r q cw h cu z a1)) rfl (fun _ _ => rfl) (fun _ => a1)
/-- the dict of a name -/
theorem dictGo (R : Rep K H0 F0 F H σ ε) {j : Nat} {k : Val → Prop} (w : dictAt ε j k) : ∃ v p, gv ε j = some v ∧ isDc v = true ∧ σ[j]? = some (some (.ref p)) ∧ DcAt K F H p v ∧ F p = none ∧ H0.no p ∧ k v := by
  unfold dictAt at w
  split at w
  · rename_i kvs h
    obtain ⟨p, a1, a2, a3, a4⟩ := R.dcs.at_ j _ h rfl
    exact ⟨_, p, h, rfl, a1, a2, a3, a4, w⟩
  · rename_i kvs h
    obtain ⟨p, a1, a2, a3, a4⟩ := R.dcs.at_ j _ h rfl
    exact ⟨_, p, h, rfl, a1, a2, a3, a4, w⟩
  · exact w.elim
end
end Rc

/-! The text against the small language's terms; what the terms mean holds of the text: expressions. -/
namespace Rc
open PySem PySem.Spec PyProof.Rows L2

/-! ### the look at the text -/
def nmB (N : List Str) (j : Nat) (x : Str) : Bool := decide (N[j]? = some x) && !(x == ("__debug__" : Str)) && !(x == ("__classdict__" : Str))
def visB (sc : Scope) (x : Str) : Bool := match sc.names.lookup x with
  | some .local => true
  | some .cell => true
  | some .free => true
  | _ => false
def locB (sc : Scope) (x : Str) : Bool := match sc.names.lookup x with
  | some .local => true
  | some .cell => true
  | _ => false
def lclB (sc : Scope) (x : Str) : Bool := match sc.names.lookup x with
  | some .local => true
  | _ => false
def glB (sc : Scope) (x : Str) : Bool := match sc.names.lookup x with
  | some .globalImplicit => true
  | _ => false
def plainE : Expr → Bool
  | .Starred .. => false
  | .Slice .. => false
  | .Set .. => false
  | _ => true
def noComp : Expr → Bool
  | .ListComp .. => false
  | .SetComp .. => false
  | .DictComp .. => false
  | _ => true
def litB : D → Const → Bool
  | .none, .none => true
  | .bool a, .bool b => a == b
  | .int i, .int j => i == j
  | .str x, .str y => decide (x = y)
  | _, _ => false
def biName : Bi → Str
  | .abs => "abs"
  | .int => "int"
  | .list => "list"
  | .tuple => "tuple"
  | .max => "max"
  | .min => "min"
  | .all => "all"
  | .any => "any"
  | .sum => "sum"
  | .str => "str"
def tyName : Ty → Str
  | .int => "int"
  | .bool => "bool"
  | .tuple => "tuple"
  | .list => "list"
  | .str => "str"
def tyStr : Ty → String
  | .int => "int"
  | .bool => "bool"
  | .tuple => "tuple"
  | .list => "list"
  | .str => "str"
def isL : IE → Bool
  | .nil => true
  | .cons _ _ => true
  | _ => false
def isLP : IE → Bool
  | .nil => true
  | .consP _ _ => true
  | _ => false
def isIt : IE → Bool
  | .itv _ => true
  | .rng1 _ => true
  | .rng2 _ _ => true
  | .rngd _ _ => true
  | .enm _ => true
  | .rvd _ => true
  | .zip _ _ => true
  | .rvr _ => true
  | _ => false
/-- the names that a target binds, with their places -/
def tgOwns : List Nat → List Expr → List (Str × Nat)
  | j :: js, .Name x _ :: es => (x, j) :: tgOwns js es
  | _, _ => []
def tgOwn : Tg → Expr → List (Str × Nat)
  | .one j, .Name x _ => [(x, j)]
  | .tup js, .Tuple es _ _ => tgOwns js es
  | .nst js j, .Tuple [.Tuple es _ _, .Name x _] _ _ => tgOwns js es ++ [(x, j)]
  | _, _ => []
/-- a comprehension's own name, a cell at times -/
def blB (scope sc : Scope) (x : Str) : Bool := lclB (relS scope sc) x || (scope.names.lookup x == some .cell)
def tgsB (p : Str → Bool) (N : List Str) : List Nat → List Expr → Bool
  | [], [] => true
  | j :: js, .Name x _ :: es => nmB N j x && p x && tgsB p N js es
  | _, _ => false
def tgB (p : Str → Bool) (N : List Str) : Tg → Expr → Bool
  | .one j, .Name x _ => nmB N j x && p x
  | .tup js, .Tuple es _ _ => tgsB p N js es
  | .nst js j, .Tuple [.Tuple es _ _, .Name x _] _ _ => tgsB p N js es && nmB N j x && p x
  | _, _ => false
/-- a part that may be left out -/
def optB (n : Bool) (l : Option Expr) (f : Expr → Bool) : Bool := match l with
  | none => n
  | some e => !n && f e
def ifsB (n : Bool) (l : List Expr) (f : Expr → Bool) : Bool := match l with
  | [] => n
  | [e] => !n && f e
  | _ => false
def isTup : Expr → Bool
  | .Tuple .. => true
  | _ => false
def noSet : Expr → Bool
  | .Set .. => false
  | _ => true
/-- the base of a method's call is no name of a module or class -/
def noAttr : Expr → Bool
  | .Name .. => true
  | .Constant .. => true
  | .List .. => true
  | .Subscript .. => true
  | _ => false
def litE (d : D) (e : Expr) : Bool := match e with
  | .Constant c _ _ => litB d c
  | .UnaryOp .USub (.Constant (.int j) _ _) _ => (match d with
    | .int i => decide (i = -j)
    | _ => false)
  | _ => false
mutual
def litX : D → Expr → Bool
  | .tuple ds, .Tuple es _ _ => litXs ds es && decide (ds.length ≤ 16777216)
  | .none, e => litE .none e
  | .bool b, e => litE (.bool b) e
  | .int i, e => litE (.int i) e
  | .str s, e => litE (.str s) e
  | _, _ => false
def litXs : List D → List Expr → Bool
  | [], [] => true
  | d :: ds, e :: es => plainE e && litX d e && litXs ds es
  | _, _ => false
end
mutual
def sameD : D → D → Bool
  | .none, .none => true
  | .bool a, .bool b => a == b
  | .int a, .int b => a == b
  | .str a, .str b => decide (a = b)
  | .tuple a, .tuple b => sameAll a b
  | _, _ => false
def sameAll : List D → List D → Bool
  | [], [] => true
  | a :: r, b :: t => sameD a b && sameAll r t
  | _, _ => false
end
mutual
theorem sameD_eq : ∀ {a b : D}, sameD a b = true → a = b
  | .none, .none, _ => rfl
  | .bool a, .bool b, h => by rw [beq_iff_eq.mp (show (a == b) = true by unfold sameD at h; exact h)]
  | .int a, .int b, h => by rw [beq_iff_eq.mp (show (a == b) = true by unfold sameD at h; exact h)]
  | .str a, .str b, h => by rw [of_decide_eq_true (show decide (a = b) = true by unfold sameD at h; exact h)]
  | .tuple a, .tuple b, h => by rw [sameAll_eq (show sameAll a b = true by unfold sameD at h; exact h)]
  | .list _, _, h => by unfold sameD at h; cases h
  | .dict _, _, h => by unfold sameD at h; cases h
  | .none, .bool _, h | .none, .int _, h | .none, .str _, h | .none, .list _, h | .none, .tuple _, h | .none, .dict _, h => by unfold sameD at h; cases h
  | .bool _, .none, h | .bool _, .int _, h | .bool _, .str _, h | .bool _, .list _, h | .bool _, .tuple _, h | .bool _, .dict _, h => by unfold sameD at h; cases h
  | .int _, .none, h | .int _, .bool _, h | .int _, .str _, h | .int _, .list _, h | .int _, .tuple _, h | .int _, .dict _, h => by unfold sameD at h; cases h
  | .str _, .none, h | .str _, .bool _, h | .str _, .int _, h | .str _, .list _, h | .str _, .tuple _, h | .str _, .dict _, h => by unfold sameD at h; cases h
  | .tuple _, .none, h | .tuple _, .bool _, h | .tuple _, .int _, h | .tuple _, .str _, h | .tuple _, .list _, h | .tuple _, .dict _, h => by unfold sameD at h; cases h
theorem sameAll_eq : ∀ {a b : List D}, sameAll a b = true → a = b
  | [], [], _ => rfl
  | a :: r, b :: t, h => by
    unfold sameAll at h
    rw [Bool.and_eq_true] at h
    rw [sameD_eq h.1, sameAll_eq h.2]
  | [], _ :: _, h => by unfold sameAll at h; cases h
  | _ :: _, [], h => by unfold sameAll at h; cases h
end
def litEs : List D → List Expr → Bool
  | [], [] => true
  | d :: ds, e :: es => plainE e && litE d e && litEs ds es
  | _, _ => false
def dspB : List (Str × D) → List (Option Expr) → List Expr → Bool
  | [], [], [] => true
  | (x, d) :: r, some (.Constant (.str y) _ _) :: ks, e :: es => decide (x = y) && litE d e && dspB r ks es
  | _, _, _ => false
def ndB : List Str → Bool
  | [] => true
  | x :: r => !(r.any fun y => decide (y = x)) && ndB r
/-- stands ahead of a list of expressions, twice -/
def dm : Expr := .Constant .none 0 ⟨0, 0, 0, 0⟩
section
variable (fns : List FnI) (N : List Str)
def isLfn : IS → Bool
  | .lfn _ => true
  | _ => false
def fnB (f : Nat) (x : Str) : Bool := match fns[f]? with
  | some fi => decide (fi.name = x) && fi.con.isNone && !isLfn fi.body
  | none => false
def fnL (f : Nat) (x : Str) : Bool := match fns[f]? with
  | some fi => decide (fi.name = x) && fi.con.isNone && isLfn fi.body
  | none => false
def gcB (f : Nat) (x : Str) (d : D) : Bool := match fns[f]? with
  | some fi => decide (fi.name = x) && (match fi.con with
    | some e => sameD d e
    | none => false)
  | none => false
def chk : IE → Scope → List Expr → Bool
  | .nil, _, [_, _] => true
  | .cons a r, sc, d :: d' :: e :: es => plainE e && chk a sc [e] && isL r && chk r sc (d :: d' :: es)
  | .consP a r, sc, d :: d' :: e :: es => plainE e && chk a sc [e] && isLP r && chk r sc (d :: d' :: es)
  | .var j, sc, [.Name x _] => nmB N j x && visB sc x
  | .mov j, sc, [.Name x _] => nmB N j x && visB sc x
  | .cst c, _, [.Constant k _ _] => litB c k
  | .tup a, sc, [.Tuple es _ _] => isL a && chk a sc (dm :: dm :: es)
  | .lst a, sc, [.List es _] => isL a && chk a sc (dm :: dm :: es)
  | .bin o a b, sc, [.BinOp l o' r _] => decide (o = o') && chk a sc [l] && chk b sc [r]
  | .cmp o a b, sc, [.Compare l [o'] [r] _] => decide (o = o') && decide (o ≠ .In) && decide (o ≠ .NotIn) && chk a sc [l] && chk b sc [r]
  | .neg a, sc, [.UnaryOp .USub e _] => chk a sc [e]
  | .bnot a, sc, [.UnaryOp .Not e _] => chk a sc [e]
  | .band a r, sc, [.BoolOp .And (x :: y :: rest) p] => chk a sc [x] && chk r sc [.BoolOp .And (y :: rest) p]
  | .bor a r, sc, [.BoolOp .Or (x :: y :: rest) p] => chk a sc [x] && chk r sc [.BoolOp .Or (y :: rest) p]
  | .bone a, sc, [.BoolOp _ [x] _] => chk a sc [x]
  | .ite c a b, sc, [.IfExp t x y _] => chk c sc [t] && chk a sc [x] && chk b sc [y]
  | .ix a b, sc, [.Subscript x y _] => plainE y && chk a sc [x] && chk b sc [y]
  | .sl a lo hi, sc, [.Subscript x (.Slice l h none _) _] => chk a sc [x] && optB (isNil lo) l (fun e => chk lo sc [e]) && optB (isNil hi) h (fun e => chk hi sc [e])
  | .rev a, sc, [.Subscript x (.Slice none none (some (.UnaryOp .USub (.Constant (.int i) _ _) _)) _) _] => decide (i = 1) && chk a sc [x]
  | .call f a, sc, [.Call (.Name x _) es [] _] => fnB fns f x && glB sc x && !(x == ("__debug__" : Str)) && isL a && chk a sc (dm :: dm :: es)
  | .callP f a, sc, [.Call (.Name x _) es [] _] => fnB fns f x && glB sc x && !(x == ("__debug__" : Str)) && isLP a && chk a sc (dm :: dm :: es)
  | .bi b a, sc, [.Call (.Name x _) (e :: es) [] _] => decide (biName b = x) && glB sc x && isL a && chk a sc (dm :: dm :: e :: es)
  | .len a, sc, [.Call (.Name x _) [e] [] _] => decide (x = "len") && glB sc x && plainE e && chk a sc [e]
  | .isi t a, sc, [.Call (.Name x _) [e, .Name y _] [] _] => decide (x = "isinstance") && glB sc x && decide (tyName t = y) && glB sc y && plainE e && chk a sc [e]
  | .itv a, sc, [e, _] => plainE e && chk a sc [e]
  | .rng1 a, sc, [g, _] => (match g with
    | .Call (.Name x _) [e] [] _ => decide (x = "range") && glB sc x && plainE e && chk a sc [e]
    | _ => false)
  | .rng2 a b, sc, [g, _] => (match g with
    | .Call (.Name x _) [e, f] [] _ => decide (x = "range") && glB sc x && plainE e && plainE f && chk a sc [e] && chk b sc [f]
    | _ => false)
  | .rngd a b, sc, [g, _] => (match g with
    | .Call (.Name x _) [e, f, .UnaryOp .USub (.Constant (.int i) _ _) _] [] _ => decide (x = "range") && glB sc x && plainE e && plainE f && decide (i = 1) && chk a sc [e] && chk b sc [f]
    | _ => false)
  | .enm a, sc, [g, t] => (match g with
    | .Call (.Name x _) [e] [] _ => decide (x = "enumerate") && glB sc x && plainE e && isTup t && chk a sc [e]
    | _ => false)
  | .rvd a, sc, [g, _] => (match g with
    | .Call (.Name x _) [e] [] _ => decide (x = "reversed") && glB sc x && plainE e && chk a sc [e]
    | _ => false)
  | .lc t it c elt, sc, [.ListComp e [⟨tg, iter, ifs, as⟩] scope _] => decide (as = 0) && plainE iter && isIt it && chk it sc [iter, tg] && tgB (blB scope sc) N t tg && blkC N sc scope (tgOwn t tg) && ifsB (isNil c) ifs (fun f => chk c (relS scope sc) [f]) && chk elt (relS scope sc) [e]
  | .inn neg a b, sc, [.Compare l [o] [r] _] => decide (o = (if neg = true then .NotIn else .In)) && noSet r && chk a sc [l] && chk b sc [r]
  | .cmp2 o o' a b c, sc, [.Compare l [p, p'] [m, r] _] => decide (o = p) && decide (o' = p') && decide (o' ≠ .In) && decide (o' ≠ .NotIn) && chk a sc [l] && chk b sc [m] && chk c sc [r]
  | .cnt a b, sc, [.Call (.Attribute o m q) [e] [] p] => decide (m = "count") && (q.endLine == p.line) && plainE e && noAttr o && chk a sc [o] && chk b sc [e]
  | .idx a b, sc, [.Call (.Attribute o m q) [e] [] p] => decide (m = "index") && (q.endLine == p.line) && plainE e && noAttr o && chk a sc [o] && chk b sc [e]
  | .dsp kvs a, sc, [.Subscript (.Dict ks vs _) e _] => dspB kvs ks vs && ndB (kvs.map (·.1)) && decide (kvs.length ≤ 15) && !kvs.isEmpty && plainE e && chk a sc [e]
  | .gc f d, sc, [.Name x _] => gcB fns f x d && glB sc x && !(x == ("__debug__" : Str))
  | .zip a b, sc, [g, t] => (match g with
    | .Call (.Name x _) [e, f] [] _ => decide (x = "zip") && glB sc x && plainE e && plainE f && isTup t && chk a sc [e] && chk b sc [f]
    | _ => false)
  | .rvr a, sc, [g, _] => (match g with
    | .Call (.Name x _) [.Call (.Name y _) [e] [] _] [] _ => decide (x = "reversed") && glB sc x && decide (y = "range") && glB sc y && plainE e && chk a sc [e]
    | _ => false)
  | .lsc a, sc, [.Call (.Name x _) [e] [] _] => decide (x = "list") && glB sc x && plainE e && chk a sc [e]
  | .callL f j a, sc, [.Call (.Name x _) (.Name y _ :: es) [] _] => fnL fns f x && glB sc x && !(x == ("__debug__" : Str)) && nmB N j y && visB sc y && isL a && chk a sc (dm :: dm :: es)
  | .callLP f j a, sc, [.Call (.Name x _) (.Name y _ :: es) [] _] => fnL fns f x && glB sc x && !(x == ("__debug__" : Str)) && nmB N j y && visB sc y && isLP a && chk a sc (dm :: dm :: es)
  | .lemp j, sc, [.Compare (.Name y _) [.Eq] [.List [] _] _] => nmB N j y && visB sc y
  | .lix j n, sc, [.Subscript (.Name y _) (.Constant (.int i) _ _) _] => nmB N j y && visB sc y && decide (i = (n : Int))
  | .lpop0 j, sc, [.Call (.Attribute (.Name y _) m q) [.Constant (.int i) _ _] [] p] => decide (m = "pop") && nmB N j y && visB sc y && decide (i = 0) && (q.endLine == p.line)
  | .lcL t it elt j, sc, [.ListComp e [⟨tg, iter, [], as⟩] scope _] => decide (as = 0) && plainE iter && isIt it && chk it sc [iter, tg] && tgB (blB scope sc) N t tg && blkC N sc scope (tgOwn t tg) && !(tgs t).contains j && chk elt (relS scope sc) [e]
  | .lcK t it elt j, sc, [.ListComp e [⟨tg, iter, [], as⟩] scope _] => decide (as = 0) && plainE iter && isIt it && chk it sc [iter, tg] && tgB (blB scope sc) N t tg && blkC N sc scope (tgOwn t tg) && !(tgs t).contains j && chk elt (relS scope sc) [e]
  | .dget j k x, sc, [.Call (.Attribute (.Name y _) m q) [e, f] [] p] => decide (m = "get") && nmB N j y && visB sc y && (q.endLine == p.line) && plainE e && plainE f && chk k sc [e] && chk x sc [f]
  | .dix j k, sc, [.Subscript (.Name y _) e _] => nmB N j y && visB sc y && plainE e && chk k sc [e]
  | .dsrt j, sc, [.Call (.Name x _) [.Name y _] [] _] => decide (x = "sorted") && glB sc x && nmB N j y && visB sc y
  | .dlc t c elt j, sc, [.ListComp e [⟨tg, .Call (.Attribute (.Name y _) m q) [] [] p, ifs, as⟩] scope _] => decide (as = 0) && decide (m = "items") && (q.endLine == p.line) && nmB N j y && visB sc y && isTup tg &&
      tgB (blB scope sc) N t tg && blkC N sc scope (tgOwn t tg) && ifsB (isNil c) ifs (fun f => chk c (relS scope sc) [f]) && chk elt (relS scope sc) [e]
  | .lcD t it c elt j, sc, [.ListComp e [⟨tg, iter, ifs, as⟩] scope _] => decide (as = 0) && plainE iter && isIt it && chk it sc [iter, tg] && tgB (blB scope sc) N t tg && blkC N sc scope (tgOwn t tg) && !(tgs t).contains j &&
      ifsB (isNil c) ifs (fun f => chk c (relS scope sc) [f]) && chk elt (relS scope sc) [e]
  | .lit d, _, [e] => isTup e && litX d e
  | .callF f g a ds, sc, [.Call (.Name x _) (.Call (.Name y _) es2 [] _ :: es) [] _] => fnL fns f x && glB sc x && !(x == ("__debug__" : Str)) && fnB fns g y && glB sc y && !(y == ("__debug__" : Str)) && !es2.isEmpty && isL a && chk a sc (dm :: dm :: es2) && litEs ds es
  | .rvl a, sc, [.Call (.Name x _) [.Call (.Name y _) [e] [] _] [] _] => decide (x = "list") && glB sc x && decide (y = "reversed") && glB sc y && plainE e && chk a sc [e]
  | .lset a, sc, [.Call (.Name x _) [.Call (.Name y _) [e] [] _] [] _] => decide (x = "len") && glB sc x && decide (y = "set") && glB sc y && plainE e && chk a sc [e]
  | .emp, _, [.Dict [] [] _] => true
  | .lcO t j c elt, sc, [.ListComp e [⟨tg, .Name y _, ifs, as⟩] scope _] => decide (as = 0) && nmB N j y && visB sc y && tgB (blB scope sc) N t tg && blkC N sc scope (tgOwn t tg) && ifsB (isNil c) ifs (fun f => chk c (relS scope sc) [f]) && chk elt (relS scope sc) [e]
  | .srt a, sc, [.Call (.Name x _) [e] [] _] => decide (x = "sorted") && glB sc x && plainE e && chk a sc [e]
  | _, _, _ => false
end

/-! ### what a def's call promises -/
def VR (K : PySem.W.Frag) (H F' H' : Hp) (x : V) : Val → Prop
  | .d d => Dp K F' x d
  | .own xs => ∃ p vs, x = .ref p ∧ H' p = some (.lst vs) ∧ DpAll K F' vs xs ∧ F' p = none ∧ H p = none
  | _ => False
def spec (K : PySem.W.Frag) (C : Nat → Addr) (n : Nat) (φ : List D → (Nat → Prop) → (Val → Prop) → Prop) : Sp := fun vs H Q E =>
  ∃ F ds Xp Qp, Sub F H ∧ DpAll K F vs ds ∧ ds.length = n ∧ φ ds Xp Qp ∧ (∀ c H', Same H H' → Xp c → E (.ref (C c)) none H') ∧
    ∀ v H' F' x, Same H H' → Sub F F' → Sub F' H' → New F F' H → VR K H F' H' x v → Qp v → Q x H'
/-- what a call of a def that borrows a list promises -/
def specL (K : PySem.W.Frag) (C : Nat → Addr) (n : Nat) (φ : List D → (Nat → Prop) → (Val → Prop) → Prop) : Sp := fun vs H Q E =>
  ∃ F p ws xs us ds Xp Qp, vs = .ref p :: us ∧ Sub F H ∧ F p = none ∧ H p = some (.lst ws) ∧ DpAll K F ws xs ∧ DpAll K F us ds ∧ ds.length + 1 = n ∧ φ (.list xs :: ds) Xp Qp ∧ (∀ v, Qp v → noTwo v = false) ∧
    (∀ c H', (∀ a o, a ≠ p → H a = some o → H' a = some o) → (∃ o, H' p = some o) → Xp c → E (.ref (C c)) none H') ∧
    (∀ v H' F' x ws' ys, (∀ a o, a ≠ p → H a = some o → H' a = some o) → Sub F F' → Sub F' H' → New F F' H → H' p = some (.lst ws') → DpAll K F' ws' ys → F' p = none → Dp K F' x v → Qp (.two v ys) → Q x H') ∧
    ∀ zs H' F' r us' ws' ys, (∀ a o, a ≠ p → H a = some o → H' a = some o) → Sub F F' → Sub F' H' → New F F' H → H' p = some (.lst ws') → DpAll K F' ws' ys → F' p = none → H' r = some (.lst us') → DpAll K F' us' zs → F' r = none → H r = none → Qp (.twoO zs ys) → Q (.ref r) H'
def specOf (K : PySem.W.Frag) (C : Nat → Addr) (fi : FnI) (φ : List D → (Nat → Prop) → (Val → Prop) → Prop) : Sp := if isLfn fi.body = true then specL K C fi.np φ else spec K C fi.np φ
def bltNames : List Str := ["abs", "int", "list", "tuple", "max", "min", "all", "any", "sum", "str", "len", "isinstance", "range", "enumerate", "reversed", "zip", "bool", "ValueError", "sorted", "set"]
/-- the program's own errors -/
def ClsAt (K : PySem.W.Frag) (mg : Str → Option Value) (x : Str) (a : Addr) : Prop :=
  mg x = some (.ref a) ∧ PySem.W.excIn K a [.type "ValueError", .type "Exception", .type "BaseException", .type "object"] "ValueError.__new__" = true ∧ PySem.W.keepIn K (.ref a) = true ∧
  PySem.W.subIn K (.ref a) (.type "BaseException") = some true ∧ PySem.W.typeIn K (.ref a) = some (.type "type")
/-- what isinstance and except clauses answer of them -/
structure ExF (K : PySem.W.Frag) (cls : List Str) (C : Nat → Addr) : Prop where
  cc : ∀ c', cls ≠ [] → ExcC K (C c')
  ve : ∀ c', cls ≠ [] → PySem.W.kitOne K (.ref (C c')) (.type "ValueError") = some true
  is : ∀ c' c x, cls[c]? = some x → PySem.W.kitOne K (.ref (C c')) (.ref (C c)) = some (isS c' c)
  ex : ∀ c' c x, cls[c]? = some x → PySem.W.exmOne K (.ref (C c')) (.ref (C c)) = some (isS c' c)
/-- a great number by a great number: there is room for it -/
def Pyl (X : Cx) : Prop := ∀ (pins : List (Addr × Obj)) (σ : St) (H : Hp) (s : Shared), Inv X pins σ H s → PySem.PylongRoom (model X.prog X.w) X.A s
structure Cok (fns : List FnI) (cls : List Str) (N : List Str) (C : Nat → Addr) (Φ : Fs) (k : Nat) (X : Cx) (sc : Scope) (W : WX) : Prop where
  room : Room (k + 32) X.A
  seer : X.base.NoSeer
  tree : X.prog.given.tree = none
  top : ∃ env l, X.stack = env :: l ∧ env.scope.isGenerator = false ∧ env.scope.isCoroutine = false ∧ env.builtins = builtinsNs ∧ env.globals = mainGlobals
  nd : X.N.Nodup
  eN : X.N = N
  esc : X.env.scope = sc
  calm : X.calm = true
  tk : Takes X W
  blt : ∀ x ∈ bltNames, X.mg x = none
  exc : ∀ c x, cls[c]? = some x → ClsAt X.K X.mg x (C c)
  xf : ExF X.K cls C
  ar : ∀ i fi ds Xp Q, fns[i]? = some fi → Φ i ds Xp Q → ds.length = fi.np
  gcon : ∀ (i : Nat) (fi : FnI) (d : D), fns[i]? = some fi → fi.con = some d → ∃ u v, X.mg fi.name = some u ∧ RelV v u ∧ ∀ F, Dp X.K F v d
  callee : ∀ (i : Nat) (fi : FnI), fns[i]? = some fi → fi.con = none → ∃ f fd, X.mg fi.name = some (.ref f) ∧ PySem.W.keepIn X.K (.ref f) = true ∧ Binds X.K fd fi.ps [] ∧
    FnOk X.prog X.w X.K X.mg X.base (L2.CX X.prog X.w) (k + 32) f fd fi.ps (specOf X.K C fi (Φ i))

theorem Cok.pyl {fns : List FnI} {cls N : List Str} {C : Nat → Addr} {Φ : Fs} {k : Nat} {X : Cx} {sc : Scope} {W : WX} (ok : Cok fns cls N C Φ k X sc W) : Pyl X := fun pins σ H s I => by
  obtain ⟨env, l, e1, e2, e3, e4, e5⟩ := ok.top
  have hd := ok.room.dp
  refine PySem.PylongRoom.of I.nolimit ?_ (PySem.SeerAt.of (ok.seer.keeps I.bk) ok.tree (I.ok.frames.trans (congrArg some e1)) e2 e3 e4 e5)
  show X.A.depth + 100 < _
  omega
/-! ### readings -/
structure Bd where
  C : Nat → Addr
  W : WX
  H0 : Zn
  F0 : Hp
section
variable (K : PySem.W.Frag) (b : Bd)
def Ex (Xp : XP) (σ : St) (H : Hp) : Prop := ∀ c ε' H' F', SubZ b.H0 H H' → Rep K b.H0 b.F0 F' H' σ ε' → Xp c ε' → b.W (.ref (b.C c)) none σ H'
def rdE (T : Ev → XP → KE → Prop) : TE := fun σ H Q => ∃ ε F Xp Qp, Rep K b.H0 b.F0 F H σ ε ∧ T ε Xp Qp ∧ Ex K b Xp σ H ∧
  ∀ v ε' H' F' x, SubZ b.H0 H H' → Sub F F' → Rep K b.H0 b.F0 F' H' σ ε' → VAt K b.H0 F' H' σ ε' x v → Qp v ε' → Q x H'
/-- its value stands still -/
def rdD (T : Ev → XP → KE → Prop) : TE := fun σ H Q => ∃ ε F Xp, ∃ Qp : D → Ev → Prop, Rep K b.H0 b.F0 F H σ ε ∧ T ε Xp (kD Qp) ∧ Ex K b Xp σ H ∧
  ∀ d ε' H' F' x, SubZ b.H0 H H' → Sub F F' → Rep K b.H0 b.F0 F' H' σ ε' → Dp K F' x d → Qp d ε' → Q x H'
/-- its value is looked at -/
def rdP (T : Ev → XP → (D → Ev → Prop) → Prop) : TE := fun σ H Q => ∃ ε F Xp, ∃ Qp : D → Ev → Prop, Rep K b.H0 b.F0 F H σ ε ∧ T ε Xp Qp ∧ Ex K b Xp σ H ∧
  ∀ d ε' H' F' x, SubZ b.H0 H H' → Sub F F' → Rep K b.H0 b.F0 F' H' σ ε' → PAt K b.H0 F' H' x d → Qp d ε' → Q x H'
def rdT (T : Ev → XP → KE → Prop) : TT := fun σ H Q => ∃ ε F Xp, ∃ Qp : Bool → Ev → Prop, Rep K b.H0 b.F0 F H σ ε ∧ T ε Xp (kB Qp) ∧ Ex K b Xp σ H ∧
  ∀ d ε' H' F', SubZ b.H0 H H' → Sub F F' → Rep K b.H0 b.F0 F' H' σ ε' → Qp d ε' → Q d H'
def rdA (T : Ev → XP → KE → Prop) : TA := fun σ H Q => ∃ ε F Xp, ∃ Qp : List D → Ev → Prop, Rep K b.H0 b.F0 F H σ ε ∧ T ε Xp (kM Qp) ∧ Ex K b Xp σ H ∧
  ∀ ds ε' H' F' xs, SubZ b.H0 H H' → Sub F F' → Rep K b.H0 b.F0 F' H' σ ε' → DpAll K F' xs ds → Qp ds ε' → Q xs H'
/-- lists of the frame's own, looked at, beside what stands still -/
def Lsts (Z : Zn) (F F1 H : Hp) : Prop := Sub F F1 ∧ Sub F1 H ∧ ∀ a o, F1 a = some o → F a = some o ∨ ((∃ ws, o = .lst ws) ∧ ¬ Z.l a)
def rdAP (T : Ev → XP → KE → Prop) : TA := fun σ H Q => ∃ ε F Xp, ∃ Qp : List D → Ev → Prop, Rep K b.H0 b.F0 F H σ ε ∧ T ε Xp (kM Qp) ∧ Ex K b Xp σ H ∧
  ∀ ds ε' H' F' F1 xs, SubZ b.H0 H H' → Sub F F' → Rep K b.H0 b.F0 F' H' σ ε' → Lsts b.H0 F' F1 H' → DpAll K F1 xs ds → Qp ds ε' → Q xs H'
/-- an iterator of these -/
structure ItOk (J : It) (F1 : Hp) (ds : List D) : Prop where
  go : ∀ i H, i < ds.length → Sub F1 H → J.go i H
  stop : ∀ H, Sub F1 H → J.stop ds.length H
  yld : ∀ i H x H' F, i < ds.length → Sub F1 F → Sub F H → J.yld i H x H' → Same H H' ∧ ∃ F' d, Sub F F' ∧ Sub F' H' ∧ New F F' H ∧ ds[i]? = some d ∧ Dp K F' x d
def rdI (T : Ev → XP → KE → Prop) : TI := fun σ H R => ∃ ε F Xp, ∃ Qp : List D → Ev → Prop, Rep K b.H0 b.F0 F H σ ε ∧ T ε Xp (kM Qp) ∧ Ex K b Xp σ H ∧
  ∀ ds ε' H' F' J, SubZ b.H0 H H' → Sub F F' → Rep K b.H0 b.F0 F' H' σ ε' → ItOk K J F' ds → Qp ds ε' → R J H'
end
theorem Ex.mono {K : PySem.W.Frag} {b : Bd} {Xp : XP} {σ : St} {H H' : Hp} (x : Ex K b Xp σ H) (s : SubZ b.H0 H H') : Ex K b Xp σ H' := fun c ε' H2 F' t R q => x c ε' H2 F' (s.trans t) R q
section
variable {X : Cx} {e : Expr} {b : Bd}
theorem peImp {t t' : TE} (h : PE X e t) (f : ∀ σ H Q, t' σ H Q → t σ H Q) : PE X e t' := ⟨fun pins s σ H Q I w => h.run pins s σ H Q I (f _ _ _ w)⟩
theorem ptImp {t t' : TT} (h : PT X e t) (f : ∀ σ H Q, t' σ H Q → t σ H Q) : PT X e t' := ⟨fun pins s σ H Q I w => h.run pins s σ H Q I (f _ _ _ w)⟩
theorem pwImp {t t' : TT} (h : PW X e t) (f : ∀ σ H Q, t' σ H Q → t σ H Q) : PW X e t' := ⟨fun wh pins s σ H Q I w => h.run wh pins s σ H Q I (f _ _ _ w)⟩
theorem paImp {es : List Expr} {t t' : TA} (h : PA X es t) (f : ∀ σ H Q, t' σ H Q → t σ H Q) : PA X es t' := ⟨fun pos pins s σ H Q I w => h.run pos pins s σ H Q I (f _ _ _ w)⟩
theorem piImp {tg : Expr} {t t' : TI} (h : PI X tg e t) (f : ∀ σ H Q, t' σ H Q → t σ H Q) : PI X tg e t' := ⟨fun pins s σ H Q I w => h.run pins s σ H Q I (f _ _ _ w)⟩
theorem pssImp {st : List Stmt} {t t' : TS} (h : PSs X st t) (f : ∀ D σ H, t' D σ H → t D σ H) : PSs X st t' := ⟨fun pins s σ H D I w => h.run pins s σ H D I (f _ _ _ w)⟩
theorem psImp {st : Stmt} {t t' : TS} (h : PS X st t) (f : ∀ D σ H, t' D σ H → t D σ H) : PS X st t' := ⟨fun pins s σ H D I w => h.run pins s σ H D I (f _ _ _ w)⟩
theorem peD {T : Ev → XP → KE → Prop} (h : PE X e (rdE X.K b T)) : PE X e (rdD X.K b T) := peImp h fun σ H Q ⟨ε, F, Xp, Qp, R, w, ex, k⟩ => by
  refine ⟨ε, F, Xp, kD Qp, R, w, ex, fun v ε' H' F' x s f R' a q => ?_⟩
  cases v with
  | d y => exact k y ε' H' F' x s f R' a q
  | own xs =>
    obtain ⟨F2, f2, R2, d2⟩ := R'.freeze a rfl
    exact k _ ε' H' F2 x s (f.trans f2) R2 d2 q
  | many _ => exact q.elim
  | exc _ => exact q.elim
  | lent _ => exact q.elim
  | two _ _ => exact q.elim
  | twoO _ _ => exact q.elim
  | dI _ => exact q.elim
  | dT _ => exact q.elim
theorem ptOf {T : Ev → XP → KE → Prop} (h : PE X e (rdE X.K b T)) (he : ∀ whole, isTrue e X.env whole = (do let v ← whole; standAt e.pos; holding [v] (truthy v))) : PT X e (rdT X.K b T) :=
  ptImp (pt_val h he) fun σ H Q ⟨ε, F, Xp, Qp, R, w, ex, k⟩ => by
    refine ⟨ε, F, Xp, kB Qp, R, w, ex, fun v ε' H' F' x s f R' a q => ?_⟩
    cases v with
    | d y =>
      cases y with
      | bool c => exact ⟨c, dpBl a, k c ε' H' F' s f R' q⟩
      | _ => exact q.elim
    | _ => exact q.elim
theorem starOf {e : Expr} {es : List Expr} {env : Env} (h : plainE e = true) : starEach (e :: es) env = (false, eval e env) :: starEach es env := by
  cases e <;> first | rfl | exact absurd h Bool.false_ne_true
theorem plainIx {e : Expr} (h : plainE e = true) : PlainIx e := by
  cases e <;> first | exact fun _ _ => rfl | exact absurd h Bool.false_ne_true
theorem noSw {e : Expr} {t : Option Expr} {l : Nat} {env : Env} (h : noComp e = true) : swapsWith e t l env = pure false := by
  cases e <;> first | rfl | exact absurd h Bool.false_ne_true
theorem noFold {e : Expr} {env : Env} {x : Value} (h : plainE e = true) : foldedSetIterable e env x = pure x := by
  cases e <;> first | rfl | exact absurd h Bool.false_ne_true
end
end Rc

/-! Operators by values. -/
namespace Rc
open PySem PySem.Spec PyProof.Rows L2
section
variable {X : Cx}
theorem line24 : sizeLine = 16777216 := sizeLine_eq
/-- list + list, of lists that may stand still -/
def rCatR (K : PySem.W.Frag) : R2 := fun x y H Q => ∃ l b xs zs, x = .ref l ∧ y = .ref b ∧ SqL K H l xs ∧ SqL K H b zs ∧ xs.length + zs.length ≤ sizeLine ∧
  ∀ p, H p = none → Q (.ref p) (upd H p (.lst (xs ++ zs)))
theorem op_catR : OpR X (binaryOp .Add) (rCatR X.K) := by
  intro pins s σ H x y v u Q I rx ry ⟨l, b, xs, zs, ex, ey, hl, hb, hz, q⟩
  subst ex ey
  cases rx; cases ry
  obtain ⟨is1, r1, ⟨⟨c1, d1, t1, z1⟩, n1, g1, hc1, hd1, ht1⟩, _⟩ := I.list hl
  obtain ⟨is2, r2, ⟨⟨c2, d2, t2, z2⟩, n2, g2, hc2, hd2, ht2⟩, _⟩ := I.list hb
  simp only at hc1 hd1 ht1 hc2 hd2 ht2
  subst hc1 hd1 ht1 hc2 hd2 ht2
  have l1 := r1.length
  have l2 := r2.length
  have sz : is1.toArray.size + is2.toArray.size ≤ sizeLine := by
    simp only [List.size_toArray]; omega
  refine concat_meets ⟨_, g1, rfl⟩ ⟨_, g2, rfl⟩ noFill_list_add seq_list_add PySem.F.slot_list_add PySem.F.entry_list_add
    (PySem.F.args_list_add_2 _ _) (list_addW l b is1.toArray is2.toArray n1 n2 none none z1 z2 sz) ⟨g1, g2, ?_⟩
  rw [List.append_toArray]
  have len : (xs ++ zs).length ≤ sizeLine := by simpa using hz
  exact ⟨.ref _, _, I.lnew (t' := s.toks) (r1.append r2) len, rfl, q _ I.fresh⟩
/-- list * int -/
def rRepR (K : PySem.W.Frag) : R2 := fun x y H Q => ∃ l k xs, x = .ref l ∧ y = .int k ∧ SqL K H l xs ∧ -(2 ^ 63) ≤ k ∧ k < 2 ^ 63 ∧ xs.length * k.toNat ≤ sizeLine ∧
  ∀ p, H p = none → Q (.ref p) (upd H p (.lst (List.replicate k.toNat xs).flatten))
theorem op_repR : OpR X (binaryOp .Mult) (rRepR X.K) := by
  intro pins s σ H x y v u Q I rx ry ⟨l, k, xs, ex, ey, hl, k1, k2, hz, q⟩
  subst ex ey
  cases rx
  obtain ⟨t, rfl⟩ := ry
  obtain ⟨is1, r1, ⟨⟨c1, d1, t1, z1⟩, n1, g1, hc1, hd1, ht1⟩, _⟩ := I.list hl
  simp only at hc1 hd1 ht1
  subst hc1 hd1 ht1
  have l1 := r1.length
  have len : is1.toArray.size * k.toNat ≤ sizeLine := by
    rw [List.size_toArray, ← l1]; exact hz
  have fold : List.foldl (fun a c => a ++ c) #[] (List.replicate (if is1.toArray.isEmpty = true then 0 else k.toNat) is1.toArray)
      = (List.replicate k.toNat is1).flatten.toArray := by
    have f : ∀ m : Nat, List.foldl (fun a c => a ++ c) #[] (List.replicate m is1.toArray) = (List.replicate m is1).flatten.toArray := fun m => by
      simpa using foldl_rep is1 m []
    rw [f]
    cases is1 with
    | nil => simp
    | cons a r => simp
  have t0 : s.TypeIs (.ref l) "list" := ⟨_, g1, rfl⟩
  refine wpAny_binaryOp_repeat_ref (T := "list") (U := "int") (by decide) t0 (fun s' => typeIs_int s' k t)
    noFill_list_mul F.fills_int_mul F.slot_int_rmul repeat_list F.slot_int_index.lookup ?_
  refine call_meets F.slot_int_rmul (typeIs_int s k t) F.entry_int_rmul (F.args_int_rmul_2 _ _)
    (lm_int_rmul_list_any k t l is1.toArray n1 none z1) ⟨g1, rfl, t0, ?_⟩
  have b1 : is1.toArray.size * k.toNat ≤ 16777216 := by rw [← line24]; exact len
  refine call_meets F.slot_list_mul t0 F.entry_list_mul (F.args_list_mul_2 _ _)
    (lm_list_mul_any l is1.toArray n1 none z1 k t ?_ ?_ ?_) ⟨g1, ?_⟩
  · simp [Builtin.List.listFitsIndex]; omega
  · omega
  · simp [Builtin.List.listTooLong, line24]; simpa using b1
  rw [fold]
  have len2 : (List.replicate k.toNat xs).flatten.length ≤ sizeLine := by
    rw [PyProof.Rows.lm_len_rep_flat, Nat.mul_comm]; exact hz
  exact ⟨.ref _, _, I.lnew (t' := s.toks) (r1.rep k.toNat) len2, rfl, q _ I.fresh⟩
theorem tupMulSame (l : Addr) (items : Array Value) (n : Nat) (dd : Option Addr) (sl : Array (Option Value)) (x : Int) (u : Tok) (c0 : (decide (x < -(2 ^ 63)) || decide (x ≥ 2 ^ 63)) = false) (c1 : (items.isEmpty || x == 1) = true) :
    Meets (Builtin.«tuple.__mul__» ⟨[.ref l, .int x u], []⟩) (fun _ R s => s.heap.get? l = some { cls := .type "tuple", dict := dd, data := .seq items n, slots := sl } ∧ R (.ok (.ret (Value.ref l))) s) :=
  .of_wp fun prog w A R s h => by
    obtain ⟨hp, g, d, tk, os⟩ := s
    obtain ⟨hl, h⟩ := h
    have f1 := AutoSeq1.idx_int
    wp_walk using wpAny_loadPart' hl
    repeat (first
      | (refine wpAny_ite_false (decide_eq_false (by rw [c0]; exact Bool.false_ne_true)) ?_; wp_walk using wpAny_loadPart' hl)
      | (refine wpAny_ite_true (decide_eq_true c1) ?_; wp_walk using wpAny_loadPart' hl))
    exact ⟨_, rfl, h⟩
theorem tupMulNone (l : Addr) (items : Array Value) (n : Nat) (dd : Option Addr) (sl : Array (Option Value)) (x : Int) (u : Tok) (c0 : (decide (x < -(2 ^ 63)) || decide (x ≥ 2 ^ 63)) = false) (c1 : (items.isEmpty || x == 1) = false) (c2 : (decide (x ≤ 0) || items.isEmpty) = true) :
    Meets (Builtin.«tuple.__mul__» ⟨[.ref l, .int x u], []⟩) (fun _ R s => s.heap.get? l = some { cls := .type "tuple", dict := dd, data := .seq items n, slots := sl } ∧
      R (.ok (.ret (Value.ref s.heap.objs.size))) { s with heap := s.heap.push { cls := Value.type "tuple", data := Data.seq #[] }, toks := s.toks }) :=
  .of_wp fun prog w A R s h => by
    obtain ⟨hp, g, d, tk, os⟩ := s
    obtain ⟨hl, h⟩ := h
    have f1 := AutoSeq1.idx_int
    wp_walk using wpAny_loadPart' hl
    repeat (first
      | (refine wpAny_ite_false (decide_eq_false (by rw [c0]; exact Bool.false_ne_true)) ?_; wp_walk using wpAny_loadPart' hl)
      | (refine wpAny_ite_false (decide_eq_false (by rw [c1]; exact Bool.false_ne_true)) ?_; wp_walk using wpAny_loadPart' hl)
      | (refine wpAny_ite_true (decide_eq_true c2) ?_; wp_walk using wpAny_loadPart' hl))
    exact ⟨_, rfl, h⟩
def rMulT (K : PySem.W.Frag) : R2 := fun x y H Q => ∃ l k xs, x = .ref l ∧ y = .int k ∧ SqT K H l xs ∧ -(2 ^ 63) ≤ k ∧ k ≤ 1000 ∧ xs.length ≤ 1000 ∧ ((xs = [] ∨ k = 1) → Q (.ref l) H) ∧
  (¬ (xs = [] ∨ k = 1) → ∀ p, H p = none → Q (.ref p) (upd H p (.tup (List.replicate k.toNat xs).flatten)))
theorem op_mulT : OpR X (binaryOp .Mult) (rMulT X.K) := by
  intro pins s σ H x y v u Q I rx ry h
  obtain ⟨l, k, xs, rfl, rfl, hT, k1, k2, hz, q1, q2⟩ := h
  by_cases hs : xs = [] ∨ k = 1
  · cases rx
    obtain ⟨t, rfl⟩ := ry
    obtain ⟨its, r, ⟨⟨cls, dd, data, sl⟩, ho, hc, n, hd⟩, hsz⟩ := I.tuple hT
    simp only at hc hd
    subst hc hd
    have hle : its.length = xs.length := r.length.symm
    have c0 : (decide (k < -(2 ^ 63)) || decide (k ≥ 2 ^ 63)) = false := by
      rw [decide_eq_false (by omega), decide_eq_false (by omega)] <;> rfl
    have c1 : (its.toArray.isEmpty || k == 1) = true := by
      rcases hs with e | e
      · subst e
        have : its = [] := List.eq_nil_of_length_eq_zero hle
        subst this
        rfl
      · subst e
        simp
    refine wpAny_binaryOp_repeat_ref (T := "tuple") (U := "int") (by decide) ⟨_, ho, rfl⟩ (fun s' => typeIs_int s' k t) noFill_tuple_mul F.fills_int_mul F.slot_int_rmul repeat_tuple F.slot_int_index.lookup
      (call_meets F.slot_int_rmul (typeIs_int s k t) F.entry_int_rmul (F.args_int_rmul_2 _ _) (int_rmul_tuple k t l its.toArray n dd sl)
        ⟨ho, rfl, ⟨_, ho, rfl⟩, call_meets F.slot_tuple_mul ⟨_, ho, rfl⟩ F.entry_tuple_mul (F.args_tuple_mul_2 _ _) (tupMulSame l its.toArray n dd sl k t c0 c1) ⟨ho, ?_⟩⟩)
    exact ⟨.ref l, H, I, rfl, q1 hs⟩
  · have hne : xs ≠ [] := fun e => hs (.inl e)
    have hk1 : k ≠ 1 := fun e => hs (.inr e)
    by_cases hk : 2 ≤ k
    · exact op_repT pins s σ H _ _ v u Q I rx ry ⟨l, k, xs, rfl, rfl, hT, hne, hk, k2, hz, q2 hs⟩
    · cases rx
      obtain ⟨t, rfl⟩ := ry
      obtain ⟨its, r, ⟨⟨cls, dd, data, sl⟩, ho, hc, n, hd⟩, hsz⟩ := I.tuple hT
      simp only at hc hd
      subst hc hd
      have hle : its.length = xs.length := r.length.symm
      have hi : its.toArray.isEmpty = false := by
        cases its with
        | nil => exact absurd (List.eq_nil_of_length_eq_zero hle.symm) hne
        | cons a b => rfl
      have c0 : (decide (k < -(2 ^ 63)) || decide (k ≥ 2 ^ 63)) = false := by
        rw [decide_eq_false (by omega), decide_eq_false (by omega)] <;> rfl
      have c1 : (its.toArray.isEmpty || k == 1) = false := by
        rw [hi, Bool.false_or]
        exact beq_eq_false_iff_ne.mpr hk1
      have c2 : (decide (k ≤ 0) || its.toArray.isEmpty) = true := by
        rw [decide_eq_true (by omega)]
        rfl
      have e0 : (List.replicate k.toNat xs).flatten = [] := by
        rw [show k.toNat = 0 by omega]
        rfl
      rw [e0] at q2
      refine wpAny_binaryOp_repeat_ref (T := "tuple") (U := "int") (by decide) ⟨_, ho, rfl⟩ (fun s' => typeIs_int s' k t) noFill_tuple_mul F.fills_int_mul F.slot_int_rmul repeat_tuple F.slot_int_index.lookup
        (call_meets F.slot_int_rmul (typeIs_int s k t) F.entry_int_rmul (F.args_int_rmul_2 _ _) (int_rmul_tuple k t l its.toArray n dd sl)
          ⟨ho, rfl, ⟨_, ho, rfl⟩, call_meets F.slot_tuple_mul ⟨_, ho, rfl⟩ F.entry_tuple_mul (F.args_tuple_mul_2 _ _) (tupMulNone l its.toArray n dd sl k t c0 c1 c2) ⟨ho, ?_⟩⟩)
      refine ⟨.ref s.heap.objs.size, _, I.laid (t' := s.toks) (o := .tup []) (fun b ob q => Heap.get?_push_of_some _ q) (Nat.le_refl _) ?_, rfl, q2 hs _ (I.hok.fresh (Nat.le_refl _))⟩
      exact ⟨Nat.zero_le _, _, .nil, IsTup.new _ _⟩
theorem mulOk_ok {i j : Int} (h : mulOk i j) : IntMulOk i j := by
  rcases h with h | h | h
  · exact .of_left (intBits_le_64 h.1 h.2)
  · exact .of_right (intBits_le_64 h.1 h.2)
  · have bd : ∀ x : Int, Builtin.Int.intBits x ≤ x.natAbs.log2 + 1 := fun x => by
      unfold Builtin.Int.intBits
      split <;> omega
    have h1 := bd i
    have h2 := bd j
    unfold IntMulOk
    intro z
    rw [Bool.and_eq_true] at z
    have z2 := of_decide_eq_true (show decide _ = true from z.2)
    rw [bitsLine_eq] at z2
    omega
/-- what comes of two values -/
def rBin (K : PySem.W.Frag) (o : Operator) : R2 := fun x y H Q => ∃ F d e Qv, Sub F H ∧ Dp K F x d ∧ Dp K F y e ∧ opW o d e Qv ∧
  ∀ v z H' F', Same H H' → Sub F F' → Sub F' H' → New F F' H → VR K H F' H' z v → Qv v → Q z H'
theorem opBin (hq : Pyl X) (o : Operator) : OpR X (binaryOp o) (rBin X.K o) := by
  intro pins s σ H x y v u Q I rx ry ⟨F, d, e, Qv, sb, hx, hy, w, k⟩
  have kInt : ∀ n : Int, Qv (.d (.int n)) → Q (.int n) H := fun n q => k (.d (.int n)) _ H F (.refl H) (.refl F) sb .refl (Dp.int n) q
  cases o with
  | Add =>
    cases d with
    | int i =>
      cases e with
      | int j =>
        cases dpInt hx; cases dpInt hy
        exact op_add pins s σ H _ _ v u Q I rx ry ⟨i, j, rfl, rfl, kInt _ w⟩
      | _ => exact w.elim
    | str i =>
      cases e with
      | str j =>
        cases dpStr hx; cases dpStr hy
        exact op_add_str pins s σ H _ _ v u Q I rx ry ⟨i, j, rfl, rfl, by rw [line24]; exact w.1, k (.d (.str (i ++ j))) _ H F (.refl H) (.refl F) sb .refl (Dp.str _) w.2⟩
      | _ => exact w.elim
    | list a =>
      cases e with
      | list c =>
        obtain ⟨l, xs, rfl, r1, a1⟩ := dpLst hx
        obtain ⟨m, ys, rfl, r2, a2⟩ := dpLst hy
        refine op_catR pins s σ H _ _ v u Q I rx ry ⟨l, m, xs, ys, rfl, rfl, sqlSub sb r1, sqlSub sb r2, by rw [line24, daLen a1, daLen a2]; exact w.1, fun p hp => ?_⟩
        exact k (.own (a ++ c)) _ _ F (same_upd hp) (.refl F) (sb.upd (sb.none hp)) .refl ⟨p, _, rfl, upd_same, daApp a1 a2, sb.none hp, hp⟩ w.2
      | _ => exact w.elim
    | tuple a =>
      cases e with
      | tuple c =>
        obtain ⟨l, xs, rfl, r1, a1⟩ := dpTup hx
        obtain ⟨m, ys, rfl, r2, a2⟩ := dpTup hy
        refine op_catA pins s σ H _ _ v u Q I rx ry ⟨l, m, xs, ys, rfl, rfl, (sqtSub sb r1), (sqtSub sb r2), by rw [line24, daLen a1, daLen a2]; exact w.1, fun h0 => ?_, fun _ h0 => ?_, fun _ _ p hp => ?_⟩
        · subst h0
          cases a1
          exact k (.d (.tuple c)) _ H F (.refl H) (.refl F) sb .refl hy w.2
        · subst h0
          cases a2
          have w2 := w.2
          rw [List.append_nil] at w2
          exact k (.d (.tuple a)) _ H F (.refl H) (.refl F) sb .refl hx w2
        · exact k (.d (.tuple (a ++ c))) _ _ (upd F p _) (same_upd hp) (sub_updF (sb.none hp)) sb.upd2 (.add hp) (Dp.tup (.inl (.inl upd_same)) (daSub (sub_updF (sb.none hp)) (daApp a1 a2))) w.2
      | _ => exact w.elim
    | _ => exact w.elim
  | Sub =>
    cases d with
    | int i =>
      cases e with
      | int j =>
        cases dpInt hx; cases dpInt hy
        exact op_sub pins s σ H _ _ v u Q I rx ry ⟨i, j, rfl, rfl, kInt _ w⟩
      | _ => exact w.elim
    | _ => exact w.elim
  | Mult =>
    cases d with
    | int i =>
      cases e with
      | int j =>
        cases dpInt hx; cases dpInt hy
        obtain ⟨t, rfl⟩ := rx
        obtain ⟨t', rfl⟩ := ry
        exact mul_int ⟨.int _, H, I.tok _, ⟨_, rfl⟩, kInt _ w.2⟩ (mulOk_ok w.1)
      | _ => exact w.elim
    | list a =>
      cases e with
      | int j =>
        obtain ⟨l, xs, rfl, r1, a1⟩ := dpLst hx
        cases dpInt hy
        refine op_repR pins s σ H _ _ v u Q I rx ry ⟨l, j, xs, rfl, rfl, sqlSub sb r1, w.1, w.2.1, by rw [line24, daLen a1]; exact w.2.2.1, fun p hp => ?_⟩
        exact k (.own _) _ _ F (same_upd hp) (.refl F) (sb.upd (sb.none hp)) .refl ⟨p, _, rfl, upd_same, daRep a1 _, sb.none hp, hp⟩ w.2.2.2
      | _ => exact w.elim
    | tuple a =>
      cases e with
      | int j =>
        obtain ⟨l, xs, rfl, r1, a1⟩ := dpTup hx
        cases dpInt hy
        refine op_mulT pins s σ H _ _ v u Q I rx ry ⟨l, j, xs, rfl, rfl, (sqtSub sb r1), w.1, w.2.1, by rw [daLen a1]; exact w.2.2.1, fun h0 => ?_, fun h0 p hp => ?_⟩
        · have e0 : (List.replicate j.toNat a).flatten = a := by
            rcases h0 with h0 | h0
            · subst h0
              cases a1
              simp
            · subst h0
              simp
          have w2 := w.2.2.2
          rw [e0] at w2
          exact k (.d (.tuple a)) _ H F (.refl H) (.refl F) sb .refl hx w2
        · exact k (.d (.tuple (List.replicate j.toNat a).flatten)) _ _ (upd F p _) (same_upd hp) (sub_updF (sb.none hp)) sb.upd2 (.add hp) (Dp.tup (.inl (.inl upd_same)) (daSub (sub_updF (sb.none hp)) (daRep a1 _))) w.2.2.2
      | _ => exact w.elim
    | _ => exact w.elim
  | FloorDiv =>
    cases d with
    | int i =>
      cases e with
      | int j =>
        cases dpInt hx; cases dpInt hy
        obtain ⟨t, rfl⟩ := rx
        obtain ⟨t', rfl⟩ := ry
        exact floordiv_int w.1 ⟨.int _, H, I.tok _, ⟨_, rfl⟩, kInt _ w.2⟩ (.inr (hq _ _ _ _ I))
      | _ => exact w.elim
    | _ => exact w.elim
  | Mod =>
    cases d with
    | int i =>
      cases e with
      | int j =>
        cases dpInt hx; cases dpInt hy
        exact op_modN pins s σ H _ _ v u Q I rx ry ⟨i, j, rfl, rfl, w.1, kInt _ w.2⟩
      | _ => exact w.elim
    | _ => exact w.elim
  | Pow =>
    cases d with
    | int i =>
      cases e with
      | int j =>
        cases dpInt hx; cases dpInt hy
        have q := w.2.2.1
        exact op_pow pins s σ H _ _ v u Q I rx ry ⟨i, j, rfl, rfl, ⟨w.1, w.2.1, by unfold small64 at q; omega⟩, kInt _ w.2.2.2⟩
      | _ => exact w.elim
    | _ => exact w.elim
  | LShift =>
    cases d with
    | int i =>
      cases e with
      | int j =>
        cases dpInt hx; cases dpInt hy
        have q := w.2.2.1
        exact op_shl pins s σ H _ _ v u Q I rx ry ⟨i, j, rfl, rfl, ⟨w.1, w.2.1, by unfold small64 at q; omega⟩, kInt _ w.2.2.2⟩
      | _ => exact w.elim
    | _ => exact w.elim
  | RShift =>
    cases d with
    | int i =>
      cases e with
      | int j =>
        cases dpInt hx; cases dpInt hy
        exact op_shr pins s σ H _ _ v u Q I rx ry ⟨i, j, rfl, rfl, w.1, kInt _ w.2⟩
      | _ => exact w.elim
    | _ => exact w.elim
  | BitAnd =>
    cases d with
    | int i =>
      cases e with
      | int j =>
        cases dpInt hx; cases dpInt hy
        exact op_and pins s σ H _ _ v u Q I rx ry ⟨i, j, rfl, rfl, kInt _ w⟩
      | _ => exact w.elim
    | _ => exact w.elim
  | _ => exact w.elim
/-- two values set beside each other -/
def rCmp (K : PySem.W.Frag) (o : CmpOp) : R2 := fun x y H Q => ∃ d e Qv, Dp K H x d ∧ Dp K H y e ∧ cmpW o d e Qv ∧ ∀ c, Qv c → Q (.bl c) H
theorem lex_ge : ∀ (k i : Nat) (ns ms : List Int), k = min ns.length ms.length - i → i ≤ min ns.length ms.length →
    Ob.lexAt (fun j => decide (ns.getD j 0 = ms.getD j 0)) (fun j => decide (ms.getD j 0 ≤ ns.getD j 0)) (decide (ns.length ≥ ms.length)) i k = geI (ns.drop i) (ms.drop i)
  | 0, i, ns, ms, hk, hi => by
    rw [Ob.lexAt_zero]
    rcases Nat.lt_or_ge ns.length ms.length with h | h
    · have e : ns.drop i = [] := List.drop_eq_nil_of_le (by omega)
      rw [e, decide_eq_false (by omega), List.drop_eq_getElem_cons (show i < ms.length by omega)]
      rfl
    · have e : ms.drop i = [] := List.drop_eq_nil_of_le (by omega)
      rw [e, decide_eq_true h]
      cases ns.drop i <;> rfl
  | k + 1, i, ns, ms, hk, hi => by
    have h1 : i < ns.length := by omega
    have h2 : i < ms.length := by omega
    rw [Ob.lexAt_succ, List.drop_eq_getElem_cons h1, List.drop_eq_getElem_cons h2, lex_ge k (i + 1) ns ms (by omega) (by omega)]
    have e1 : ns.getD i 0 = ns[i] := by simp [h1]
    have e2 : ms.getD i 0 = ms[i] := by simp [h2]
    rw [e1, e2]
    show _ = if ns[i] = ms[i] then _ else _
    by_cases e : ns[i] = ms[i]
    · rw [decide_eq_true e, if_pos rfl, if_pos e]
    · rw [decide_eq_false e, if_neg Bool.false_ne_true, if_neg e]
theorem op_geT {X : Cx} (hu : X.A.units < cLine) : OpR X (compareOp .GtE) (fun x y H Q => ∃ (a b : Addr) (ns ms : List Int), x = .ref a ∧ y = .ref b ∧ SqT X.K H a (ns.map V.int) ∧ SqT X.K H b (ms.map V.int) ∧ Q (.bl (geI ns ms)) H) := by
  intro pins s σ H x y v u Q I rx ry h
  obtain ⟨a, b, ns, ms, rfl, rfl, ha, hb, q⟩ := h
  cases rx
  cases ry
  obtain ⟨its, r1, p1, _⟩ := I.tuple ha
  obtain ⟨its2, r2, p2, _⟩ := I.tuple hb
  have i1 : IntsAre its ns := Vals.ints r1
  have i2 : IntsAre its2 ms := Vals.ints r2
  have e1 : its.toArray.size = ns.length := by rw [List.size_toArray]; exact i1.length
  have e2 : its2.toArray.size = ms.length := by rw [List.size_toArray]; exact i2.length
  have at1 : ∀ j (h1 : j < its.toArray.size), ∃ t, its.toArray[j] = .int (ns.getD j 0) t := fun j h1 => PyProof.Rows.IntsAre.int_at i1 _ _ (by simp at h1; simp [h1])
  have at2 : ∀ j (h1 : j < its2.toArray.size), ∃ t, its2.toArray[j] = .int (ms.getD j 0) t := fun j h1 => PyProof.Rows.IntsAre.int_at i2 _ _ (by simp at h1; simp [h1])
  have R := Ob.RcOp.tuples_ge (A := X.A) (s := s) (e := fun j => decide (ns.getD j 0 = ms.getD j 0)) (r := fun j => decide (ms.getD j 0 ≤ ns.getD j 0)) p1 p2 hu (fun j h1 h2 => by
    obtain ⟨t, et⟩ := at1 j h1
    obtain ⟨t', et'⟩ := at2 j h2
    rw [et, et']
    have z : (ns.getD j 0 == ms.getD j 0) = decide (ns.getD j 0 = ms.getD j 0) := by
      by_cases q : ns.getD j 0 = ms.getD j 0
      · rw [decide_eq_true q]; exact beq_iff_eq.mpr q
      · rw [decide_eq_false q]; exact beq_eq_false_iff_ne.mpr q
    rw [← z]
    exact SeqAt.EqAt.int_int _ _ _ _) (fun j h1 h2 _ => by
    obtain ⟨t, et⟩ := at1 j h1
    obtain ⟨t', et'⟩ := at2 j h2
    rw [et, et']
    exact Ob.RcOp.ge_int _ _ _ _)
  rw [e1, e2, lex_ge _ 0 ns ms (by omega) (by omega), List.drop_zero, List.drop_zero] at R
  have z : wpAny (model X.prog X.w) X.A (compareOp .GtE (.ref a) (.ref b)) (EP X pins σ Q) X.xe s := R X.prog X.w X.xe (EP X pins σ Q) ⟨.bl _, H, I, rfl, q⟩
  exact z
theorem opCmp (hu : X.A.units + 64 < cLine) (o : CmpOp) : OpR X (compareOp o) (rCmp X.K o) := by
  intro pins s σ H x y v u Q I rx ry ⟨d, e, Qv, hx, hy, w, k⟩
  cases o with
  | Eq =>
    have gen : SeqAt.shaped d = true ∧ SeqAt.shaped e = true ∧ Qv (PyData.eqv d e) → wpAny (model X.prog X.w) X.A (compareOp .Eq v u) (EP X pins σ Q) X.xe s := fun w =>
      op_eqD hu pins s σ H x y v u Q I rx ry ⟨d, e, dpOutS w.1 hx, dpOutS w.2.1 hy, w.1, w.2.1, k _ w.2.2⟩
    cases d with
    | int i =>
      cases e with
      | int j =>
        cases dpInt hx; cases dpInt hy
        exact op_eq pins s σ H _ _ v u Q I rx ry ⟨rfl, by rw [show decide (V.int i = V.int j) = decide (i = j) by simp]; exact k _ w⟩
      | _ => exact gen w
    | _ => exact gen w
  | NotEq =>
    have gen : SeqAt.shaped d = true ∧ SeqAt.shaped e = true ∧ Qv (!PyData.eqv d e) → wpAny (model X.prog X.w) X.A (compareOp .NotEq v u) (EP X pins σ Q) X.xe s := fun w =>
      op_neD hu pins s σ H x y v u Q I rx ry ⟨d, e, dpOutS w.1 hx, dpOutS w.2.1 hy, w.1, w.2.1, k _ w.2.2⟩
    cases d with
    | int i =>
      cases e with
      | int j =>
        cases dpInt hx; cases dpInt hy
        exact op_ne pins s σ H _ _ v u Q I rx ry ⟨rfl, by rw [show decide (V.int i = V.int j) = decide (i = j) by simp]; exact k _ w⟩
      | _ => exact gen w
    | _ => exact gen w
  | Lt =>
    cases d with
    | int i =>
      cases e with
      | int j =>
        cases dpInt hx; cases dpInt hy
        exact op_lt pins s σ H _ _ v u Q I rx ry ⟨i, j, rfl, rfl, k _ w⟩
      | _ => exact w.elim
    | _ => exact w.elim
  | LtE =>
    cases d with
    | int i =>
      cases e with
      | int j =>
        cases dpInt hx; cases dpInt hy
        exact op_le pins s σ H _ _ v u Q I rx ry ⟨i, j, rfl, rfl, k _ w⟩
      | _ => exact w.elim
    | _ => exact w.elim
  | Gt =>
    cases d with
    | int i =>
      cases e with
      | int j =>
        cases dpInt hx; cases dpInt hy
        exact op_gt pins s σ H _ _ v u Q I rx ry ⟨i, j, rfl, rfl, k _ w⟩
      | _ => exact w.elim
    | _ => exact w.elim
  | GtE =>
    cases d with
    | int i =>
      cases e with
      | int j =>
        cases dpInt hx; cases dpInt hy
        exact op_ge pins s σ H _ _ v u Q I rx ry ⟨i, j, rfl, rfl, k _ w⟩
      | _ => exact w.elim
    | tuple xs =>
      cases e with
      | tuple ys =>
        obtain ⟨ns, ms, e1, e2, w⟩ := w
        obtain ⟨a, vs, rfl, q1, da⟩ := dpTup hx
        obtain ⟨c, ws, rfl, q2, db⟩ := dpTup hy
        rw [asInts_of da e1] at q1
        rw [asInts_of db e2] at q2
        exact op_geT (by omega) pins s σ H _ _ v u Q I rx ry ⟨a, c, ns, ms, rfl, rfl, q1, q2, k _ w⟩
      | _ => exact w.elim
    | _ => exact w.elim
  | Is =>
    cases e with
    | none =>
      cases dpNon hy
      exact op_isN pins s σ H x _ v u Q I rx ry ⟨rfl, by rw [dpIsNon hx]; cases d <;> exact k _ w⟩
    | bool c =>
      cases d with
      | bool a =>
        cases dpBl hx; cases dpBl hy
        exact op_isBl pins s σ H _ _ v u Q I rx ry ⟨a, c, rfl, rfl, k _ w⟩
      | _ => exact w.elim
    | _ => cases d <;> exact w.elim
  | IsNot =>
    cases e with
    | none =>
      cases dpNon hy
      exact op_notN pins s σ H x _ v u Q I rx ry ⟨rfl, by rw [dpIsNon hx]; cases d <;> exact k _ w⟩
    | bool c =>
      cases d with
      | bool a =>
        cases dpBl hx; cases dpBl hy
        exact op_notBl pins s σ H _ _ v u Q I rx ry ⟨a, c, rfl, rfl, k _ w⟩
      | _ => exact w.elim
    | _ => cases d <;> exact w.elim
  | _ => exact w.elim
end
end Rc

/-! What the terms mean holds of the text: expressions. -/
namespace Rc
open PySem PySem.Spec PyProof.Rows L2
/-- plain in a test -/
def Pln (X : Cx) (e : Expr) : Prop := ∀ whole, isTrue e X.env whole = (do let v ← whole; standAt e.pos; holding [v] (truthy v))
section
variable (fns : List FnI) (cls : List Str) (N : List Str) (C : Nat → Addr) (Φ : Fs) (k : Nat)
structure Sn (i : IE) : Prop where
  e : ∀ (b : Bd) (X : Cx) (sc : Scope), b.C = C → Cok fns cls N C Φ k X sc b.W → ∀ e, chk fns N i sc [e] = true → PE X e (rdE X.K b (wE Φ i))
  t : ∀ (b : Bd) (X : Cx) (sc : Scope), b.C = C → Cok fns cls N C Φ k X sc b.W → ∀ e, chk fns N i sc [e] = true → PT X e (rdT X.K b (wE Φ i))
  w : ∀ (b : Bd) (X : Cx) (sc : Scope), b.C = C → Cok fns cls N C Φ k X sc b.W → ∀ op es pos, chk fns N i sc [.BoolOp op es pos] = true → PW X (.BoolOp op es pos) (rdT X.K b (wE Φ i))
  a : ∀ (b : Bd) (X : Cx) (sc : Scope), b.C = C → Cok fns cls N C Φ k X sc b.W → isL i = true → ∀ es, chk fns N i sc (dm :: dm :: es) = true → PA X es (rdA X.K b (wE Φ i))
  ap : ∀ (b : Bd) (X : Cx) (sc : Scope), b.C = C → Cok fns cls N C Φ k X sc b.W → isLP i = true → ∀ es, chk fns N i sc (dm :: dm :: es) = true → PA X es (rdAP X.K b (wE Φ i))
  i : ∀ (b : Bd) (X : Cx) (sc : Scope), b.C = C → Cok fns cls N C Φ k X sc b.W → isIt i = true → ∀ e tg, chk fns N i sc [e, tg] = true → PI X tg e (rdI X.K b (wE Φ i))
end
section
variable {fns : List FnI} {cls : List Str} {N : List Str} {C : Nat → Addr} {Φ : Fs} {k : Nat} {X : Cx} {b : Bd} {sc : Scope}
theorem nmB_of {j : Nat} {x : Str} (h : nmB N j x = true) : N[j]? = some x ∧ (x == ("__debug__" : Str)) = false ∧ (x == ("__classdict__" : Str)) = false := by
  unfold nmB at h
  simp only [Bool.and_eq_true, decide_eq_true_eq, Bool.not_eq_true'] at h
  exact ⟨h.1.1, h.1.2, h.2⟩
theorem visB_of {x : Str} (h : visB sc x = true) : Vis sc x := by
  unfold visB at h
  split at h
  · exact .inl (by assumption)
  · exact .inr (.inl (by assumption))
  · exact .inr (.inr (by assumption))
  · cases h
theorem locB_of {x : Str} (h : locB sc x = true) : Loc sc x := by
  unfold locB at h
  split at h
  · exact .inl (by assumption)
  · exact .inr (by assumption)
  · cases h
theorem lclB_of {x : Str} (h : lclB sc x = true) : sc.names.lookup x = some .local := by
  unfold lclB at h
  split at h
  · assumption
  · cases h
theorem glB_of {x : Str} (ok : Cok fns cls N C Φ k X sc b.W) (h : glB sc x = true) : Gl X x := by
  unfold glB at h
  split at h
  · rename_i q
    show X.env.scope.names.lookup x = _
    rw [ok.esc]; exact q
  · cases h
theorem peVar (ok : Cok fns cls N C Φ k X sc b.W) {j : Nat} {x : Str} {p : Pos} (h : (nmB N j x && visB sc x) = true) : PE X (.Name x p) (tVar j) := by
  rw [Bool.and_eq_true] at h
  obtain ⟨h1, h2, h3⟩ := nmB_of h.1
  exact pe_var (by rw [ok.eN]; exact h1) (by rw [ok.esc]; exact visB_of h.2) h2 h3
/-- a look at an operand -/
theorem pkE (ok : Cok fns cls N C Φ k X sc b.W) (hC : b.C = C) {i : IE} (s : Sn fns cls N C Φ k i) {e : Expr} (h : chk fns N i sc [e] = true) :
    PE X e (rdP X.K b (fun ε Xp q => pkW i ε (fun T => wE Φ i ε Xp T) q)) := by
  have gen : isVar i = none → PE X e (rdP X.K b (fun ε Xp q => pkW i ε (fun T => wE Φ i ε Xp T) q)) := fun hn => by
    refine peImp (peD (s.e b X sc hC ok e h)) fun σ H Q ⟨ε, F, Xp, Qp, R, w, ex, kk⟩ => ⟨ε, F, Xp, Qp, R, ?_, ex, fun d ε' H' F' x s f R' a q => kk d ε' H' F' x s f R' (.inl a) q⟩
    unfold pkW at w
    rw [hn] at w
    exact w
  cases i with
  | var j =>
    cases e with
    | Name x p =>
      refine peImp (peVar ok h) fun σ H Q ⟨ε, F, Xp, Qp, R, w, ex, kk⟩ => ?_
      have w' : peek ε j Qp := w
      unfold peek at w'
      split at w'
      · rename_i y hy
        obtain ⟨v, e1, d1⟩ := R.dat j y hy
        exact ⟨v, e1, kk y ε H F v (.refl H) (.refl F) R (.inl d1) w'⟩
      · rename_i ys hy
        obtain ⟨p, vs, e1, h1, h2, h3, h4⟩ := R.own j ys hy
        exact ⟨.ref p, e1, kk _ ε H F _ (.refl H) (.refl F) R (.inr ⟨p, vs, ys, rfl, rfl, h1, h2, h4.2⟩) w'⟩
      · exact w'.elim
    | _ => exact absurd h Bool.false_ne_true
  | _ => exact gen rfl
theorem vrVat {K : PySem.W.Frag} {H0 : Zn} {F0 F H F' H' : Hp} {σ : St} {ε : Ev} {x : V} {v : Val} (R : Rep K H0 F0 F H σ ε) (h : VR K H F' H' x v) : VAt K H0 F' H' σ ε x v := by
  cases v with
  | d y => exact h
  | own ys =>
    obtain ⟨p, vs, e, h1, h2, h3, h4⟩ := h
    exact ⟨p, vs, e, h1, h2, h3, R.no h4, R.offNew h4⟩
  | many _ => exact h.elim
  | exc _ => exact h.elim
  | lent _ => exact h.elim
  | two _ _ => exact h.elim
  | twoO _ _ => exact h.elim
  | dI _ => exact h.elim
  | dT _ => exact h.elim

/-! ### one by one -/
theorem eVar (ok : Cok fns cls N C Φ k X sc b.W) {j : Nat} {x : Str} {p : Pos} (h : (nmB N j x && visB sc x) = true) : PE X (.Name x p) (rdE X.K b (wE Φ (.var j))) :=
  peImp (peVar ok h) fun σ H Q ⟨ε, F, Xp, Qp, R, w, ex, kk⟩ => by
    unfold wE at w
    split at w
    · rename_i y hy
      obtain ⟨v, e1, d1⟩ := R.dat j y hy
      exact ⟨v, e1, kk (.d y) ε H F v (.refl H) (.refl F) R d1 w⟩
    · rename_i ys hy
      obtain ⟨v, F', e1, f1, R1, d1⟩ := R.still hy
      exact ⟨v, e1, kk (.d (.list ys)) _ H F' v (.refl H) f1 R1 d1 w⟩
    · exact w.elim
theorem eMov (ok : Cok fns cls N C Φ k X sc b.W) {j : Nat} {x : Str} {p : Pos} (h : (nmB N j x && visB sc x) = true) : PE X (.Name x p) (rdE X.K b (wE Φ (.mov j))) :=
  peImp (peVar ok h) fun σ H Q ⟨ε, F, Xp, Qp, R, w, ex, kk⟩ => by
    unfold wE at w
    split at w
    · rename_i y hy
      obtain ⟨v, e1, d1⟩ := R.dat j y hy
      exact ⟨v, e1, kk (.d y) ε H F v (.refl H) (.refl F) R d1 w⟩
    · rename_i ys hy
      obtain ⟨v, e1, R1, d1⟩ := R.move hy
      exact ⟨v, e1, kk (.own ys) _ H F v (.refl H) (.refl F) R1 d1 w⟩
    · exact w.elim
theorem eCst {c : D} {q : Const} {n : Nat} {p : Pos} (h : litB c q = true) : PE X (.Constant q n p) (rdE X.K b (wE Φ (.cst c))) := by
  have fin : ∀ (v : V), (∀ F, Dp X.K F v c) → ∀ σ H Q, rdE X.K b (wE Φ (.cst c)) σ H Q → tC v σ H Q := fun v hv σ H Q ⟨ε, F, Xp, Qp, R, w, ex, kk⟩ =>
    kk (.d c) ε H F v (.refl H) (.refl F) R (hv F) w
  cases c with
  | none =>
    cases q with
    | none => exact peImp pe_non (fin _ fun _ => .non)
    | _ => exact absurd h Bool.false_ne_true
  | bool x =>
    cases q with
    | bool y => cases (beq_iff_eq.mp h); exact peImp pe_bl (fin _ fun _ => .bl _)
    | _ => exact absurd h Bool.false_ne_true
  | int x =>
    cases q with
    | int y => cases (beq_iff_eq.mp h); exact peImp pe_int (fin _ fun _ => .int _)
    | _ => exact absurd h Bool.false_ne_true
  | str x =>
    cases q with
    | str y => cases (of_decide_eq_true h); exact peImp pe_str (fin _ fun _ => .str _)
    | _ => exact absurd h Bool.false_ne_true
  | _ => exact absurd h Bool.false_ne_true
theorem eTup {a : IE} {es : List Expr} {n : Nat} {p : Pos} (h : PA X es (rdA X.K b (wE Φ a))) : PE X (.Tuple es n p) (rdE X.K b (wE Φ (.tup a))) :=
  peImp (pe_tup h) fun σ H Q ⟨ε, F, Xp, Qp, R, w, ex, kk⟩ =>
    ⟨ε, F, Xp, _, R, w, ex, fun ds ε' H' F' xs s f R' d q => ⟨by rw [line24, daLen d]; exact q.1, fun p hp =>
      kk (.d (.tuple ds)) ε' _ (upd F' p (.tup xs)) _ (s.trans (.of (same_upd hp))) (f.trans (sub_updF (R'.fh.none hp))) (R'.tup _ hp) (Dp.tup (.inl (.inl upd_same)) (daSub (sub_updF (R'.fh.none hp)) d)) q.2⟩⟩
theorem eLst {a : IE} {es : List Expr} {p : Pos} (h : PA X es (rdA X.K b (wE Φ a))) : PE X (.List es p) (rdE X.K b (wE Φ (.lst a))) :=
  peImp (pe_lst h) fun σ H Q ⟨ε, F, Xp, Qp, R, w, ex, kk⟩ =>
    ⟨ε, F, Xp, _, R, w, ex, fun ds ε' H' F' xs s f R' d q => ⟨by rw [line24, daLen d]; exact q.1, fun p hp =>
      kk (.own ds) ε' _ F' _ (s.trans (.of (same_upd hp))) f (R'.lst _ hp) (.newL R' hp d) q.2⟩⟩
theorem eBin (ok : Cok fns cls N C Φ k X sc b.W) {o : Operator} {i j : IE} {l r : Expr} {p : Pos} (h1 : PE X l (rdE X.K b (wE Φ i))) (h2 : PE X r (rdE X.K b (wE Φ j))) : PE X (.BinOp l o r p) (rdE X.K b (wE Φ (.bin o i j))) :=
  peImp (pe_op (opBin ok.pyl o) (peD h1) (peD h2)) fun σ H Q ⟨ε, F, Xp, Qp, R, w, ex, kk⟩ =>
    ⟨ε, F, Xp, _, R, w, ex, fun d ε1 H1 F1 x s1 f1 R1 d1 q1 => ⟨ε1, F1, Xp, _, R1, q1, ex.mono s1, fun e ε2 H2 F2 y s2 f2 R2 d2 q2 =>
      ⟨F2, d, e, _, R2.fh, dpSub f2 d1, d2, q2, fun v z H3 F3 s3 f3 g3 n3 vr q3 => kk v ε2 H3 F3 z ((s1.trans s2).trans (.of s3)) ((f1.trans f2).trans f3) (R2.grow s3 f3 g3 n3) (vrVat R2 vr) q3⟩⟩⟩
theorem eCmp (ok : Cok fns cls N C Φ k X sc b.W) {o : CmpOp} (ho : o ≠ .In) (ho2 : o ≠ .NotIn) {i j : IE} {l r : Expr} {p : Pos} (h1 : PE X l (rdP X.K b (fun ε Xp q => pkW i ε (fun T => wE Φ i ε Xp T) q))) (h2 : PE X r (rdP X.K b (fun ε Xp q => pkW j ε (fun T => wE Φ j ε Xp T) q))) :
    PE X (.Compare l [o] [r] p) (rdE X.K b (wE Φ (.cmp o i j))) ∧ PT X (.Compare l [o] [r] p) (rdT X.K b (wE Φ (.cmp o i j))) := by
  refine ⟨peImp (pe_cmpR (opCmp ok.room.units o) h1 h2 (nomark _ ho ho2)) fun σ H Q ⟨ε, F, Xp, Qp, R, w, ex, kk⟩ => ?_,
    ptImp (pt_cmpR (opCmp ok.room.units o) h1 h2 (nomark _ ho ho2)) fun σ H Q ⟨ε, F, Xp, Qp, R, w, ex, kk⟩ => ?_⟩
  · exact ⟨ε, F, Xp, _, R, w, ex, fun d ε1 H1 F1 x s1 f1 R1 d1 q1 => ⟨ε1, F1, Xp, _, R1, q1, ex.mono s1, fun e ε2 H2 F2 y s2 f2 R2 d2 q2 =>
      ⟨d, e, _, (PAt.mono f2 s2 d1).dp R2.fh, d2.dp R2.fh, q2, fun c q => kk (.d (.bool c)) ε2 H2 F2 _ (s1.trans s2) (f1.trans f2) R2 (Dp.bl c) q⟩⟩⟩
  · exact ⟨ε, F, Xp, _, R, w, ex, fun d ε1 H1 F1 x s1 f1 R1 d1 q1 => ⟨ε1, F1, Xp, _, R1, q1, ex.mono s1, fun e ε2 H2 F2 y s2 f2 R2 d2 q2 =>
      ⟨d, e, _, (PAt.mono f2 s2 d1).dp R2.fh, d2.dp R2.fh, q2, fun c q => ⟨c, rfl, kk c ε2 H2 F2 (s1.trans s2) (f1.trans f2) R2 q⟩⟩⟩⟩
theorem eNeg {i : IE} {e : Expr} {p : Pos} (h : PE X e (rdE X.K b (wE Φ i))) : PE X (.UnaryOp .USub e p) (rdE X.K b (wE Φ (.neg i))) :=
  peImp (pe_un un_neg (peD h)) fun σ H Q ⟨ε, F, Xp, Qp, R, w, ex, kk⟩ =>
    ⟨ε, F, Xp, _, R, w, ex, fun d ε1 H1 F1 x s1 f1 R1 d1 q1 => by
      cases d with
      | int n => exact ⟨n, dpInt d1, kk (.d (.int (-n))) ε1 H1 F1 _ s1 f1 R1 (Dp.int _) q1⟩
      | _ => exact q1.elim⟩
theorem eNot {i : IE} {e : Expr} {p : Pos} (h : PE X e (rdE X.K b (wE Φ i))) (ht : PT X e (rdT X.K b (wE Φ i))) :
    PE X (.UnaryOp .Not e p) (rdE X.K b (wE Φ (.bnot i))) ∧ PT X (.UnaryOp .Not e p) (rdT X.K b (wE Φ (.bnot i))) := by
  refine ⟨peImp (pe_not (peD h)) fun σ H Q ⟨ε, F, Xp, Qp, R, w, ex, kk⟩ => ?_, ptImp (pt_not ht) fun σ H Q ⟨ε, F, Xp, Qp, R, w, ex, kk⟩ => ?_⟩
  · refine ⟨ε, F, Xp, (fun d ε1 => match d with
      | .bool c => Qp (.d (.bool (!c))) ε1
      | _ => False), R, ?_, ex, fun d ε1 H1 F1 x s1 f1 R1 d1 q1 => ?_⟩
    · have e1 : (kB fun b ε1 => Qp (.d (.bool (!b))) ε1) = (kD fun d ε1 => match d with
        | .bool c => Qp (.d (.bool (!c))) ε1
        | _ => False) := by
        funext v ε1
        cases v with
        | d y => cases y <;> rfl
        | _ => rfl
      rw [← e1]; exact w
    · cases d with
      | bool c => exact ⟨c, dpBl d1, kk (.d (.bool (!c))) ε1 H1 F1 _ s1 f1 R1 (Dp.bl _) q1⟩
      | _ => exact q1.elim
  · exact ⟨ε, F, Xp, _, R, w, ex, fun d ε1 H1 F1 s1 f1 R1 q1 => kk (!d) ε1 H1 F1 s1 f1 R1 q1⟩
/-- a truth as a value -/
theorem kB_kD (f : Bool → Ev → Prop) : kB f = kD fun d ε1 => match d with
    | .bool c => f c ε1
    | _ => False := by
  funext v ε1
  cases v with
  | d y => cases y <;> rfl
  | _ => rfl
theorem peB {T : Ev → XP → KE → Prop} {e : Expr} (h : PE X e (rdE X.K b T)) : PE X e (fun σ H Q => rdT X.K b T σ H fun c H1 => Q (.bl c) H1) :=
  peImp (peD h) fun σ H Q ⟨ε, F, Xp, Qp, R, w, ex, kk⟩ => by
    rw [kB_kD] at w
    refine ⟨ε, F, Xp, _, R, w, ex, fun d ε1 H1 F1 x s1 f1 R1 d1 q1 => ?_⟩
    cases d with
    | bool c => rw [dpBl d1]; exact kk c ε1 H1 F1 s1 f1 R1 q1
    | _ => exact q1.elim
theorem eAnd {i j : IE} {x y : Expr} {rest : List Expr} {p : Pos} (h1 : PE X x (rdE X.K b (wE Φ i))) (t1 : PT X x (rdT X.K b (wE Φ i)))
    (h2 : PE X (.BoolOp .And (y :: rest) p) (rdE X.K b (wE Φ j))) (w2 : PW X (.BoolOp .And (y :: rest) p) (rdT X.K b (wE Φ j))) :
    PE X (.BoolOp .And (x :: y :: rest) p) (rdE X.K b (wE Φ (.band i j))) ∧ PW X (.BoolOp .And (x :: y :: rest) p) (rdT X.K b (wE Φ (.band i j))) := by
  refine ⟨peImp (pe_and (peB h1) h2) fun σ H Q ⟨ε, F, Xp, Qp, R, w, ex, kk⟩ => ?_, pwImp (pw_and t1 w2) fun σ H Q ⟨ε, F, Xp, Qp, R, w, ex, kk⟩ => ?_⟩
  · refine ⟨ε, F, Xp, _, R, w, ex, fun d ε1 H1 F1 s1 f1 R1 q1 => ⟨d, rfl, ?_⟩⟩
    cases d with
    | true => exact ⟨ε1, F1, Xp, Qp, R1, q1, ex.mono s1, fun v ε2 H2 F2 z s2 f2 R2 a q => kk v ε2 H2 F2 z (s1.trans s2) (f1.trans f2) R2 a q⟩
    | false => exact kk (.d (.bool false)) ε1 H1 F1 _ s1 f1 R1 (Dp.bl _) q1
  · refine ⟨ε, F, Xp, _, R, w, ex, fun d ε1 H1 F1 s1 f1 R1 q1 => ?_⟩
    cases d with
    | true => exact ⟨ε1, F1, Xp, Qp, R1, q1, ex.mono s1, fun v ε2 H2 F2 s2 f2 R2 q => kk v ε2 H2 F2 (s1.trans s2) (f1.trans f2) R2 q⟩
    | false => exact kk false ε1 H1 F1 s1 f1 R1 q1
theorem eOr {i j : IE} {x y : Expr} {rest : List Expr} {p : Pos} (h1 : PE X x (rdE X.K b (wE Φ i))) (t1 : PT X x (rdT X.K b (wE Φ i)))
    (h2 : PE X (.BoolOp .Or (y :: rest) p) (rdE X.K b (wE Φ j))) (w2 : PW X (.BoolOp .Or (y :: rest) p) (rdT X.K b (wE Φ j))) :
    PE X (.BoolOp .Or (x :: y :: rest) p) (rdE X.K b (wE Φ (.bor i j))) ∧ PW X (.BoolOp .Or (x :: y :: rest) p) (rdT X.K b (wE Φ (.bor i j))) := by
  refine ⟨peImp (pe_or (peB h1) h2) fun σ H Q ⟨ε, F, Xp, Qp, R, w, ex, kk⟩ => ?_, pwImp (pw_or t1 w2) fun σ H Q ⟨ε, F, Xp, Qp, R, w, ex, kk⟩ => ?_⟩
  · refine ⟨ε, F, Xp, _, R, w, ex, fun d ε1 H1 F1 s1 f1 R1 q1 => ⟨d, rfl, ?_⟩⟩
    cases d with
    | false => exact ⟨ε1, F1, Xp, Qp, R1, q1, ex.mono s1, fun v ε2 H2 F2 z s2 f2 R2 a q => kk v ε2 H2 F2 z (s1.trans s2) (f1.trans f2) R2 a q⟩
    | true => exact kk (.d (.bool true)) ε1 H1 F1 _ s1 f1 R1 (Dp.bl _) q1
  · refine ⟨ε, F, Xp, _, R, w, ex, fun d ε1 H1 F1 s1 f1 R1 q1 => ?_⟩
    cases d with
    | false => exact ⟨ε1, F1, Xp, Qp, R1, q1, ex.mono s1, fun v ε2 H2 F2 s2 f2 R2 q => kk v ε2 H2 F2 (s1.trans s2) (f1.trans f2) R2 q⟩
    | true => exact kk true ε1 H1 F1 s1 f1 R1 q1
theorem eOne {i : IE} {op : BoolOp} {x : Expr} {p : Pos} (h1 : PE X x (rdE X.K b (wE Φ i))) (t1 : PT X x (rdT X.K b (wE Φ i))) :
    PE X (.BoolOp op [x] p) (rdE X.K b (wE Φ (.bone i))) ∧ PW X (.BoolOp op [x] p) (rdT X.K b (wE Φ (.bone i))) := by
  refine ⟨peImp (pe_one (peD h1)) fun σ H Q ⟨ε, F, Xp, Qp, R, w, ex, kk⟩ => ⟨ε, F, Xp, _, R, w, ex, fun d ε1 H1 F1 z s1 f1 R1 d1 q1 => kk (.d d) ε1 H1 F1 z s1 f1 R1 d1 q1⟩, ?_⟩
  have tt : ∀ σ H Q, rdT X.K b (wE Φ (.bone i)) σ H Q → rdT X.K b (wE Φ i) σ H Q := fun σ H Q ⟨ε, F, Xp, Qp, R, w, ex, kk⟩ => by
    refine ⟨ε, F, Xp, Qp, R, ?_, ex, kk⟩
    have e1 : (kD fun x ε1 => kB Qp (.d x) ε1) = kB Qp := by
      funext v ε1
      cases v <;> rfl
    have w' : wE Φ i ε Xp (kD fun x ε1 => kB Qp (.d x) ε1) := w
    rw [e1] at w'
    exact w'
  cases op with
  | And => exact pwImp (pw_and1 t1) tt
  | Or => exact pwImp (pw_or1 t1) tt
theorem eIte {c i j : IE} {t x y : Expr} {p : Pos} (h0 : PT X t (rdT X.K b (wE Φ c))) (h1 : PE X x (rdE X.K b (wE Φ i))) (h2 : PE X y (rdE X.K b (wE Φ j))) :
    PE X (.IfExp t x y p) (rdE X.K b (wE Φ (.ite c i j))) :=
  peImp (pe_ifExp h0 h1 h2) fun σ H Q ⟨ε, F, Xp, Qp, R, w, ex, kk⟩ => by
    refine ⟨ε, F, Xp, _, R, w, ex, fun d ε1 H1 F1 s1 f1 R1 q1 => ?_⟩
    cases d with
    | false => exact ⟨ε1, F1, Xp, Qp, R1, q1, ex.mono s1, fun v ε2 H2 F2 z s2 f2 R2 a q => kk v ε2 H2 F2 z (s1.trans s2) (f1.trans f2) R2 a q⟩
    | true => exact ⟨ε1, F1, Xp, Qp, R1, q1, ex.mono s1, fun v ε2 H2 F2 z s2 f2 R2 a q => kk v ε2 H2 F2 z (s1.trans s2) (f1.trans f2) R2 a q⟩
theorem atI_da {K : PySem.W.Frag} {F : Hp} {vs : List V} {ds : List D} {i : Int} {d : D} (h : DpAll K F vs ds) (e : atI ds i = some d) : ∃ v, atI vs i = some v ∧ Dp K F v d := by
  unfold atI at e ⊢
  rw [daLen h]
  cases q : ixN ds.length i with
  | none => rw [q] at e; cases e
  | some j =>
    rw [q] at e
    exact daGet' h e
theorem eIx {i j : IE} {x y : Expr} {p : Pos} (hy : plainE y = true) (h1 : PE X x (rdP X.K b (fun ε Xp q => pkW i ε (fun T => wE Φ i ε Xp T) q))) (h2 : PE X y (rdE X.K b (wE Φ j))) :
    PE X (.Subscript x y p) (rdE X.K b (wE Φ (.ix i j))) :=
  peImp (pe_ix (ix_list.or ix_tup) h1 (peD h2) (plainIx hy)) fun σ H Q ⟨ε, F, Xp, Qp, R, w, ex, kk⟩ => by
    refine ⟨ε, F, Xp, _, R, w, ex, fun d ε1 H1 F1 x s1 f1 R1 d1 q1 => ⟨ε1, F1, Xp, _, R1, q1, ex.mono s1, fun e ε2 H2 F2 y s2 f2 R2 d2 q2 => ?_⟩⟩
    have d3 := PAt.mono f2 s2 d1
    have fin : ∀ {z : V} {v : D}, Dp X.K F2 z v → Qp (.d v) ε2 → Q z H2 := fun {z v} a q => kk (.d v) ε2 H2 F2 z (s1.trans s2) (f1.trans f2) R2 a q
    cases d with
    | list xs =>
      cases e with
      | int n =>
        obtain ⟨v, e1, q3⟩ := q2
        rcases d3 with d3 | ⟨r, vs, ys, rfl, e2, h3, h4⟩
        · obtain ⟨a, vs, rfl, r1, a1⟩ := dpLst d3
          obtain ⟨z, g1, g2⟩ := atI_da a1 e1
          exact .inl ⟨a, vs, n, z, rfl, dpInt d2, sqlSub R2.fh r1, g1, fin g2 q3⟩
        · cases e2
          obtain ⟨z, g1, g2⟩ := atI_da h4.1 e1
          exact .inl ⟨r, vs, n, z, rfl, dpInt d2, .inl (.inl h3), g1, fin g2 q3⟩
      | _ => exact q2.elim
    | tuple xs =>
      cases e with
      | int n =>
        obtain ⟨v, e1, q3⟩ := q2
        rcases d3 with d3 | ⟨r, vs, ys, rfl, e2, h3, h4⟩
        · obtain ⟨a, vs, rfl, r1, a1⟩ := dpTup d3
          obtain ⟨z, g1, g2⟩ := atI_da a1 e1
          exact .inr ⟨a, vs, n, z, rfl, dpInt d2, (sqtSub R2.fh r1), g1, fin g2 q3⟩
        · cases e2
      | _ => exact q2.elim
    | _ => exact q2.elim
def rdO (K : PySem.W.Frag) (b : Bd) (T : Ev → XP → (Option Int → Ev → Prop) → Prop) : TO := fun σ H Q => ∃ ε F Xp Qp, Rep K b.H0 b.F0 F H σ ε ∧ T ε Xp Qp ∧ Ex K b Xp σ H ∧
  ∀ d ε' H' F', SubZ b.H0 H H' → Sub F F' → Rep K b.H0 b.F0 F' H' σ ε' → Qp d ε' → Q d H'
theorem poOf {i : IE} {l : Option Expr} (h0 : l = none → isNil i = true) (h1 : ∀ e, l = some e → isNil i = false ∧ PE X e (rdE X.K b (wE Φ i))) :
    PO X l (rdO X.K b (fun ε Xp q => ptW i ε (fun T => wE Φ i ε Xp T) q)) := by
  cases l with
  | none =>
    have e0 := h0 rfl
    refine ⟨fun pins s σ H Q I hw => po_none.run pins s σ H Q I ?_⟩
    obtain ⟨ε, F, Xp, Qp, R, w, ex, kk⟩ := hw
    unfold ptW at w
    rw [if_pos e0] at w
    exact kk none ε H F (.refl H) (.refl F) R w
  | some e =>
    obtain ⟨e0, he⟩ := h1 e rfl
    refine ⟨fun pins s σ H Q I hw => (po_some (peD he)).run pins s σ H Q I ?_⟩
    obtain ⟨ε, F, Xp, Qp, R, w, ex, kk⟩ := hw
    unfold ptW at w
    rw [if_neg (by rw [e0]; exact Bool.false_ne_true)] at w
    refine ⟨ε, F, Xp, _, R, w, ex, fun d ε1 H1 F1 x s1 f1 R1 d1 q1 => ?_⟩
    cases d with
    | int n => exact ⟨n, dpInt d1, kk (some n) ε1 H1 F1 s1 f1 R1 q1⟩
    | _ => exact q1.elim
theorem cut_all {α : Type} {xs : List α} {lo hi : Option Int} (h : HT.sIx xs.length 0 lo = 0 ∧ HT.sIx xs.length xs.length hi = xs.length) : cut xs lo hi = xs := by
  unfold cut
  rw [h.1, h.2]
  simp
theorem eSl {i j l : IE} {x : Expr} {lo hi : Option Expr} {p p2 : Pos} (h1 : PE X x (rdP X.K b (fun ε Xp q => pkW i ε (fun T => wE Φ i ε Xp T) q)))
    (h2 : PO X lo (rdO X.K b (fun ε Xp q => ptW j ε (fun T => wE Φ j ε Xp T) q))) (h3 : PO X hi (rdO X.K b (fun ε Xp q => ptW l ε (fun T => wE Φ l ε Xp T) q))) :
    PE X (.Subscript x (.Slice lo hi none p2) p) (rdE X.K b (wE Φ (.sl i j l))) :=
  peImp (pe_slice (sl_list.or sl_tupA) h1 h2 h3) fun σ H Q ⟨ε, F, Xp, Qp, R, w, ex, kk⟩ => by
    refine ⟨ε, F, Xp, _, R, w, ex, fun d ε1 H1 F1 x s1 f1 R1 d1 q1 => ⟨ε1, F1, Xp, _, R1, q1, ex.mono s1, fun e ε2 H2 F2 s2 f2 R2 q2 => ⟨ε2, F2, Xp, _, R2, q2, (ex.mono s1).mono s2, fun g ε3 H3 F3 s3 f3 R3 q3 => ?_⟩⟩⟩
    have sA := (s1.trans s2).trans s3
    have fA := (f1.trans f2).trans f3
    have d3 := PAt.mono f3 s3 (PAt.mono f2 s2 d1)
    cases d with
    | list xs =>
      have go : ∀ {a : Addr} {vs : List V}, SqL X.K H3 a vs → DpAll X.K F3 vs xs → rSlL X.K (.ref a) e g H3 Q := fun {a vs} r1 a1 =>
        ⟨a, vs, rfl, r1, fun p hp => kk (.own (cut xs e g)) ε3 _ F3 _ (sA.trans (.of (same_upd hp))) fA (R3.lst _ hp) (.newL R3 hp (by rw [cutV_eq]; exact daCut a1 e g)) q3⟩
      rcases d3 with d3 | ⟨r, vs, ys, rfl, e2, h3, h4⟩
      · obtain ⟨a, vs, rfl, r1, a1⟩ := dpLst d3
        exact .inl (go (sqlSub R3.fh r1) a1)
      · cases e2
        exact .inl (go (.inl (.inl h3)) h4.1)
    | tuple xs =>
      rcases d3 with d3 | ⟨r, vs, ys, rfl, e2, h3, h4⟩
      · obtain ⟨a, vs, rfl, r1, a1⟩ := dpTup d3
        refine .inr ⟨a, vs, rfl, (sqtSub R3.fh r1), fun hw => ?_, fun hw p hp => ?_⟩
        · rw [daLen a1] at hw
          have q4 : Qp (.d (.tuple (cut xs e g))) ε3 := q3
          rw [cut_all hw] at q4
          exact kk (.d (.tuple xs)) ε3 H3 F3 _ sA fA R3 d3 q4
        · exact kk (.d (.tuple (cut xs e g))) ε3 _ (upd F3 p _) _ (sA.trans (.of (same_upd hp))) (fA.trans (sub_updF (R3.fh.none hp))) (R3.tup _ hp) (Dp.tup (.inl (.inl upd_same)) (daSub (sub_updF (R3.fh.none hp)) (by rw [cutV_eq]; exact daCut a1 e g))) q3
      · cases e2
    | _ => exact q3.elim
end
end Rc

/-! What the terms mean holds of the text: calls. -/
namespace Rc
open PySem PySem.Spec PyProof.Rows L2
section
variable {prog : Program} {w : World} {A : Around} {E : Value → Shared → Prop} {s : Shared}
theorem revPlaces (n : Nat) : Builtin.Slice.slicePlaces ((n : Int) - 1) (-1) (-1) = n := by
  unfold Builtin.Slice.slicePlaces
  have h1 : ¬ ((-1 : Int) > 0) := by omega
  simp only [h1, if_false, Int.neg_neg, Int.ediv_one]
  split <;> omega
theorem revAdjust (n : Nat) : Builtin.Slice.sliceAdjust none none (-1) (n : Int) = ((n : Int) - 1, -1) := by
  unfold Builtin.Slice.sliceAdjust
  simp
theorem sliceRev {sl : Addr} {vl vu vs : Value} {n : Nat} {Q : Int × Int × Nat → Shared → Prop} (hs : s.heap.IsSliceOf sl vl vu vs) (pl : IsPart vl none) (pu : IsPart vu none) (ps : IsPart vs (some (-1)))
    (h : Q ((n : Int) - 1, -1, n) s) : wpAny (model prog w) A (Builtin.Slice.sliceApplied (.ref sl) (pure (n : Int))) Q E s := by
  obtain ⟨os, hos, hcs, hds⟩ := id hs
  unfold Builtin.Slice.sliceApplied Builtin.Slice.sliceFields
  refine wpAny_bind (wpAny_bind (wpAny_field hos hds (x := vl) rfl (wpAny_bind (wpAny_field hos hds (x := vu) rfl (wpAny_bind (wpAny_field hos hds (x := vs) rfl (wpAny_pure ?_)))))))
  refine wpAny_bind (HT.slicePart_ ps ?_)
  show wpAny _ _ (if ((-1 : Int) == 0) = true then _ else _) _ _ s
  rw [if_neg (show ¬ (((-1 : Int) == 0) = true) by decide)]
  refine wpAny_bind (HT.slicePart_ pl (wpAny_bind (HT.slicePart_ pu (wpAny_bind (wpAny_pure ?_)))))
  show wpAny _ _ (match Builtin.Slice.sliceAdjust none none (-1) (n : Int) with | (a, b) => pure (a, (-1 : Int), Builtin.Slice.slicePlaces a b (-1))) _ _ s
  rw [revAdjust]
  show wpAny _ _ (pure ((n : Int) - 1, (-1 : Int), Builtin.Slice.slicePlaces ((n : Int) - 1) (-1) (-1))) _ _ s
  rw [revPlaces]
  exact wpAny_pure h
theorem revRange (n : Nat) : (List.range n).reverse = (List.range n).map (n - 1 - ·) := by
  apply List.ext_getElem
  · simp
  · intro i h1 h2
    simp
theorem fmCongr {α β : Type} {f g : α → Option β} : ∀ l : List α, (∀ m ∈ l, f m = g m) → l.filterMap f = l.filterMap g
  | [], _ => rfl
  | x :: r, h => by
    rw [List.filterMap_cons, List.filterMap_cons, h x (List.mem_cons_self ..), fmCongr r fun m hm => h m (List.mem_cons_of_mem _ hm)]
theorem revPick (xs : Array Value) : ((List.range xs.size).filterMap fun (m : Nat) => xs[((xs.size : Int) - 1 + (m : Int) * (-1)).toNat]?).toArray = xs.toList.reverse.toArray := by
  congr 1
  have e1 : (List.range xs.size).filterMap (fun (m : Nat) => xs[((xs.size : Int) - 1 + (m : Int) * (-1)).toNat]?) = (List.range xs.size).filterMap ((xs[·]?) ∘ (xs.size - 1 - ·)) := by
    refine fmCongr _ fun m hm => ?_
    have := List.mem_range.mp hm
    show xs[_]? = xs[xs.size - 1 - m]?
    rw [show ((xs.size : Int) - 1 + (m : Int) * (-1)).toNat = xs.size - 1 - m by omega]
  rw [e1, ← List.filterMap_map, ← revRange, List.filterMap_reverse]
  rw [PySem.W.krv_all]
theorem getItem_tupRev {t sl : Addr} {items : Array Value} {vl vu vs : Value} {Q : Value → Shared → Prop} (ht : IsTup s.heap t items) (hs : s.heap.IsSliceOf sl vl vu vs) (pl : IsPart vl none) (pu : IsPart vu none) (ps : IsPart vs (some (-1)))
    (h : Q (.ref s.heap.objs.size) { s with heap := s.heap.push { cls := .type "tuple", data := .seq items.toList.reverse.toArray } }) (hsz : items.size ≤ sizeLine) : wpAny (model prog w) A (getItem (.ref t) (.ref sl)) Q E s := by
  have hk : sizeOk (.seq items.toList.reverse.toArray) := by
    show items.toList.reverse.toArray.size ≤ sizeLine
    rw [List.size_toArray, List.length_reverse, Array.length_toList]
    exact hsz
  obtain ⟨os, hos, hcs, hds⟩ := id hs
  have hT : s.TypeIs (.ref sl) "slice" := ⟨os, hos, hcs⟩
  unfold getItem
  try with_reducible refine wpAny_holding ?_
  first | refine wpAny_bind (wpAny_pure ?_) | skip
  refine wpAny_bind (wpAny_sequenceKey ht.typeIs (by decide) ?_)
  refine wpAny_bind (wpAny_callSpecial?_slot (name := Str.ofString "__getitem__") ht.typeIs PyProof.Rows.slot_tuple_getitem (wpAny_call_entry PyProof.Rows.slot_tuple_getitem ht.typeIs entry_tuple_getitem ?_ (args_tuple_getitem _ _)))
  show wpAny _ _ (Builtin.Tuple.tupleItemsOf (.ref t) >>= _) _ _ s
  refine wpAny_bind (tupleItemsOf_ ht ?_)
  refine wpAny_bind (wpAny_typeOf hT ?_)
  rw [if_pos (by decide)]
  refine wpAny_bind (sliceRev hs pl pu ps ?_)
  have no : ¬ ((((items.size : Int) - 1) == 0 && (-1 : Int) == 1 && items.size == items.size) = true) := by
    intro q
    rw [Bool.and_eq_true, Bool.and_eq_true] at q
    exact absurd q.1.2 (by decide)
  show wpAny _ _ (if (((items.size : Int) - 1) == 0 && (-1 : Int) == 1 && items.size == items.size) = true then _ else _) _ _ s
  rw [if_neg no, revPick]
  first
    | exact wpAny_bind (m := Builtin.Tuple.tupleExact _) (wpAny_newObj_type (wpAny_pure ⟨_, rfl, wpAny_pure h⟩) hk)
    | exact wpAny_bind (m := Builtin.Tuple.tupleExact _) (wpAny_newObj_type (wpAny_bind (wpAny_pure (wpAny_pure ⟨_, rfl, wpAny_pure h⟩))) hk)
    | exact wpAny_bind (wpAny_bind (m := Builtin.Tuple.tupleExact _) (wpAny_newObj_type (wpAny_pure (wpAny_pure ⟨_, rfl, wpAny_pure h⟩)) hk))
    | exact wpAny_bind (wpAny_bind (m := Builtin.Tuple.tupleExact _) (wpAny_newObj_type (wpAny_pure ⟨_, rfl, wpAny_pure h⟩) hk))
end
section
variable {X : Cx}
/-- x[::-1], x a list or a tuple: a new one -/
def tRevA (K : PySem.W.Frag) (te : TE) : TE := fun σ H Q => te σ H fun x H1 => ∃ a xs, x = .ref a ∧ ((SqL K H1 a xs ∧ ∀ p, H1 p = none → Q (.ref p) (upd H1 p (.lst xs.reverse))) ∨ (SqT K H1 a xs ∧ ∀ p, H1 p = none → Q (.ref p) (upd H1 p (.tup xs.reverse))))
theorem pe_revA {e : Expr} {te : TE} {k : Nat} {p1 p2 p3 pos : Pos} (he : PE X e te) : PE X (.Subscript e (.Slice none none (some (.UnaryOp .USub (.Constant (.int 1) k p1) p2)) p3) pos) (tRevA X.K te) := by
  refine ⟨fun pins s σ H Q I h => ?_⟩
  refine Subscript_ (thn (he.run pins s σ H _ I h) fun v s1 ⟨x, H1, I1, r1, q1⟩ => ?_)
  obtain ⟨a, xs, ex, q⟩ := q1
  subst ex
  cases r1
  have minus : PO X (some (.UnaryOp .USub (.Constant (.int 1) k p1) p2)) (tPart (tUn (rU fun i => .int (-i)) (tC (.int 1)))) := po_some (pe_un un_neg pe_int)
  refine wpAny_Slice (thn (po_none.run pins s1 σ H1 (fun o H2 => o = none ∧ H2 = H1) I1 ⟨rfl, rfl⟩) fun vl s2 ⟨l, H2, I2, pl, el, e2⟩ => ?_)
  subst el
  subst e2
  refine thn (po_none.run pins s2 σ H2 (fun o H3 => o = none ∧ H3 = H2) I2 ⟨rfl, rfl⟩) fun vu s3 ⟨u, H3, I3, pu, eu, e3⟩ => ?_
  subst eu
  subst e3
  refine thn (minus.run pins s3 σ H3 (fun o H4 => o = some (-1) ∧ H4 = H3) I3 ⟨1, rfl, -1, rfl, rfl, rfl⟩) fun vs s4 ⟨o, H4, I4, ps, eo, e4⟩ => ?_
  subst eo
  subst e4
  have I5 : Inv X pins σ H4 { s4 with heap := s4.heap.push { cls := .type "slice", data := .fields #[vl, vu, vs] } } := I4.kept (t' := s4.toks) fun b ob q => Heap.get?_push_of_some _ q
  rcases q with ⟨hx, q⟩ | ⟨hx, q⟩
  · obtain ⟨its, r, ht, hz⟩ := I5.list hx
    have hl := r.length
    show wpAny (model X.prog X.w) X.A (subscriptTail e (.Slice none none (some (.UnaryOp .USub (.Constant (.int 1) k p1) p2)) p3) (.ref a) (.ref s4.heap.objs.size)) (EP X pins σ Q) X.xe _
    refine tail_any (ops := [.ref a, .ref s4.heap.objs.size]) ht.isList.typeIs (PySem.slot_list_getitem.lookup) ?_ (by with_unfolding_all rfl)
    refine wpAny_getItem_list_slice ht.isList (Heap.IsSliceOf.new _ vl vu vs) pl pu ps (by decide) ?_ (by rw [List.size_toArray]; omega)
    rw [PySem.W.krv_pick]
    refine ⟨.ref _, _, I5.laid (t' := s4.toks) (o := .lst xs.reverse) (fun b ob q => Heap.get?_push_of_some _ q) (Nat.le_refl _) ?_, rfl, q _ (I5.hok.fresh (Nat.le_refl _))⟩
    exact ⟨by rw [List.length_reverse]; exact hz, _, 0, r.reverse, Heap.get?_push_size _ rfl⟩
  · obtain ⟨its, r, ht, hz⟩ := I5.tuple hx
    have hl := r.length
    show wpAny (model X.prog X.w) X.A (subscriptTail e (.Slice none none (some (.UnaryOp .USub (.Constant (.int 1) k p1) p2)) p3) (.ref a) (.ref s4.heap.objs.size)) (EP X pins σ Q) X.xe _
    refine tail_any (ops := [.ref a, .ref s4.heap.objs.size]) ht.typeIs PyProof.Rows.slot_tuple_getitem.lookup ?_ (by with_unfolding_all rfl)
    refine getItem_tupRev ht (Heap.IsSliceOf.new _ vl vu vs) pl pu ps ?_ (by rw [List.size_toArray]; omega)
    refine ⟨.ref _, _, I5.laid (t' := s4.toks) (o := .tup xs.reverse) (fun b ob q => Heap.get?_push_of_some _ q) (Nat.le_refl _) ?_, rfl, q _ (I5.hok.fresh (Nat.le_refl _))⟩
    exact ⟨by rw [List.length_reverse]; exact hz, _, r.reverse, IsTup.new _ _⟩
end
section
variable {fns : List FnI} {cls : List Str} {N : List Str} {C : Nat → Addr} {Φ : Fs} {k : Nat} {X : Cx} {b : Bd} {sc : Scope}
theorem eRev {i : IE} {x : Expr} {n : Nat} {p p1 p2 p3 : Pos} (h1 : PE X x (rdP X.K b (fun ε Xp q => pkW i ε (fun T => wE Φ i ε Xp T) q))) :
    PE X (.Subscript x (.Slice none none (some (.UnaryOp .USub (.Constant (.int 1) n p1) p2)) p3) p) (rdE X.K b (wE Φ (.rev i))) :=
  peImp (pe_revA h1) fun σ H Q ⟨ε, F, Xp, Qp, R, w, ex, kk⟩ => by
    refine ⟨ε, F, Xp, _, R, w, ex, fun d ε1 H1 F1 x s1 f1 R1 d1 q1 => ?_⟩
    cases d with
    | list xs =>
      have go : ∀ {a : Addr} {vs : List V}, SqL X.K H1 a vs → DpAll X.K F1 vs xs → ∃ a' vs', V.ref a = .ref a' ∧ ((SqL X.K H1 a' vs' ∧ ∀ p, H1 p = none → Q (.ref p) (upd H1 p (.lst vs'.reverse))) ∨ (SqT X.K H1 a' vs' ∧ ∀ p, H1 p = none → Q (.ref p) (upd H1 p (.tup vs'.reverse)))) := fun {a vs} r1 a1 =>
        ⟨a, vs, rfl, .inl ⟨r1, fun p hp => kk (.own xs.reverse) ε1 _ F1 _ (s1.trans (.of (same_upd hp))) f1 (R1.lst _ hp) (.newL R1 hp (daRev a1)) q1⟩⟩
      rcases d1 with d3 | ⟨r, vs, ys, rfl, e2, h3, h4⟩
      · obtain ⟨a, vs, rfl, r1, a1⟩ := dpLst d3
        exact go (sqlSub R1.fh r1) a1
      · cases e2
        exact go (.inl (.inl h3)) h4.1
    | tuple xs =>
      rcases d1 with d3 | ⟨r, vs, ys, rfl, e2, h3, h4⟩
      · obtain ⟨a, vs, rfl, r1, a1⟩ := dpTup d3
        exact ⟨a, vs, rfl, .inr ⟨(sqtSub R1.fh r1), fun p hp => kk (.d (.tuple xs.reverse)) ε1 _ (upd F1 p _) _ (s1.trans (.of (same_upd hp))) (f1.trans (sub_updF (R1.fh.none hp))) (R1.tup _ hp) (Dp.tup (.inl (.inl upd_same)) (daSub (sub_updF (R1.fh.none hp)) (daRev a1))) q1⟩⟩
      · cases e2
    | _ => exact q1.elim
theorem fnB_of {f : Nat} {x : Str} (h : fnB fns f x = true) : ∃ fi, fns[f]? = some fi ∧ fi.con = none ∧ fi.name = x ∧ isLfn fi.body = false := by
  unfold fnB at h
  split at h
  · rename_i fi q
    rw [Bool.and_eq_true, Bool.and_eq_true, Bool.not_eq_true'] at h
    exact ⟨fi, q, by cases e : fi.con with
      | none => rfl
      | some _ => rw [e] at h; exact absurd h.1.2 Bool.false_ne_true, of_decide_eq_true h.1.1, h.2⟩
  · cases h
theorem fnL_of {f : Nat} {x : Str} (h : fnL fns f x = true) : ∃ fi, fns[f]? = some fi ∧ fi.con = none ∧ fi.name = x ∧ isLfn fi.body = true := by
  unfold fnL at h
  split at h
  · rename_i fi q
    rw [Bool.and_eq_true, Bool.and_eq_true] at h
    exact ⟨fi, q, by cases e : fi.con with
      | none => rfl
      | some _ => rw [e] at h; exact absurd h.1.2 Bool.false_ne_true, of_decide_eq_true h.1.1, h.2⟩
  · cases h
theorem specOf_no {K : PySem.W.Frag} {C : Nat → Addr} {fi : FnI} {φ : List D → (Nat → Prop) → (Val → Prop) → Prop} (h : isLfn fi.body = false) : specOf K C fi φ = spec K C fi.np φ := by
  unfold specOf
  rw [if_neg (by rw [h]; exact Bool.false_ne_true)]
theorem specOf_yes {K : PySem.W.Frag} {C : Nat → Addr} {fi : FnI} {φ : List D → (Nat → Prop) → (Val → Prop) → Prop} (h : isLfn fi.body = true) : specOf K C fi φ = specL K C fi.np φ := by
  unfold specOf
  rw [if_pos h]
/-- a call without arguments, what is raised wished for at the slots -/
theorem callS0 {CX : CXT} {n : Nat} {f : Addr} {fd : FuncData} {ps : List Str} {sp : Sp} {E : St → XK} {x : Str} {p pos : Pos} (F : FnOk X.prog X.w X.K X.mg X.base CX n f fd ps sp) (hr : Room n X.A) (hg : Gl X x) (hm : X.mg x = some (.ref f)) (hk : PySem.W.keepIn X.K (.ref f) = true)
    (hb : Binds X.K fd ps []) (hx : ∀ σ, PassesAt CX X σ (E σ)) (hdb : (x == ("__debug__" : Str)) = false) : PE X (.Call (.Name x p) [] [] pos) (tCallS sp E tNil) := by
  refine ⟨fun pins s σ H Q I h => ?_⟩
  refine wpAny_Call_Name_kw (ld_glob I hg hm ?_ hdb)
  exact PySem.W.callWith_K0 I.kIn hk (run_fnS (us := []) F hr hb (hx σ) I .nil h)
theorem noStars {env : Env} {pos : Pos} : ∀ {es : List Expr}, es.all plainE = true → (backTo pos (starEach es env)).any (·.1) = false
  | [], _ => rfl
  | e :: es, h => by
    rw [List.all_cons, Bool.and_eq_true] at h
    rw [starOf h.1]
    show (false || (backTo pos (starEach es env)).any (·.1)) = false
    rw [noStars h.2]
    rfl
theorem chkPlain {a : IE} (hl : isL a = true) : ∀ {es : List Expr}, chk fns N a sc (dm :: dm :: es) = true → es.all plainE = true := by
  induction a with
  | nil =>
    intro es h
    cases es with
    | nil => rfl
    | cons _ _ => exact absurd h Bool.false_ne_true
  | cons a r _ ih =>
    intro es h
    cases es with
    | nil => exact absurd h Bool.false_ne_true
    | cons e es =>
      have h' : (plainE e && chk fns N a sc [e] && isL r && chk fns N r sc (dm :: dm :: es)) = true := h
      simp only [Bool.and_eq_true] at h'
      rw [List.all_cons, h'.1.1.1, ih h'.1.2 h'.2]
      rfl
  | _ => exact absurd hl Bool.false_ne_true
theorem chkPlainP {a : IE} (hl : isLP a = true) : ∀ {es : List Expr}, chk fns N a sc (dm :: dm :: es) = true → es.all plainE = true := by
  induction a with
  | nil =>
    intro es h
    cases es with
    | nil => rfl
    | cons _ _ => exact absurd h Bool.false_ne_true
  | consP a r _ ih =>
    intro es h
    cases es with
    | nil => exact absurd h Bool.false_ne_true
    | cons e es =>
      have h' : (plainE e && chk fns N a sc [e] && isLP r && chk fns N r sc (dm :: dm :: es)) = true := h
      simp only [Bool.and_eq_true] at h'
      rw [List.all_cons, h'.1.1.1, ih h'.1.2 h'.2]
      rfl
  | _ => exact absurd hl Bool.false_ne_true
theorem specGo (ok : Cok fns cls N C Φ k X sc b.W) (hC : b.C = C) {f : Nat} {fi : FnI} (e : fns[f]? = some fi) {ε : Ev} {F H : Hp} {σ : St} {Xp : XP} {Qp : KE} {Q : VK} {vs : List V} {ds : List D}
    (R : Rep X.K b.H0 b.F0 F H σ ε) (ex : Ex X.K b Xp σ H) (kk : ∀ v ε' H' F' x, SubZ b.H0 H H' → Sub F F' → Rep X.K b.H0 b.F0 F' H' σ ε' → VAt X.K b.H0 F' H' σ ε' x v → Qp v ε' → Q x H')
    (d : DpAll X.K F vs ds) (w : Φ f ds (fun c => Xp c ε) fun v => Qp v ε) : spec X.K C fi.np (Φ f) vs H Q (WE b.W σ) := by
  refine ⟨F, ds, _, _, R.fh, d, ok.ar f fi ds _ _ e w, w, fun c H' s q => ?_, fun v H' F' x s f g n vr q => kk v ε H' F' x (.of s) f (R.grow s f g n) (vrVat R vr) q⟩
  rw [← hC]
  exact ex c ε H' F (.of s) (R.grow s (.refl F) (R.fh.trans s) .refl) q
/-- lists that were looked at move again: what is told has none of them in it -/
theorem unlook {K : PySem.W.Frag} {Z : Zn} {F F1 F2 H H' : Hp} (l : Lsts Z F F1 H) (sb : Sub F1 F2) (n : New F1 F2 H) : ∃ F3, Sub F F3 ∧ Sub F3 F2 ∧ New F F3 H ∧ (∀ a o, H a = none → F2 a = some o → F3 a = some o) ∧
    (∀ v x, noL x = true → Dp K F2 v x → Dp K F3 v x) ∧ (∀ vs xs, noLs xs = true → DpAll K F2 vs xs → DpAll K F3 vs xs) := by
  refine ⟨fun a => match H a with
    | some _ => F a
    | none => F2 a, fun a o h => ?_, fun a o h => ?_, fun a o h => ?_, fun a o q h => ?_, ?_⟩
  · show (match H a with
      | some _ => F a
      | none => F2 a) = some o
    rw [l.2.1 a o (l.1 a o h)]
    exact h
  · have h : (match H a with
      | some _ => F a
      | none => F2 a) = some o := h
    split at h
    · exact sb a o (l.1 a o h)
    · exact h
  · have h : (match H a with
      | some _ => F a
      | none => F2 a) = some o := h
    split at h
    · exact .inl h
    · rename_i q; exact .inr q
  · show (match H a with
      | some _ => F a
      | none => F2 a) = some o
    rw [q]
    exact h
  · have rd : ∀ {a : Addr} {u : HO}, (∀ ws, u ≠ .lst ws) → (∀ o' ws, u ≠ .frz o' (.lst ws)) → F2 a = some u → (match H a with
      | some _ => F a
      | none => F2 a) = some u := fun {a u} hu _ h => by
      cases q : H a with
      | none => exact h
      | some o =>
        rcases n a u h with g | g
        · rcases l.2.2 a u g with g | ⟨⟨ws, g⟩, _⟩
          · exact g
          · exact absurd g (hu ws)
        · rw [q] at g; cases g
    have sq : ∀ {a : Addr} {xs : List V}, SqT K F2 a xs → SqT K (fun a => match H a with
      | some _ => F a
      | none => F2 a) a xs := fun {a xs} h => by
      rcases h with h | h
      · rcases h with h | ⟨o, h⟩
        · exact .inl (.inl (rd (fun ws e => by cases e) (fun o' ws e => by cases e) h))
        · exact .inl (.inr ⟨o, rd (fun ws e => by cases e) (fun o' ws e => by cases e) h⟩)
      · exact .inr h
    have go : ∀ m : Nat, (∀ v x, sizeOf x < m → noL x = true → Dp K F2 v x → Dp K (fun a => match H a with
      | some _ => F a
      | none => F2 a) v x) ∧ ∀ vs xs, sizeOf xs < m → noLs xs = true → DpAll K F2 vs xs → DpAll K (fun a => match H a with
      | some _ => F a
      | none => F2 a) vs xs := by
      intro m
      induction m with
      | zero => exact ⟨fun _ _ h => absurd h (Nat.not_lt_zero _), fun _ _ h => absurd h (Nat.not_lt_zero _)⟩
      | succ m ih =>
        refine ⟨fun v x hm nl h => ?_, fun vs xs hm nl h => ?_⟩
        · cases h with
          | non => exact .non
          | bl c => exact .bl c
          | int c => exact .int c
          | str c => exact .str c
          | lst q r => unfold noL at nl; cases nl
          | dct q => unfold noL at nl; cases nl
          | tup q r =>
            unfold noL at nl
            exact .tup (sq q) (ih.2 _ _ (by simp at hm; omega) nl r)
        · cases h with
          | nil => exact .nil
          | cons a c =>
            unfold noLs at nl
            rw [Bool.and_eq_true] at nl
            exact .cons (ih.1 _ _ (by simp at hm; omega) nl.1 a) (ih.2 _ _ (by simp at hm; omega) nl.2 c)
    exact ⟨fun v x nl h => (go (sizeOf x + 1)).1 v x (Nat.lt_succ_self _) nl h, fun vs xs nl h => (go (sizeOf xs + 1)).2 vs xs (Nat.lt_succ_self _) nl h⟩
theorem flat_noL {y : D} (h : flat (.d y) = true) : noL y = true := by
  cases y with
  | none => rfl
  | bool _ => rfl
  | int _ => rfl
  | str _ => rfl
  | tuple xs => unfold noL; exact h
  | _ => exact absurd h Bool.false_ne_true
theorem specGoP (ok : Cok fns cls N C Φ k X sc b.W) (hC : b.C = C) {f : Nat} {fi : FnI} (e : fns[f]? = some fi) {ε : Ev} {F G1 H : Hp} {σ : St} {Xp : XP} {Qp : KE} {Q : VK} {vs : List V} {ds : List D}
    (R : Rep X.K b.H0 b.F0 F H σ ε) (ex : Ex X.K b Xp σ H) (kk : ∀ v ε' H' F' x, SubZ b.H0 H H' → Sub F F' → Rep X.K b.H0 b.F0 F' H' σ ε' → VAt X.K b.H0 F' H' σ ε' x v → Qp v ε' → Q x H')
    (l : Lsts b.H0 F G1 H) (d : DpAll X.K G1 vs ds) (w : Φ f ds (fun c => Xp c ε) fun v => flat v = true ∧ Qp v ε) : spec X.K C fi.np (Φ f) vs H Q (WE b.W σ) := by
  refine ⟨G1, ds, _, _, l.2.1, d, ok.ar f fi ds _ _ e w, w, fun c H' s q => ?_, fun v H' F' x s f g n vr q => ?_⟩
  · rw [← hC]
    exact ex c ε H' F (.of s) (R.grow s (.refl F) (R.fh.trans s) .refl) q
  · obtain ⟨F3, a1, a2, a3, a4, a5, a6⟩ := unlook (K := X.K) (H' := H') l f n
    have R' := R.grow s a1 (a2.trans g) a3
    refine kk v ε H' F3 x (.of s) a1 R' ?_ q.2
    have q1 := q.1
    cases v with
    | d y => exact a5 _ _ (flat_noL q1) vr
    | _ => exact absurd q1 Bool.false_ne_true
theorem eCall (ok : Cok fns cls N C Φ k X sc b.W) (hC : b.C = C) {f : Nat} {a : IE} (s : Sn fns cls N C Φ k a) {x : Str} {es : List Expr} {p pos : Pos}
    (h : (fnB fns f x && glB sc x && !(x == ("__debug__" : Str)) && isL a && chk fns N a sc (dm :: dm :: es)) = true) : PE X (.Call (.Name x p) es [] pos) (rdE X.K b (wE Φ (.call f a))) := by
  simp only [Bool.and_eq_true, Bool.not_eq_true'] at h
  obtain ⟨⟨⟨⟨hf, hg⟩, hdb⟩, hl⟩, hc⟩ := h
  have hp := chkPlain hl hc
  obtain ⟨fi, e, ec, rfl, lf⟩ := fnB_of hf
  obtain ⟨g, fd, hm, hk, hb, ho⟩ := ok.callee f fi e ec
  rw [specOf_no lf] at ho
  cases es with
  | nil =>
    cases a with
    | nil =>
      exact peImp (callS0 ho ok.room (glB_of ok hg) hm hk hb (fun σ => passAt ok.tk σ) hdb) fun σ H Q ⟨ε, F, Xp, Qp, R, w, ex, kk⟩ => specGo ok hC e R ex kk .nil w
    | cons _ _ => exact absurd hc Bool.false_ne_true
    | _ => exact absurd hl Bool.false_ne_true
  | cons e0 es =>
    rw [List.all_cons, Bool.and_eq_true] at hp
    exact peImp (pe_callS ho ok.room (glB_of ok hg) hm hk hb (fun σ => passAt ok.tk σ) (s.a b X sc hC ok hl _ hc) hdb (starOf hp.1) (noStars hp.2)) fun σ H Q ⟨ε, F, Xp, Qp, R, w, ex, kk⟩ =>
      ⟨ε, F, Xp, _, R, w, ex, fun ds ε1 H1 F1 xs s1 f1 R1 d1 q1 => specGo ok hC e R1 (ex.mono s1) (fun v ε' H' F' x s2 f2 R2 a q => kk v ε' H' F' x (s1.trans s2) (f1.trans f2) R2 a q) d1 q1⟩
theorem eCallP (ok : Cok fns cls N C Φ k X sc b.W) (hC : b.C = C) {f : Nat} {a : IE} (s : Sn fns cls N C Φ k a) {x : Str} {es : List Expr} {p pos : Pos}
    (h : (fnB fns f x && glB sc x && !(x == ("__debug__" : Str)) && isLP a && chk fns N a sc (dm :: dm :: es)) = true) : PE X (.Call (.Name x p) es [] pos) (rdE X.K b (wE Φ (.callP f a))) := by
  simp only [Bool.and_eq_true, Bool.not_eq_true'] at h
  obtain ⟨⟨⟨⟨hf, hg⟩, hdb⟩, hl⟩, hc⟩ := h
  have hp := chkPlainP hl hc
  obtain ⟨fi, e, ec, rfl, lf⟩ := fnB_of hf
  obtain ⟨g, fd, hm, hk, hb, ho⟩ := ok.callee f fi e ec
  rw [specOf_no lf] at ho
  cases es with
  | nil =>
    cases a with
    | nil =>
      exact peImp (callS0 ho ok.room (glB_of ok hg) hm hk hb (fun σ => passAt ok.tk σ) hdb) fun σ H Q ⟨ε, F, Xp, Qp, R, w, ex, kk⟩ => specGoP ok hC e R ex kk ⟨.refl F, R.fh, fun _ _ h => .inl h⟩ .nil w
    | consP _ _ => exact absurd hc Bool.false_ne_true
    | _ => exact absurd hl Bool.false_ne_true
  | cons e0 es =>
    rw [List.all_cons, Bool.and_eq_true] at hp
    exact peImp (pe_callS ho ok.room (glB_of ok hg) hm hk hb (fun σ => passAt ok.tk σ) (s.ap b X sc hC ok hl _ hc) hdb (starOf hp.1) (noStars hp.2)) fun σ H Q ⟨ε, F, Xp, Qp, R, w, ex, kk⟩ =>
      ⟨ε, F, Xp, _, R, w, ex, fun ds ε1 H1 F1 G1 xs s1 f1 R1 l1 d1 q1 => specGoP ok hC e R1 (ex.mono s1) (fun v ε' H' F' x s2 f2 R2 a q => kk v ε' H' F' x (s1.trans s2) (f1.trans f2) R2 a q) l1 d1 q1⟩

/-! ### what stands ready in the language -/
def rBi (K : PySem.W.Frag) (c : Bi) : List V → Hp → VK → Prop := fun xs H Q => ∃ F ds Qv, Sub F H ∧ DpAll K F xs ds ∧ biW c ds Qv ∧
  ∀ v z H' F', Same H H' → Sub F F' → Sub F' H' → New F F' H → VR K H F' H' z v → Qv v → Q z H'
def biVal : Bi → Value
  | .abs => .builtin "abs"
  | .int => .type "int"
  | .list => .type "list"
  | .tuple => .type "tuple"
  | .max => .builtin "max"
  | .min => .builtin "min"
  | .all => .builtin "all"
  | .any => .builtin "any"
  | .sum => .builtin "sum"
  | .str => .type "str"
theorem da1 {K : PySem.W.Frag} {F : Hp} {xs : List V} {d : D} (h : DpAll K F xs [d]) : ∃ v, xs = [v] ∧ Dp K F v d := by
  cases h with
  | cons a c => cases c; exact ⟨_, rfl, a⟩
theorem da2 {K : PySem.W.Frag} {F : Hp} {xs : List V} {d e : D} (h : DpAll K F xs [d, e]) : ∃ v u, xs = [v, u] ∧ Dp K F v d ∧ Dp K F u e := by
  cases h with
  | cons a c =>
    obtain ⟨u, rfl, q⟩ := da1 c
    exact ⟨_, u, rfl, a, q⟩
theorem cr_sumT (hc : X.calm = true) : CallR X (.builtin "sum") (fun vs H Q => ∃ (a : Addr) (ns : List Int), vs = [V.ref a] ∧ SqT X.K H a (ns.map V.int) ∧ Q (.int ns.sum) H) := by
  intro pins s σ H vs us Q I r h
  obtain ⟨a, ns, rfl, hs, q⟩ := h
  obtain ⟨its, rv, hl, _⟩ := I.tuple hs
  rw [Vals.ref1 r]
  have hi := rv.ints
  obtain ⟨xs, e⟩ := hi.allInts.items
  have hn : numsOf (intItems xs).toList = ns := by rw [← e]; exact hi.numsOf
  rw [nums_intItems] at hn
  rw [e] at hl
  refine PySem.W.ktm_sumG (I.ok.hd hc) hl fun h' tk t' hk => ?_
  rw [preSum_eq, List.take_of_length_le (by simp), hn]
  exact ⟨.int _, H, I.kept hk, ⟨_, rfl⟩, q⟩
theorem callBi (hc : X.calm = true) (c : Bi) : CallR X (biVal c) (rBi X.K c) := by
  intro pins s σ H xs us Q I r ⟨F, ds, Qv, sb, da, w, kk⟩
  have kA : ∀ (d : D) (z : V), Dp X.K F z d → Qv (.d d) → Q z H := fun d z a q => kk (.d d) z H F (.refl H) (.refl F) sb .refl a q
  have kL : ∀ (ys : List D) (vs : List V) (p : Addr), DpAll X.K F vs ys → H p = none → Qv (.own ys) → Q (.ref p) (upd H p (.lst vs)) := fun ys vs p a hp q =>
    kk (.own ys) _ _ F (same_upd hp) (.refl F) (sb.upd (sb.none hp)) .refl ⟨p, vs, rfl, upd_same, a, sb.none hp, hp⟩ q
  have kT : ∀ (ys : List D) (vs : List V) (p : Addr), DpAll X.K F vs ys → H p = none → Qv (.d (.tuple ys)) → Q (.ref p) (upd H p (.tup vs)) := fun ys vs p a hp q =>
    kk (.d (.tuple ys)) _ _ (upd F p _) (same_upd hp) (sub_updF (sb.none hp)) sb.upd2 (.add hp) (Dp.tup (.inl (.inl upd_same)) (daSub (sub_updF (sb.none hp)) a)) q
  have one : ∀ {P : Prop}, (∀ d, ds = [d] → P) → (∀ d e, ds = [d, e] → P) → P := fun {P} h1 h2 => by
    cases ds with
    | nil => cases c <;> exact w.elim
    | cons d r =>
      cases r with
      | nil => exact h1 d rfl
      | cons e r =>
        cases r with
        | nil => exact h2 d e rfl
        | cons _ _ => cases c <;> cases d <;> first | exact w.elim | (cases e <;> exact w.elim)
  refine one (fun d hd => ?_) (fun d e hd => ?_)
  · subst hd
    obtain ⟨v, rfl, a⟩ := da1 da
    cases c with
    | abs =>
      cases d with
      | int i => cases dpInt a; exact call_abs pins s σ H _ us Q I r ⟨i, rfl, kA _ _ (.int _) w⟩
      | _ => exact w.elim
    | int =>
      cases d with
      | int i => cases dpInt a; exact call_int1 pins s σ H _ us Q I r (.inl ⟨i, rfl, kA _ _ (.int _) w⟩)
      | bool i => cases dpBl a; exact call_int1 pins s σ H _ us Q I r (.inr ⟨i, rfl, kA _ _ (.int _) w⟩)
      | _ => exact w.elim
    | str =>
      cases d with
      | int i => cases dpInt a; exact call_str_int pins s σ H _ us Q I r ⟨i, rfl, w.1, kA _ _ (.str _) w.2⟩
      | _ => exact w.elim
    | list =>
      cases d with
      | list ys =>
        obtain ⟨l, vs, rfl, q, dv⟩ := dpLst a
        exact call_list_of pins s σ H _ us Q I r ⟨l, vs, rfl, .inl (sqlSub sb q), fun p hp => kL ys vs p dv hp w⟩
      | tuple ys =>
        obtain ⟨l, vs, rfl, q, dv⟩ := dpTup a
        exact call_list_of pins s σ H _ us Q I r ⟨l, vs, rfl, .inr ((sqtSub sb q)), fun p hp => kL ys vs p dv hp w⟩
      | _ => exact w.elim
    | tuple =>
      cases d with
      | list ys =>
        obtain ⟨l, vs, rfl, q, dv⟩ := dpLst a
        exact call_tuple_of pins s σ H _ us Q I r ⟨l, vs, rfl, .inl ⟨sqlSub sb q, fun p hp => kT ys vs p dv hp w⟩⟩
      | tuple ys =>
        obtain ⟨l, vs, rfl, q, dv⟩ := dpTup a
        exact call_tuple_of pins s σ H _ us Q I r ⟨l, vs, rfl, .inr ⟨(sqtSub sb q), kA _ _ a w⟩⟩
      | _ => exact w.elim
    | sum =>
      cases d with
      | list ys =>
        obtain ⟨l, vs, rfl, q, dv⟩ := dpLst a
        obtain ⟨ns, e1, q1⟩ := w
        cases asInts_of dv e1
        exact cr_sum hc pins s σ H _ us Q I r ⟨l, ns, rfl, sqlSub sb q, kA _ _ (.int _) q1⟩
      | tuple ys =>
        obtain ⟨l, vs, rfl, q, dv⟩ := dpTup a
        obtain ⟨ns, e1, q1⟩ := w
        cases asInts_of dv e1
        exact cr_sumT hc pins s σ H _ us Q I r ⟨l, ns, rfl, sqtSub sb q, kA _ _ (.int _) q1⟩
      | _ => exact w.elim
    | all =>
      cases d with
      | list ys =>
        obtain ⟨l, vs, rfl, q, dv⟩ := dpLst a
        obtain ⟨ns, e1, q1⟩ := w
        cases asBools_of dv e1
        exact cr_all hc pins s σ H _ us Q I r ⟨l, ns, rfl, sqlSub sb q, kA _ _ (.bl _) q1⟩
      | _ => exact w.elim
    | any =>
      cases d with
      | list ys =>
        obtain ⟨l, vs, rfl, q, dv⟩ := dpLst a
        obtain ⟨ns, e1, q1⟩ := w
        cases asBools_of dv e1
        exact cr_any hc pins s σ H _ us Q I r ⟨l, ns, rfl, sqlSub sb q, kA _ _ (.bl _) q1⟩
      | _ => exact w.elim
    | max =>
      cases d with
      | list ys =>
        obtain ⟨l, vs, rfl, q, dv⟩ := dpLst a
        obtain ⟨ns, m, e1, hm, ha, q1⟩ := w
        cases asInts_of dv e1
        refine cr_max hc pins s σ H _ us Q I r ⟨l, ns, rfl, sqlSub sb q, List.length_pos_of_mem hm, fun m' h1 h2 => ?_⟩
        have e2 : m' = m := by
          have := ha m' h1
          have := h2 m hm
          omega
        subst e2
        exact kA _ _ (.int _) q1
      | _ => exact w.elim
    | min =>
      cases d with
      | list ys =>
        obtain ⟨l, vs, rfl, q, dv⟩ := dpLst a
        obtain ⟨ns, m, e1, hm, ha, q1⟩ := w
        cases asInts_of dv e1
        refine cr_min hc pins s σ H _ us Q I r ⟨l, ns, rfl, sqlSub sb q, List.length_pos_of_mem hm, fun m' h1 h2 => ?_⟩
        have e2 : m' = m := by
          have := ha m' h1
          have := h2 m hm
          omega
        subst e2
        exact kA _ _ (.int _) q1
      | _ => exact w.elim
  · subst hd
    obtain ⟨v, u, rfl, a, a'⟩ := da2 da
    cases c with
    | max =>
      cases d with
      | int i =>
        cases e with
        | int j => cases dpInt a; cases dpInt a'; exact call_max2 hc pins s σ H _ us Q I r ⟨i, j, rfl, kA _ _ (.int _) w⟩
        | _ => exact w.elim
      | _ => exact w.elim
    | min =>
      cases d with
      | int i =>
        cases e with
        | int j => cases dpInt a; cases dpInt a'; exact call_min2 hc pins s σ H _ us Q I r ⟨i, j, rfl, kA _ _ (.int _) w⟩
        | _ => exact w.elim
      | _ => exact w.elim
    | _ => cases d <;> exact w.elim
theorem eBi (ok : Cok fns cls N C Φ k X sc b.W) (hC : b.C = C) {c : Bi} {a : IE} (s : Sn fns cls N C Φ k a) {x : Str} {e : Expr} {es : List Expr} {p pos : Pos}
    (h : (decide (biName c = x) && glB sc x && isL a && chk fns N a sc (dm :: dm :: e :: es)) = true) : PE X (.Call (.Name x p) (e :: es) [] pos) (rdE X.K b (wE Φ (.bi c a))) := by
  simp only [Bool.and_eq_true, decide_eq_true_eq] at h
  obtain ⟨⟨⟨rfl, hg⟩, hl⟩, hc⟩ := h
  have hp := chkPlain hl hc
  rw [List.all_cons, Bool.and_eq_true] at hp
  have ha := s.a b X sc hC ok hl _ hc
  have gl := glB_of ok hg
  have go : PE X (.Call (.Name (biName c) p) (e :: es) [] pos) (tCB (rBi X.K c) (rdA X.K b (wE Φ a))) := by
    have h0 := callBi (X := X) ok.calm c
    have st := starOf (es := es) (env := X.env) hp.1
    have ns := noStars (env := X.env) (pos := pos) hp.2
    cases c with
    | abs => exact pe_callB h0 gl (ok.blt _ (by decide)) (by decide +kernel) ha (by decide) (by decide) st ns
    | int => exact pe_callTy h0 gl (ok.blt _ (by decide)) (by decide +kernel) ha (by decide) (by decide) st ns
    | list => exact pe_callTy h0 gl (ok.blt _ (by decide)) (by decide +kernel) ha (by decide) (by decide) st ns
    | tuple => exact pe_callTy h0 gl (ok.blt _ (by decide)) (by decide +kernel) ha (by decide) (by decide) st ns
    | max => exact pe_callB h0 gl (ok.blt _ (by decide)) (by decide +kernel) ha (by decide) (by decide) st ns
    | min => exact pe_callB h0 gl (ok.blt _ (by decide)) (by decide +kernel) ha (by decide) (by decide) st ns
    | all => exact pe_callB h0 gl (ok.blt _ (by decide)) (by decide +kernel) ha (by decide) (by decide) st ns
    | any => exact pe_callB h0 gl (ok.blt _ (by decide)) (by decide +kernel) ha (by decide) (by decide) st ns
    | sum => exact pe_callB h0 gl (ok.blt _ (by decide)) (by decide +kernel) ha (by decide) (by decide) st ns
    | str => exact pe_callTy h0 gl (ok.blt _ (by decide)) (by decide +kernel) ha (by decide) (by decide) st ns
  exact peImp go fun σ H Q ⟨ε, F, Xp, Qp, R, w, ex, kk⟩ => ⟨ε, F, Xp, _, R, w, ex, fun ds ε1 H1 F1 xs s1 f1 R1 d1 q1 =>
    ⟨F1, ds, _, R1.fh, d1, q1, fun v z H' F' s f g n vr q => kk v ε1 H' F' z (s1.trans (.of s)) (f1.trans f) (R1.grow s f g n) (vrVat R1 vr) q⟩⟩
theorem patLen {K : PySem.W.Frag} {H0 : Zn} {F H : Hp} {v : V} {d : D} (sb : Sub F H) (h : PAt K H0 F H v d) {Q : Int → Prop} (w : lenW d Q) : ∃ p ys, v = .ref p ∧ (SqL K H p ys ∨ SqT K H p ys) ∧ Q ys.length := by
  cases d with
  | list xs =>
    rcases h with h | ⟨r, vs, ys, rfl, e2, h3, h4⟩
    · obtain ⟨a, vs, rfl, r1, a1⟩ := dpLst h
      exact ⟨a, vs, rfl, .inl (sqlSub sb r1), by rw [daLen a1]; exact w⟩
    · cases e2
      exact ⟨r, vs, rfl, .inl (.inl (.inl h3)), by rw [daLen h4.1]; exact w⟩
  | tuple xs =>
    rcases h with h | ⟨r, vs, ys, rfl, e2, h3, h4⟩
    · obtain ⟨a, vs, rfl, r1, a1⟩ := dpTup h
      exact ⟨a, vs, rfl, .inr ((sqtSub sb r1)), by rw [daLen a1]; exact w⟩
    · cases e2
  | _ => exact w.elim
theorem eLen (ok : Cok fns cls N C Φ k X sc b.W) {i : IE} {x : Str} {e : Expr} {p pos : Pos} (hx : x = "len") (hg : glB sc x = true) (he : plainE e = true) (h1 : PE X e (rdP X.K b (fun ε Xp q => pkW i ε (fun T => wE Φ i ε Xp T) q))) :
    PE X (.Call (.Name x p) [e] [] pos) (rdE X.K b (wE Φ (.len i))) := by
  subst hx
  refine peImp (pe_callB call_len_seq (glB_of ok hg) (ok.blt _ (by decide)) PySem.boot_len (pa_cons h1 pa_nil (starOf he)) (by decide) (by decide) (starOf he) rfl) fun σ H Q ⟨ε, F, Xp, Qp, R, w, ex, kk⟩ => ?_
  refine ⟨ε, F, Xp, _, R, w, ex, fun d ε1 H1 F1 x s1 f1 R1 d1 q1 => ?_⟩
  obtain ⟨p, ys, e1, q, q2⟩ := patLen R1.fh d1 q1
  subst e1
  exact ⟨p, ys, rfl, q, kk (.d (.int ys.length)) ε1 H1 F1 _ s1 f1 R1 (Dp.int _) q2⟩
theorem patItems {K : PySem.W.Frag} {H0 : Zn} {F H : Hp} {v : V} {d : D} {ds : List D} (sb : Sub F H) (h : PAt K H0 F H v d) (w : items d = some ds) : ∃ p ys, v = .ref p ∧ (SqL K H p ys ∨ SqT K H p ys) ∧ DpAll K F ys ds := by
  cases d with
  | list xs =>
    cases w
    rcases h with h | ⟨r, vs, ys, rfl, e2, h3, h4⟩
    · obtain ⟨a, vs, rfl, r1, a1⟩ := dpLst h
      exact ⟨a, vs, rfl, .inl (sqlSub sb r1), a1⟩
    · cases e2
      exact ⟨r, vs, rfl, .inl (.inl (.inl h3)), h4.1⟩
  | tuple xs =>
    cases w
    rcases h with h | ⟨r, vs, ys, rfl, e2, h3, h4⟩
    · obtain ⟨a, vs, rfl, r1, a1⟩ := dpTup h
      exact ⟨a, vs, rfl, .inr ((sqtSub sb r1)), a1⟩
    · cases e2
  | _ => cases w
theorem eLsc (ok : Cok fns cls N C Φ k X sc b.W) {i : IE} {x : Str} {e : Expr} {p pos : Pos} (hx : x = "list") (hg : glB sc x = true) (he : plainE e = true) (h1 : PE X e (rdP X.K b (fun ε Xp q => pkW i ε (fun T => wE Φ i ε Xp T) q))) :
    PE X (.Call (.Name x p) [e] [] pos) (rdE X.K b (wE Φ (.lsc i))) := by
  subst hx
  refine peImp (pe_callTy call_list_of (glB_of ok hg) (ok.blt _ (by decide)) (by decide +kernel) (pa_cons h1 pa_nil (starOf he)) (by decide) (by decide) (starOf he) rfl) fun σ H Q ⟨ε, F, Xp, Qp, R, w, ex, kk⟩ => ?_
  refine ⟨ε, F, Xp, _, R, w, ex, fun d ε1 H1 F1 x s1 f1 R1 d1 q1 => ?_⟩
  split at q1
  · rename_i ds hd
    obtain ⟨p, ys, e1, q, q2⟩ := patItems R1.fh d1 hd
    subst e1
    exact ⟨p, ys, rfl, q, fun r hr => kk (.own ds) ε1 _ F1 _ (s1.trans (.of (same_upd hr))) f1 (R1.lst _ hr) (VAt.newL R1 hr q2) q1⟩
  · exact q1.elim
def dTy : D → String
  | .none => "NoneType"
  | .bool _ => "bool"
  | .int _ => "int"
  | .str _ => "str"
  | .list _ => "list"
  | .tuple _ => "tuple"
  | .dict _ => "dict"
theorem patTy {K : PySem.W.Frag} {H0 : Zn} {F H : Hp} {v : V} {d : D} (sb : Sub F H) (h : PAt K H0 F H v d) : TyX K H v (.type (dTy d)) := by
  rcases h with h | ⟨r, vs, ys, rfl, rfl, h3, h4⟩
  · cases h with
    | non => exact .base .non
    | bl c => exact .base (.bl c)
    | int c => exact .base (.int c)
    | str c => exact .base (.str c)
    | lst q r =>
      rcases sqlSub sb q with (q | ⟨o, q⟩) | ⟨o, its, n, q, hc, _⟩
      · exact .base (.lst q)
      · exact .base (.frz q)
      · exact .kList q hc
    | tup q r =>
      rcases sqtSub sb q with (q | ⟨o, q⟩) | ⟨o, its, n, q, hc, _⟩
      · exact .base (.tup q)
      · exact .fTuple q
      · exact .kTuple q hc
    | dct q =>
      exact .base (.dK (sb _ _ q))
  · exact .base (.lst h3)
def tyB (n : String) : Ty → Bool
  | .int => n == "int" || n == "bool"
  | .bool => n == "bool"
  | .tuple => n == "tuple"
  | .list => n == "list"
  | .str => n == "str"
theorem kitTyB : ∀ n ∈ ["NoneType", "bool", "int", "str", "list", "tuple", "dict"], ∀ t : Ty, kitB n (tyStr t) = some (tyB n t) := by
  intro n hn t
  simp only [List.mem_cons, List.not_mem_nil, or_false] at hn
  rcases hn with rfl | rfl | rfl | rfl | rfl | rfl | rfl <;> cases t <;> decide +kernel
theorem kitTy {K : PySem.W.Frag} (t : Ty) (d : D) : PySem.W.kitOne K (.type (dTy d)) (.type (tyStr t)) = some (isT t d) := by
  have e : isT t d = tyB (dTy d) t := by
    cases d <;> cases t <;> rfl
  rw [e]
  refine kit_ty (kitTyB _ ?_ t)
  cases d <;> simp [dTy]
theorem eIsi (ok : Cok fns cls N C Φ k X sc b.W) {t : Ty} {i : IE} {x y : Str} {e : Expr} {p p2 pos : Pos} (hx : x = "isinstance") (hg : glB sc x = true) (hy : tyName t = y) (hgy : glB sc y = true) (he : plainE e = true)
    (h1 : PE X e (rdP X.K b (fun ε Xp q => pkW i ε (fun T => wE Φ i ε Xp T) q))) : PE X (.Call (.Name x p) [e, .Name y p2] [] pos) (rdE X.K b (wE Φ (.isi t i))) := by
  subst hx hy
  have gy := glB_of ok hgy
  have hT : PE X (.Name (tyName t) p2) (tC (.ty (tyStr t))) := by
    cases t with
    | int => exact pe_bltn gy (ok.blt _ (by decide)) (u := .type "int") (by decide +kernel) rfl
    | bool => exact pe_bltn gy (ok.blt _ (by decide)) (u := .type "bool") (by decide +kernel) rfl
    | tuple => exact pe_bltn gy (ok.blt _ (by decide)) (u := .type "tuple") (by decide +kernel) rfl
    | list => exact pe_bltn gy (ok.blt _ (by decide)) (u := .type "list") (by decide +kernel) rfl
    | str => exact pe_bltn gy (ok.blt _ (by decide)) (u := .type "str") (by decide +kernel) rfl
  refine peImp (pe_callB call_isi (glB_of ok hg) (ok.blt _ (by decide)) (by decide +kernel) (pa_cons h1 (pa_cons hT pa_nil) (starOf he)) (by decide) (by decide) (starOf he) rfl) fun σ H Q ⟨ε, F, Xp, Qp, R, w, ex, kk⟩ => ?_
  refine ⟨ε, F, Xp, _, R, w, ex, fun d ε1 H1 F1 x s1 f1 R1 d1 q1 => ?_⟩
  exact ⟨x, .ty (tyStr t), .type (dTy d), .type (tyStr t), isT t d, rfl, .ty _, patTy R1.fh d1, kitTy t d, kk (.d (.bool (isT t d))) ε1 H1 F1 _ s1 f1 R1 (Dp.bl _) q1⟩
end
end Rc

/-! What is walked. -/
namespace PySem
/-- enumerate of anything whose walk begins -/
theorem rcEnumNew {v : Value} {o : Obj} {H : Heap → Prop} (B : Begins v o H) :
    Meets (Builtin.«enumerate.__new__» ⟨[.type "enumerate", v], []⟩) (fun _ R s => H s.heap ∧
      R (.ok (.ret (.ref (s.heap.push o).objs.size)))
        { s with heap := (s.heap.push o).push { cls := .type "enumerate", data := .fields #[.none, .bool false, .ref s.heap.objs.size, rawInt 0, .none, .none] } }) :=
  .of_wp fun prog w A R s h => by
    obtain ⟨hp, g, d, tk, os⟩ := s
    obtain ⟨h1, h⟩ := h
    have hsub := sub_enumerate
    have go : ∀ {A' : Around} {E : Value → Shared → Prop} {Q : Value → Shared → Prop}, Q (.ref hp.objs.size) ⟨hp.push o, g, d, tk, os⟩ → wpAny (model prog w) A' (pyIter v) Q E ⟨hp, g, d, tk, os⟩ :=
      fun q => B.iter prog w _ _ ⟨hp, g, d, tk, os⟩ _ h1 q
    wp_walk using go
    refine wpAny_stack_any fun st => wpAny_pure ?_
    split
    · rename_i c _ _ _ _ _
      cases (c == Value.type "enumerate") <;> (wp_walk using go; exact ⟨_, rfl, h⟩)
    · wp_walk using go
      exact ⟨_, rfl, h⟩
theorem rcEnumCall {prog : Program} {w : World} {A : Around} {E : Value → Shared → Prop} {s : Shared} {v : Value} {o : Obj} {H : Heap → Prop} {Q : Value → Shared → Prop} (B : Begins v o H) (h1 : H s.heap)
    (h : ∀ h', IsEnum h' (s.heap.objs.size + 1) s.heap.objs.size 0 .none → h'.get? s.heap.objs.size = some o → h'.objs.size = s.heap.objs.size + 2 →
      (∀ b u, s.heap.get? b = some u → h'.get? b = some u) → Q (.ref (s.heap.objs.size + 1)) { s with heap := h' }) :
    wpAny (model prog w) A (call (.type "enumerate") [v]) Q E s := by
  refine callType_new F.called_enumerate (by decide) (F.typeCall_enumerate_1 _) (F.newCall_enumerate_1 _) (fun obj => F.args_object_init_2 obj _)
    F.entry_enumerate_new (rcEnumNew B) ⟨h1, ?_⟩
  have sz : (s.heap.push o).objs.size = s.heap.objs.size + 1 := Heap.size_push ..
  show _ ∧ _
  rw [sz]
  generalize hob : ({ cls := .type "enumerate", data := .fields #[.none, .bool false, .ref s.heap.objs.size, rawInt 0, .none, .none] } : Obj) = ob
  have fr : ob.isFreed = false := by subst hob; rfl
  have here : ((s.heap.push o).push ob).get? (s.heap.objs.size + 1) = some ob := by
    have q := Heap.get?_push_size (s.heap.push o) (o := ob) fr
    rw [sz] at q
    exact q
  have en : IsEnum ((s.heap.push o).push ob) (s.heap.objs.size + 1) s.heap.objs.size 0 .none := by subst hob; exact here
  refine ⟨⟨_, en, rfl⟩, h _ en (Heap.get?_push_of_some _ (Heap.get?_push_size _ B.free)) (by rw [Heap.size_push, sz]) fun b u q => ?_⟩
  exact Heap.get?_push_of_some _ (Heap.get?_push_of_some _ q)
end PySem
namespace Rc
open PySem PySem.Spec PyProof.Rows L2
def IteT (K : PySem.W.Frag) (a : Addr) (n : Nat) : It :=
  ⟨fun i H => i < n ∧ ∃ xs x, SqT K H a xs ∧ xs[i]? = some x,
    fun i H v H' => ∃ T x, v = .ref T ∧ H T = none ∧ H' = upd H T (.tup [.int (i : Nat), x]) ∧ ∀ xs, SqT K H a xs → xs[i]? = some x,
    fun i H => ∃ xs, SqT K H a xs ∧ xs.length = n ∧ n ≤ i⟩
theorem turn_enumT {P : Program} {w : World} {K : PySem.W.Frag} {elts : List Expr} {kk : Nat} {tpos : Pos} (a e it : Addr) (n : Nat) :
    Turn P w K (.Tuple elts kk tpos) (IteT K a n) [e, it] e (fun i h => (∃ old, IsEnum h e it ((i : Nat) : Int) old) ∧ h.IsTupleIter it a i ∧ e ≠ it ∧ a ≠ e ∧ a ≠ it ∧ i ≤ n) where
  mem := by simp
  obj := by
    rintro i h ⟨⟨old, he⟩, ⟨o, ho, hc, hd⟩, _⟩ c hm
    rcases (by simpa using hm : c = e ∨ c = it) with rfl | rfl
    · exact ⟨_, he, fun v q => nomatch q⟩
    · exact ⟨o, ho, fun v q => by rw [hd] at q; cases q⟩
  keep := by
    rintro i h h' ⟨⟨old, he⟩, hi, r⟩ q
    exact ⟨⟨old, q e (by simp) _ he⟩, hi.at fun o z => q it (by simp) o z, r⟩
  item := by
    rintro X rfl rfl rfl hc i pins s σ H E I hf ⟨⟨old, he⟩, hit, hne, hae, hai, hin⟩ ⟨hin2, xs, x, hq, hx⟩
    obtain ⟨its, rv, pl, hz⟩ := I.tuple hq
    obtain ⟨u, hu, ru⟩ := rv.get hx
    have lt1 : e < s.heap.objs.size := Heap.lt_size he
    have lt2 : it < s.heap.objs.size := by
      obtain ⟨_, q, _⟩ := hit
      exact Heap.lt_size q
    have hlt : i < its.toArray.size := by
      rw [List.size_toArray]
      exact (List.getElem?_eq_some_iff.mp hu).1
    have Dr := Draws.tuple (prog := X.prog) (w := X.w) (A := X.A.in1) (I.ok.hd hc) it a hai its.toArray
    have hef : e ∉ [it, a] := by
      simp only [List.mem_cons, List.not_mem_nil, or_false, not_or]
      exact ⟨hne, Ne.symm hae⟩
    refine wpAny_pyNext_enum_itemC Dr he ⟨hit, pl⟩ hlt hne hef fun y h' tk hy ho hst hT hsz hk => ?_
    have ey : y = u := by
      have z : its.toArray[i]? = some u := by simpa using hu
      rw [z] at hy
      exact (Option.some.inj hy).symm
    subst ey
    refine ⟨_, rfl, wpAny_letOwnedTupleGo_enum (s := { s with heap := h', toks := tk + 1 }) ho fun h2 he2 sb => ?_⟩
    have hT2 : h2.get? s.heap.objs.size = some { cls := .type "tuple", data := .seq #[.int (i : Nat) tk, y] } := (sb.2 _ (Nat.ne_of_gt lt1)).trans hT
    have new : ObjOk X.prog X.w (upd H s.heap.objs.size (.tup [.int (i : Nat), x])) h2 s.heap.objs.size (.tup [.int (i : Nat), x]) :=
      ⟨by show 2 ≤ sizeLine; decide, [.int (i : Nat) tk, y], .cons ⟨_, rfl⟩ (.cons ru .nil), ⟨_, hT2, rfl, _, rfl⟩⟩
    have I1 : Inv X pins σ (upd H s.heap.objs.size (.tup [.int (i : Nat), x])) { s with heap := h2, toks := tk + 1 } :=
      I.turnedNew (ch := [e, it]) (fun c ob hb q => (sb.2 c fun z => hb (by simp [z])).trans (hk c ob (fun z => hb (by simp [z])) (fun z => hb (by simp [z])) q)) hf (Nat.le_refl _) new
    refine ⟨.ref s.heap.objs.size, _, I1, rfl, ⟨_, x, rfl, I.hok.fresh (Nat.le_refl _), rfl, fun ys hy => by rw [I.tuple_inj hy hq]; exact hx⟩, ⟨⟨y, ?_⟩, hst.1.at fun o q => (sb.2 it (Ne.symm hne)).trans q, hne, hae, hai, hin2⟩, fun c hb => ?_⟩
    · rw [show ((i + 1 : Nat) : Int) = (i : Int) + 1 by omega]
      exact he2
    · have hc' : c ≠ s.heap.objs.size := by
        rcases (by simpa using hb : c = e ∨ c = it) with rfl | rfl
        · exact Nat.ne_of_lt lt1
        · exact Nat.ne_of_lt lt2
      rw [upd_ne hc']
      exact (hf c hb).1
  done := by
    rintro X rfl rfl rfl hc i pins s σ H E I hf ⟨⟨old, he⟩, hit, hne, hae, hai, hin⟩ ⟨xs, hq, hx, hin2⟩
    obtain ⟨its, rv, pl, hz⟩ := I.tuple hq
    obtain ⟨f0, f1, f2, f3, f4, f5⟩ := hf it (by simp)
    have Dr := Draws.tuple (prog := X.prog) (w := X.w) (A := X.A.in1) (I.ok.hd hc) it a hai its.toArray
    have hl := rv.length
    have hi : i = its.toArray.size := by rw [List.size_toArray]; omega
    refine wpAny_pyNext_enum_endD Dr he ⟨hi ▸ hit, pl⟩ fun h' eb => ⟨rfl, ?_⟩
    exact I.turned (t' := s.toks) (fun c o hb q => eb c o hb q) f0 f1 f3 f4 f5
  self := fun A i s Q E st h => let ⟨⟨_, he⟩, _⟩ := st; wpAny_pyIter_enum he h

section
variable {X : Cx} {tg e : Expr} {te : TE} {pos p : Pos}
/-- a list or a tuple -/
def iSeq (K : PySem.W.Frag) (te : TE) : TI := fun σ H R => te σ H fun v H1 => ∃ a xs, v = .ref a ∧ ((SqL K H1 a xs ∧ R (Itl K a) H1) ∨ (SqT K H1 a xs ∧ R (Itt K a) H1))
theorem pi_seq (he : PE X e te) : PI X tg e (iSeq X.K te) := by
  refine ⟨fun pins s σ H R I h => thn (he.run pins s σ H _ I h) fun v s1 ⟨x, H1, I1, r1, q1⟩ => ?_⟩
  obtain ⟨a, xs, ex, q⟩ := q1
  subst ex
  cases r1
  rcases q with ⟨hq, q⟩ | ⟨hq, q⟩
  · obtain ⟨its, rv, pl, hz⟩ := I1.list hq
    exact wpAny_pyIter_list pl.isList (pi_one (tk := s1.toks) I1 _ (turn_list a _) ⟨_, Heap.get?_push_size _ rfl, rfl, rfl⟩ q)
  · obtain ⟨its, rv, pl, hz⟩ := I1.tuple hq
    exact wpAny_pyIter_tuple pl (pi_one (tk := s1.toks) I1 _ (turn_tuple a _) ⟨_, Heap.get?_push_size _ rfl, rfl, rfl⟩ q)
def iEnumA (K : PySem.W.Frag) (te : TE) : TI := fun σ H R => te σ H fun v H1 => ∃ a xs, v = .ref a ∧ ((SqL K H1 a xs ∧ R (Ite K a) H1) ∨ (SqT K H1 a xs ∧ R (IteT K a xs.length) H1))
theorem pi_enumA {elts : List Expr} {kk : Nat} {tpos : Pos} (hg : Gl X "enumerate") (hm : X.mg "enumerate" = none) (he : PE X e te) (hs : plainE e = true) :
    PI X (.Tuple elts kk tpos) (.Call (.Name "enumerate" p) [e] [] pos) (iEnumA X.K te) := by
  refine ⟨fun pins s σ H R I h => ?_⟩
  have st := starOf (es := []) (env := X.env) hs
  refine Call_ (ld_blt I hg hm boot_enumerate (PyProof.Rows.callWith_type1 (args_cons (thn (he.run pins s σ H _ I h) fun u s1 ⟨v, H1, I1, r1, q1⟩ => args_nil ?_) st) st rfl))
  obtain ⟨a, xs, ex, q⟩ := q1
  subst ex
  cases r1
  have fresh2 : ∀ b ∈ [s1.heap.objs.size + 1, s1.heap.objs.size], FpOk X pins H1 b := fun b hb => by
    have hle : s1.heap.objs.size ≤ b := by
      rcases (by simpa using hb : b = s1.heap.objs.size + 1 ∨ b = s1.heap.objs.size) with z | z <;> omega
    exact I1.fpOk hle (I1.hok.fresh hle)
  rcases q with ⟨hq, q⟩ | ⟨hq, q⟩
  · obtain ⟨its, rv, pl, hz⟩ := I1.list hq
    refine call_enumerate_list pl.isList fun h' hen hit hsz hk => wpAny_pyIter_enum hen ?_
    have I2 : Inv X pins σ H1 { s1 with heap := h' } := I1.kept (t' := s1.toks) hk
    exact ⟨_, _, _, _, H1, rfl, I2, turn_enum a (s1.heap.objs.size + 1) s1.heap.objs.size, ⟨⟨.none, hen⟩, hit, Nat.succ_ne_self _⟩, fresh2, q⟩
  · obtain ⟨its, rv, pl, hz⟩ := I1.tuple hq
    have lt : a < s1.heap.objs.size := by
      obtain ⟨o, ho, _⟩ := id pl
      exact Heap.lt_size ho
    refine rcEnumCall (begins_tuple a its.toArray) pl fun h' hen hit hsz hk => wpAny_pyIter_enum hen ?_
    have I2 : Inv X pins σ H1 { s1 with heap := h' } := I1.kept (t' := s1.toks) hk
    refine ⟨_, _, _, _, H1, rfl, I2, turn_enumT a (s1.heap.objs.size + 1) s1.heap.objs.size xs.length, ⟨⟨.none, hen⟩, ⟨_, hit, rfl, rfl⟩, Nat.succ_ne_self _, ?_, ?_, Nat.zero_le _⟩, fresh2, q⟩
    · exact Nat.ne_of_lt (Nat.lt_succ_of_lt lt)
    · exact Nat.ne_of_lt lt
end

/-! ### what an iterator gives -/
section
variable {K : PySem.W.Frag} {F1 : Hp}
theorem itList {a : Addr} {vs : List V} {ds : List D} (r : SqL K F1 a vs) (d : DpAll K F1 vs ds) : ItOk K (Itl K a) F1 ds where
  go := fun i H hi s => by
    have hv : i < vs.length := by rw [daLen d]; exact hi
    exact ⟨vs, vs[i], sqlSub s r, List.getElem?_eq_getElem hv⟩
  stop := fun H s => ⟨vs, sqlSub s r, by rw [daLen d]; exact Nat.le_refl _⟩
  yld := fun i H x H' F hi s1 s2 y => by
    obtain ⟨e, y⟩ := y
    subst e
    obtain ⟨z, g1, g2⟩ := daGet d (y vs (sqlSub (s1.trans s2) r))
    exact ⟨.refl _, F, z, .refl F, s2, .refl, g1, dpSub s1 g2⟩
theorem itTup {a : Addr} {vs : List V} {ds : List D} (r : SqT K F1 a vs) (d : DpAll K F1 vs ds) : ItOk K (Itt K a) F1 ds where
  go := fun i H hi s => by
    have hv : i < vs.length := by rw [daLen d]; exact hi
    exact ⟨vs, vs[i], (sqtSub s r), List.getElem?_eq_getElem hv⟩
  stop := fun H s => ⟨vs, (sqtSub s r), by rw [daLen d]; exact Nat.le_refl _⟩
  yld := fun i H x H' F hi s1 s2 y => by
    obtain ⟨e, y⟩ := y
    subst e
    obtain ⟨z, g1, g2⟩ := daGet d (y vs ((sqtSub (s1.trans s2) r)))
    exact ⟨.refl _, F, z, .refl F, s2, .refl, g1, dpSub s1 g2⟩
theorem enums_len : ∀ (ds : List D) (n : Nat), (enums n ds).length = ds.length
  | [], _ => rfl
  | _ :: r, n => by simp [enums, enums_len r (n + 1)]
theorem enums_get : ∀ (ds : List D) (n i : Nat), (enums n ds)[i]? = ds[i]?.map fun x => .tuple [.int (n + i : Nat), x]
  | [], _, _ => by simp [enums]
  | _ :: r, n, 0 => by simp [enums]
  | x :: r, n, i + 1 => by
    simp only [enums, List.getElem?_cons_succ, enums_get r (n + 1) i]
    congr 1
    funext y
    have : n + 1 + i = n + (i + 1) := by omega
    rw [this]
theorem newPair {F H : Hp} {T : Addr} {i : Int} {x : V} {z : D} (s2 : Sub F H) (hT : H T = none) (g : Dp K F x z) :
    Same H (upd H T (.tup [.int i, x])) ∧ ∃ F' d, Sub F F' ∧ Sub F' (upd H T (.tup [.int i, x])) ∧ New F F' H ∧ d = .tuple [.int i, z] ∧ Dp K F' (.ref T) d := by
  have sb : Sub F (upd F T (.tup [.int i, x])) := sub_updF (s2.none hT)
  exact ⟨same_upd hT, upd F T _, _, sb, s2.upd2, .add hT, rfl, Dp.tup (.inl (.inl upd_same)) (.cons (.int i) (.cons (dpSub sb g) .nil))⟩
theorem itEnum {a : Addr} {vs : List V} {ds : List D} (r : SqL K F1 a vs) (d : DpAll K F1 vs ds) : ItOk K (Ite K a) F1 (enums 0 ds) where
  go := fun i H hi s => by
    have hv : i < vs.length := by rw [daLen d, ← enums_len ds 0]; exact hi
    exact ⟨vs, vs[i], sqlSub s r, List.getElem?_eq_getElem hv⟩
  stop := fun H s => ⟨vs, sqlSub s r, by rw [daLen d, enums_len]; exact Nat.le_refl _⟩
  yld := fun i H x H' F hi s1 s2 y => by
    obtain ⟨T, u, rfl, hT, rfl, y⟩ := y
    obtain ⟨z, g1, g2⟩ := daGet d (y vs (sqlSub (s1.trans s2) r))
    obtain ⟨p1, F', e, p2, p3, p4, rfl, p5⟩ := newPair (i := (i : Nat)) s2 hT (dpSub s1 g2)
    exact ⟨p1, F', _, p2, p3, p4, by rw [enums_get, g1]; simp, p5⟩
theorem itEnumT {a : Addr} {vs : List V} {ds : List D} (r : SqT K F1 a vs) (d : DpAll K F1 vs ds) : ItOk K (IteT K a vs.length) F1 (enums 0 ds) where
  go := fun i H hi s => by
    have hv : i < vs.length := by rw [daLen d, ← enums_len ds 0]; exact hi
    exact ⟨hv, vs, vs[i], (sqtSub s r), List.getElem?_eq_getElem hv⟩
  stop := fun H s => ⟨vs, (sqtSub s r), rfl, by rw [daLen d, enums_len]; exact Nat.le_refl _⟩
  yld := fun i H x H' F hi s1 s2 y => by
    obtain ⟨T, u, rfl, hT, rfl, y⟩ := y
    obtain ⟨z, g1, g2⟩ := daGet d (y vs ((sqtSub (s1.trans s2) r)))
    obtain ⟨p1, F', e, p2, p3, p4, rfl, p5⟩ := newPair (i := (i : Nat)) s2 hT (dpSub s1 g2)
    exact ⟨p1, F', _, p2, p3, p4, by rw [enums_get, g1]; simp, p5⟩
theorem rev_get {ds : List D} {i : Nat} (hi : i < ds.length) : ds.reverse[i]? = ds[ds.length - 1 - i]? := by
  rw [List.getElem?_reverse hi]
theorem itRev {a : Addr} {vs : List V} {ds : List D} (r : SqL K F1 a vs) (d : DpAll K F1 vs ds) : ItOk K (Itv K a vs.length) F1 ds.reverse where
  go := fun i H hi s => by
    have hv : i < vs.length := by rw [daLen d]; simpa using hi
    exact ⟨hv, vs, vs[vs.length - 1 - i]'(by omega), sqlSub s r, List.getElem?_eq_getElem (by omega)⟩
  stop := fun H s => by
    have e : ds.reverse.length = vs.length := by rw [List.length_reverse, daLen d]
    rw [e]
    exact Nat.le_refl _
  yld := fun i H x H' F hi s1 s2 y => by
    obtain ⟨e, y⟩ := y
    subst e
    obtain ⟨z, g1, g2⟩ := daGet d (y vs (sqlSub (s1.trans s2) r))
    exact ⟨.refl _, F, z, .refl F, s2, .refl, by rw [rev_get (by simpa using hi), ← daLen d]; exact g1, dpSub s1 g2⟩
theorem itRevT {a : Addr} {vs : List V} {ds : List D} (r : SqT K F1 a vs) (d : DpAll K F1 vs ds) : ItOk K (RT.ItvT K a vs.length) F1 ds.reverse where
  go := fun i H hi s => by
    have hv : i < vs.length := by rw [daLen d]; simpa using hi
    exact ⟨hv, vs, vs[vs.length - 1 - i]'(by omega), (sqtSub s r), List.getElem?_eq_getElem (by omega)⟩
  stop := fun H s => by
    have e : ds.reverse.length = vs.length := by rw [List.length_reverse, daLen d]
    rw [e]
    exact Nat.le_refl _
  yld := fun i H x H' F hi s1 s2 y => by
    obtain ⟨e, y⟩ := y
    subst e
    obtain ⟨z, g1, g2⟩ := daGet d (y vs ((sqtSub (s1.trans s2) r)))
    exact ⟨.refl _, F, z, .refl F, s2, .refl, by rw [rev_get (by simpa using hi), ← daLen d]; exact g1, dpSub s1 g2⟩
theorem itRng {lo c : Int} {n : Nat} : ItOk K (Itc lo c n) F1 ((List.range n).map fun (i : Nat) => .int (lo + i * c)) where
  go := fun i H hi s => by
    have q : i < n := by simpa using hi
    exact q
  stop := fun H s => by
    show n ≤ _
    simp
  yld := fun i H x H' F hi s1 s2 y => by
    obtain ⟨e, e2⟩ := y
    subst e e2
    have hi' : i < n := by simpa using hi
    exact ⟨.refl _, F, _, .refl F, s2, .refl, by simp [hi'], .int _⟩
theorem itRng1 {lo : Int} {n : Nat} : ItOk K (Itr lo n) F1 ((List.range n).map fun (i : Nat) => .int (lo + i)) where
  go := fun i H hi s => by
    have q : i < n := by simpa using hi
    exact q
  stop := fun H s => by
    show n ≤ _
    simp
  yld := fun i H x H' F hi s1 s2 y => by
    obtain ⟨e, e2⟩ := y
    subst e e2
    have hi' : i < n := by simpa using hi
    exact ⟨.refl _, F, _, .refl F, s2, .refl, by simp [hi'], .int _⟩
end
end Rc

/-! Targets, comprehensions, all expressions. -/
namespace Rc
open PySem PySem.Spec PyProof.Rows L2
/-! ### targets -/
theorem wipe_get {σ : St} : ∀ {vs : List Nat} {i : Nat}, (wipe σ vs)[i]? = if i ∈ vs then (if i < σ.length then some none else none) else σ[i]?
  | [], i => by simp [wipe]
  | v :: vs, i => by
    unfold wipe
    by_cases h : i = v
    · subst h
      by_cases hl : i < σ.length
      · rw [List.getElem?_set_self (by rw [wipe_length]; exact hl), if_pos (by simp), if_pos hl]
      · rw [List.getElem?_eq_none (by rw [List.length_set, wipe_length]; omega), if_pos (by simp), if_neg hl]
    · rw [List.getElem?_set_ne (Ne.symm h), wipe_get (vs := vs)]
      simp [h]
theorem wipe_set {σ : St} {vs : List Nat} {j : Nat} {v : Option V} (h : j ∈ vs) : wipe (σ.set j v) vs = wipe σ vs := by
  apply List.ext_getElem?
  intro i
  rw [wipe_get, wipe_get, List.length_set]
  by_cases hi : i ∈ vs
  · rw [if_pos hi, if_pos hi]
  · rw [if_neg hi, if_neg hi, List.getElem?_set_ne (by rintro rfl; exact hi h)]
theorem wipe_wipe {σ : St} {vs : List Nat} : wipe (wipe σ vs) vs = wipe σ vs := by
  apply List.ext_getElem?
  intro i
  rw [wipe_get, wipe_get, wipe_length]
  by_cases hi : i ∈ vs
  · rw [if_pos hi, if_pos hi]
  · rw [if_neg hi, if_neg hi]
def gNames : List Nat → TGs
  | [] => gNil
  | j :: js => gCons (gName j) (gNames js)
def gTg (K : PySem.W.Frag) : Tg → TG
  | .one j => gName j
  | .tup js => gTup K js.length (gNames js)
  | .nst js j => gTup K 2 (gCons (gTup K js.length (gNames js)) (gCons (gName j) gNil))
section
variable {X : Cx} {p : Str → Bool}
theorem pgNames (nd : X.N.Nodup) (hp : ∀ x, p x = true → Loc X.env.scope x ∧ (X.fn x = true ∨ X.env.scope.names.lookup x = some .local)) : ∀ {js : List Nat} {es : List Expr}, tgsB p X.N js es = true → PGs X es (gNames js)
  | [], [], _ => pgs_nil
  | [], _ :: _, h => absurd h Bool.false_ne_true
  | j :: js, [], h => absurd h Bool.false_ne_true
  | j :: js, e :: es, h => by
    cases e with
    | Name x q =>
      have h' : (nmB X.N j x && p x && tgsB p X.N js es) = true := h
      simp only [Bool.and_eq_true] at h'
      obtain ⟨⟨h1, h2⟩, h3⟩ := h'
      obtain ⟨g1, _, _⟩ := nmB_of h1
      obtain ⟨g2, g3⟩ := hp x h2
      exact pgs_cons (pg_name nd g1 g2 g3) (pgNames nd hp h3) (by rfl)
    | _ => exact absurd h Bool.false_ne_true
theorem tgsB_len {N : List Str} {env : Env} : ∀ {js : List Nat} {es : List Expr}, tgsB p N js es = true → (assignEach es env).length = js.length ∧ (assignEach es env).findIdx? (·.1) = none
  | [], [], _ => ⟨rfl, rfl⟩
  | [], _ :: _, h => absurd h Bool.false_ne_true
  | j :: js, [], h => absurd h Bool.false_ne_true
  | j :: js, e :: es, h => by
    cases e with
    | Name x q =>
      have h' : (nmB N j x && p x && tgsB p N js es) = true := h
      simp only [Bool.and_eq_true] at h'
      obtain ⟨g1, g2⟩ := tgsB_len (env := env) h'.2
      have e1 : assignEach (.Name x q :: es) env = (false, assign (.Name x q) env) :: assignEach es env := rfl
      rw [e1]
      refine ⟨by rw [List.length_cons, List.length_cons, g1], ?_⟩
      rw [List.findIdx?_cons, g2]
      rfl
    | _ => exact absurd h Bool.false_ne_true
theorem nstB {N : List Str} {js : List Nat} {j : Nat} {e : Expr} (h : tgB p N (.nst js j) e = true) : ∃ es x n m q r u, e = .Tuple [.Tuple es n q, .Name x r] m u ∧ tgsB p N js es = true ∧ nmB N j x = true ∧ p x = true := by
  cases e with
  | Tuple es m u =>
    rcases es with _ | ⟨e1, _ | ⟨e2, _ | ⟨_, _⟩⟩⟩
    · exact absurd h Bool.false_ne_true
    · exact absurd h (by cases e1 <;> exact Bool.false_ne_true)
    · cases e1 with
      | Tuple es n q =>
        cases e2 with
        | Name x r =>
          have h' : (tgsB p N js es && nmB N j x && p x) = true := h
          simp only [Bool.and_eq_true] at h'
          exact ⟨es, x, n, m, q, r, u, rfl, h'.1.1, h'.1.2, h'.2⟩
        | _ => exact absurd h Bool.false_ne_true
      | _ => exact absurd h Bool.false_ne_true
    · exact absurd h (by cases e1 <;> cases e2 <;> exact Bool.false_ne_true)
  | _ => exact absurd h Bool.false_ne_true
theorem pgTg (nd : X.N.Nodup) (hc : X.calm = true) (hp : ∀ x, p x = true → Loc X.env.scope x ∧ (X.fn x = true ∨ X.env.scope.names.lookup x = some .local)) {t : Tg} {e : Expr} (h : tgB p X.N t e = true) : PG X e (gTg X.K t) := by
  cases t with
  | one j =>
    cases e with
    | Name x q =>
      have h' : (nmB X.N j x && p x) = true := h
      rw [Bool.and_eq_true] at h'
      obtain ⟨g1, _, _⟩ := nmB_of h'.1
      obtain ⟨g2, g3⟩ := hp x h'.2
      exact pg_name nd g1 g2 g3
    | _ => exact absurd h Bool.false_ne_true
  | tup js =>
    cases e with
    | Tuple es n q =>
      have h' : tgsB p X.N js es = true := h
      obtain ⟨g1, g2⟩ := tgsB_len (env := X.env) h'
      exact pg_tup hc (pgNames nd hp h') g1 g2
    | _ => exact absurd h Bool.false_ne_true
  | nst js j =>
    obtain ⟨es, x, n, m, q, r, u, rfl, h1, h2, h3⟩ := nstB h
    obtain ⟨g1, g2⟩ := tgsB_len (env := X.env) h1
    obtain ⟨g3, _, _⟩ := nmB_of h2
    obtain ⟨g4, g5⟩ := hp x h3
    exact pg_tup hc (pgs_cons (pg_tup hc (pgNames nd hp h1) g1 g2) (pgs_cons (pg_name nd g3 g4 g5) pgs_nil (by rfl)) (by rfl)) rfl rfl
end
theorem tgOwns_ix {p : Str → Bool} {N : List Str} : ∀ {js : List Nat} {es : List Expr}, tgsB p N js es = true → (tgOwns js es).map (·.2) = js
  | [], [], _ => rfl
  | [], _ :: _, h => absurd h Bool.false_ne_true
  | j :: js, [], h => absurd h Bool.false_ne_true
  | j :: js, e :: es, h => by
    cases e with
    | Name x q =>
      have h' : (nmB N j x && p x && tgsB p N js es) = true := h
      simp only [Bool.and_eq_true] at h'
      show j :: (tgOwns js es).map (·.2) = j :: js
      rw [tgOwns_ix h'.2]
    | _ => exact absurd h Bool.false_ne_true
theorem tgOwn_ix {p : Str → Bool} {N : List Str} {t : Tg} {e : Expr} (h : tgB p N t e = true) : (tgOwn t e).map (·.2) = tgs t := by
  cases t with
  | one j =>
    cases e with
    | Name x q => rfl
    | _ => exact absurd h Bool.false_ne_true
  | tup js =>
    cases e with
    | Tuple es n q => exact tgOwns_ix h
    | _ => exact absurd h Bool.false_ne_true
  | nst js j =>
    obtain ⟨es, x, n, m, q, r, u, rfl, h1, h2, h3⟩ := nstB h
    show (tgOwns js es ++ [(x, j)]).map (·.2) = js ++ [j]
    rw [List.map_append, tgOwns_ix h1]
    rfl
section
variable {K : PySem.W.Frag} {H0 : Zn} {F0 F H : Hp}
theorem setAllGo : ∀ {js : List Nat} {ds : List D} {vs : List V} {σ : St} {ε : Ev} {Q : St → Hp → Prop} (all : List Nat), (∀ j ∈ js, j ∈ all) → Rep K H0 F0 F H σ ε → DpAll K F vs ds → ds.length = js.length →
    (∀ σ', Rep K H0 F0 F H σ' (setAll js ds ε) → wipe σ' all = wipe σ all → Q σ' H) → gNames js vs σ H Q
  | [], ds, vs, σ, ε, Q, all, _, R, d, hl, k => by
    have : ds = [] := List.eq_nil_of_length_eq_zero hl
    subst this
    cases d
    exact ⟨rfl, k σ R rfl⟩
  | j :: js, [], vs, σ, ε, Q, all, _, R, d, hl, k => by cases hl
  | j :: js, x :: ds, vs, σ, ε, Q, all, hm, R, d, hl, k => by
    cases d with
    | cons a c =>
      refine ⟨_, _, rfl, setAllGo (ε := pv ε j (some (.d x))) all (fun i hi => hm i (by simp [hi])) (R.store (x := .d x) a j) c (by simpa using hl) fun σ' R' e => ?_⟩
      exact k σ' R' (e.trans (wipe_set (hm j (by simp))))
theorem tgGo {t : Tg} {x : D} {v : V} {σ : St} {ε : Ev} {k : Ev → Prop} {Q : St → Hp → Prop} (R : Rep K H0 F0 F H σ ε) (d : Dp K F v x) (w : tgW t x ε k)
    (kk : ∀ σ' ε', Rep K H0 F0 F H σ' ε' → wipe σ' (tgs t) = wipe σ (tgs t) → k ε' → Q σ' H) : gTg K t v σ H Q := by
  cases t with
  | one j => exact kk _ _ (R.store (x := .d x) d j) (wipe_set (by simp [tgs])) w
  | tup js =>
    cases x with
    | tuple xs =>
      obtain ⟨a, vs, rfl, r, da⟩ := dpTup d
      obtain ⟨hl, w⟩ := w
      exact ⟨a, vs, rfl, (sqtSub R.fh r), by rw [daLen da, hl], setAllGo js (fun _ h => h) R da hl fun σ' R' e => kk σ' _ R' e w⟩
    | _ => exact w.elim
  | nst js j =>
    cases x with
    | tuple zs =>
      rcases zs with _ | ⟨z, _ | ⟨y, _ | ⟨_, _⟩⟩⟩
      · exact w.elim
      · exact absurd w (by cases z <;> exact id)
      · cases z with
        | tuple xs =>
          obtain ⟨a, us, rfl, r, da⟩ := dpTup d
          cases da with
          | cons d1 dr =>
            cases dr with
            | cons d2 dn =>
              cases dn
              obtain ⟨a1, vs, rfl, r1, da1⟩ := dpTup d1
              obtain ⟨hl, w⟩ := w
              refine ⟨a, _, rfl, sqtSub R.fh r, rfl, _, _, rfl, a1, vs, rfl, sqtSub R.fh r1, by rw [daLen da1, hl], ?_⟩
              refine setAllGo (js ++ [j]) (fun i hi => List.mem_append_left _ hi) R da1 hl fun σ' R' e => ?_
              exact ⟨_, _, rfl, rfl, kk _ _ (R'.store (x := .d y) d2 j) ((wipe_set (List.mem_append_right _ (List.mem_singleton.mpr rfl))).trans e) w⟩
        | _ => exact w.elim
      · exact absurd w (by cases z <;> exact id)
    | _ => exact w.elim
theorem blind_d : ∀ {ε : Ev} {j : Nat} {y : Val}, gv (blind ε) j = some y → ∃ x, y = .d x ∧ gv ε j = some (.d x)
  | [], _, _, h => by cases h
  | c :: r, 0, y, h => by
    cases c with
    | none => cases h
    | some v =>
      cases v with
      | d x => exact ⟨x, (Option.some.inj h).symm, rfl⟩
      | _ => cases h
  | c :: r, j + 1, y, h => by
    cases c with
    | none => exact blind_d (ε := r) (j := j) h
    | some v =>
      cases v with
      | d x => exact blind_d (ε := r) (j := j) h
      | _ => exact blind_d (ε := r) (j := j) h
theorem blind_len : ∀ {ε : Ev}, (blind ε).length = ε.length
  | [] => rfl
  | c :: r => by
    cases c with
    | none => simp [blind, blind_len (ε := r)]
    | some v => cases v <;> simp [blind, blind_len (ε := r)]
theorem wipeE_gv {ε : Ev} : ∀ {js : List Nat} {j : Nat} {y : Val}, gv (wipeE ε js) j = some y → gv ε j = some y ∧ j ∉ js
  | [], _, _, h => ⟨h, by simp⟩
  | i :: js, j, y, h => by
    unfold wipeE at h
    rw [gv_pv] at h
    split at h
    · split at h <;> cases h
    · rename_i hne
      obtain ⟨g1, g2⟩ := wipeE_gv h
      exact ⟨g1, by simp [hne, g2]⟩
theorem wipeE_len {ε : Ev} : ∀ {js : List Nat}, (wipeE ε js).length = ε.length
  | [] => rfl
  | i :: js => by unfold wipeE; rw [pv_len, wipeE_len]
/-- where a comprehension's turn begins -/
theorem Rep.turn {σ : St} {ε : Ev} {js : List Nat} {F1 H' F2 : Hp} (R : Rep K H0 F0 F1 H σ ε) (s : Sub F1 F2) (g : Sub F2 H') : Rep K (Zn.of H') F2 F2 H' (wipe σ js) (wipeE (blind ε) js) where
  fh := g
  ff := .refl _
  h0 := .refl _
  fr := fun a o h => .inl h
  len := by rw [wipe_length, wipeE_len, blind_len]; exact R.len
  dat := fun j x h => by
    obtain ⟨g1, g2⟩ := wipeE_gv h
    obtain ⟨y, e, g3⟩ := blind_d g1
    cases e
    obtain ⟨v, e1, d1⟩ := R.dat j x g3
    exact ⟨v, by rw [wipe_get, if_neg g2]; exact e1, dpSub s d1⟩
  own := fun j xs h => by
    obtain ⟨g1, g2⟩ := wipeE_gv h
    obtain ⟨y, e, g3⟩ := blind_d g1
    cases e
  uni := fun i j xs ys p h => by
    obtain ⟨g1, g2⟩ := wipeE_gv h
    obtain ⟨y, e, g3⟩ := blind_d g1
    cases e
  lnt := fun j xs h => by
    obtain ⟨g1, g2⟩ := wipeE_gv h
    obtain ⟨y, e, g3⟩ := blind_d g1
    cases e
  one := fun i j xs ys p h => by
    obtain ⟨g1, g2⟩ := wipeE_gv h
    obtain ⟨y, e, g3⟩ := blind_d g1
    cases e
  ll := fun _ h => h.elim
  dcs := .nil fun j v h => by
    obtain ⟨g1, g2⟩ := wipeE_gv h
    obtain ⟨y, e, g3⟩ := blind_d g1
    cases e
    rfl
end
section
variable {fns : List FnI} {cls : List Str} {N : List Str} {C : Nat → Addr} {Φ : Fs} {k : Nat} {X : Cx} {b : Bd} {sc : Scope}
theorem Cok.blk (ok : Cok fns cls N C Φ k X sc b.W) (s : Shared) (H : Hp) (scope : Scope) (D : Addr) (cl : List (Str × Addr)) (fp : List Addr) :
    Cok fns cls N C Φ k (X.blk s H scope (compEnvC scope cl D X.env) fp) (relS scope sc) (fun _ _ _ _ => False) where
  room := ok.room
  seer := ok.seer
  tree := ok.tree
  top := ok.top
  nd := ok.nd
  eN := ok.eN
  esc := by rw [← ok.esc]; rfl
  calm := ok.calm
  tk := takes0
  blt := ok.blt
  exc := ok.exc
  xf := ok.xf
  ar := ok.ar
  gcon := ok.gcon
  callee := ok.callee
theorem cGo {cE : IE} {ε2 : Ev} {q : Bool → Ev → Prop} (w : if isNil cE = true then q true ε2 else wE Φ cE ε2 (fun _ _ => False) (kB q)) :
    (if isNil cE = true then kB q (.d (.bool true)) ε2 else wE Φ cE ε2 (fun _ _ => False) (kB q)) := w
/-- what a comprehension asks behind its walk's beginning -/
def lcAsk (g : TG) (tt : TT) (te : TE) (vs : List Nat) (σ : St) (Q : VK) (J : It) (H1 : Hp) : Prop := ∀ D, H1 D = none → ∃ W : Nat → Nat → Hp → Prop, (∃ m, W 0 m (upd H1 D (.lst []))) ∧ ∀ i m H, W i m H →
  (J.stop i H ∧ Q (.ref D) H) ∨ (J.go i H ∧ ∃ Nx : Hp → Prop, (∀ H', Nx H' → ∃ m', m' < m ∧ W (i + 1) m' H') ∧ ∀ x H', J.yld i H x H' → g x (wipe σ vs) H' fun σ2 H2 => wipe σ2 vs = wipe σ vs ∧ tt σ2 H2 fun b H3 =>
    if b = true then te σ2 H3 fun y H4 => ∃ acc, H4 D = some (.lst acc) ∧ acc.length < sizeLine ∧ Nx (upd H4 D (.lst (acc ++ [y]))) else Nx H3)
theorem lcBody {K : PySem.W.Frag} {t : Tg} {cE eE : IE} {σ : St} {H1 F1 : Hp} {Q : VK} {ε1 : Ev} {J : It} {ds : List D} {G : List D → Prop} (R1 : Rep K b.H0 b.F0 F1 H1 σ ε1) (J1 : ItOk K J F1 ds)
    (q1 : lcW t ε1 (fun ε2 k => if isNil cE = true then k true ε2 else wE Φ cE ε2 (fun _ _ => False) (kB k)) (fun ε2 k => wE Φ eE ε2 (fun _ _ => False) (kD k)) ds [] G)
    (kk : ∀ ys H' F' x, Same H1 H' → Sub F1 F' → Rep K b.H0 b.F0 F' H' σ ε1 → VAt K b.H0 F' H' σ ε1 x (.own ys) → G ys → Q x H') :
    lcAsk (gTg K t) (fun σ H q => ∃ H0 F0, rdT K ⟨b.C, fun _ _ _ _ => False, H0, F0⟩ (fun ε Xp r => if isNil cE = true then r (.d (.bool true)) ε else wE Φ cE ε Xp r) σ H q)
      (fun σ H q => ∃ H0 F0, rdD K ⟨b.C, fun _ _ _ _ => False, H0, F0⟩ (wE Φ eE) σ H q) (tgs t) σ Q J H1 := by
  intro D hD
  refine ⟨fun i m H' => m = ds.length - i ∧ i ≤ ds.length ∧ ∃ F' acc vs, Sub F1 F' ∧ Same H1 H' ∧ Sub F' H' ∧ New F1 F' H1 ∧ H' D = some (.lst vs) ∧ DpAll K F' vs acc ∧ F' D = none ∧
    lcW t ε1 (fun ε2 k => if isNil cE = true then k true ε2 else wE Φ cE ε2 (fun _ _ => False) (kB k)) (fun ε2 k => wE Φ eE ε2 (fun _ _ => False) (kD k)) (ds.drop i) acc G,
    ⟨ds.length, by simp, Nat.zero_le _, F1, [], [], .refl _, same_upd hD, R1.fh.upd (R1.fh.none hD), .refl, upd_same, .nil, R1.fh.none hD, q1⟩, ?_⟩
  rintro i m H' ⟨rfl, hi, F', acc, vs, a1, a2, a3, a4, a5, a6, a7, wl⟩
  by_cases hlt : i < ds.length
  · refine .inr ⟨J1.go i H' hlt (a1.trans a3), fun H'' => ∃ F'' acc vs, Sub F1 F'' ∧ Same H1 H'' ∧ Sub F'' H'' ∧ New F1 F'' H1 ∧ H'' D = some (.lst vs) ∧ DpAll K F'' vs acc ∧ F'' D = none ∧
      lcW t ε1 (fun ε2 k => if isNil cE = true then k true ε2 else wE Φ cE ε2 (fun _ _ => False) (kB k)) (fun ε2 k => wE Φ eE ε2 (fun _ _ => False) (kD k)) (ds.drop (i + 1)) acc G,
      fun H'' q => ⟨ds.length - (i + 1), by omega, rfl, hlt, q⟩, fun x H2 y => ?_⟩
    obtain ⟨b1, F2, d, b2, b3, b4, b5, b6⟩ := J1.yld i H' x H2 F' hlt a1 a3 y
    have ed : ds.drop i = d :: ds.drop (i + 1) := by
      rw [List.drop_eq_getElem_cons hlt]
      have : ds[i] = d := by
        rw [List.getElem?_eq_getElem hlt] at b5
        exact Option.some.inj b5
      rw [this]
    rw [ed] at wl
    have c0 : H2 D = some (.lst vs) := b1 _ _ a5
    have R2 : Rep K (Zn.of H2) F2 F2 H2 (wipe σ (tgs t)) (wipeE (blind ε1) (tgs t)) := R1.turn (a1.trans b2) b3
    have nF : ∀ {F4 : Hp}, New F2 F4 H2 → F4 D = none ∧ New F1 F4 H1 := fun {F4} n4 => by
      have n2 : F2 D = none := by
        cases z : F2 D with
        | none => rfl
        | some u =>
          rcases b4 D u z with q | q
          · rw [a7] at q; cases q
          · rw [a5] at q; cases q
      refine ⟨?_, fun a o h => ?_⟩
      · cases z : F4 D with
        | none => rfl
        | some u =>
          rcases n4 D u z with q | q
          · rw [n2] at q; cases q
          · rw [c0] at q; cases q
      · rcases n4 a o h with q | q
        · rcases b4 a o q with q | q
          · exact a4 a o q
          · exact .inr (Same.free a2 q)
        · exact .inr (Same.free (a2.trans b1) q)
    refine tgGo R2 b6 wl fun σ2 ε2 R3 ew w2 => ⟨by rw [ew, wipe_wipe], ?_⟩
    refine ⟨Zn.of H2, F2, ε2, F2, fun _ _ => False, _, R3, cGo w2, (fun _ _ _ _ _ _ z => z.elim), fun c ε3 H3 F3 s3' f3 R4 q3 => ?_⟩
    · cases c with
      | false =>
        rw [if_neg Bool.false_ne_true] at q3 ⊢
        have s3 : Same H2 H3 := SubZ.same (G0 := H2) s3'
        obtain ⟨n1, n2⟩ := nF (fun a o h => R4.fr a o h)
        exact ⟨F3, acc, vs, (a1.trans b2).trans f3, (a2.trans b1).trans s3, R4.fh, n2, s3 _ _ c0, daSub (b2.trans f3) a6, n1, q3⟩
      | true =>
        rw [if_pos rfl] at q3 ⊢
        have s3 : Same H2 H3 := SubZ.same (G0 := H2) s3'
        refine ⟨Zn.of H2, F2, ε3, F3, fun _ _ => False, _, R4, q3, (fun _ _ _ _ _ _ z => z.elim), fun z ε4 H4 F4 v s4' f4 R5 d5 q5 => ?_⟩
        have s4 : Same H3 H4 := SubZ.same (G0 := H2) s4'
        obtain ⟨n1, n2⟩ := nF (fun a o h => R5.fr a o h)
        have c4 : H4 D = some (.lst vs) := s4 _ _ (s3 _ _ c0)
        have da : DpAll K F4 vs acc := daSub ((b2.trans f3).trans f4) a6
        refine ⟨vs, c4, by rw [line24, daLen da]; exact q5.1, F4, acc ++ [z], vs ++ [v], ((a1.trans b2).trans f3).trans f4, fun a o h => ?_, R5.fh.upd n1, n2, upd_same, daApp da (.cons d5 .nil), n1, q5.2⟩
        rw [upd_ne (ne_of_none h hD)]
        exact s4 _ _ (s3 _ _ (b1 _ _ (a2 _ _ h)))
  · have e : i = ds.length := by omega
    subst e
    refine .inl ⟨J1.stop H' (a1.trans a3), ?_⟩
    rw [List.drop_length] at wl
    exact kk acc H' F' (.ref D) a2 a1 (R1.grow a2 a1 a3 a4) ⟨D, vs, rfl, a5, a6, a7, R1.no hD, R1.offNew hD⟩ wl
/-- a comprehension's reading -/
theorem lcGo {K : PySem.W.Frag} {t : Tg} {itE cE eE : IE} {σ : St} {H : Hp} {Q : VK} (h : rdE K b (wE Φ (.lc t itE cE eE)) σ H Q) :
    tLc (rdI K b (wE Φ itE)) (gTg K t)
      (fun σ H q => ∃ H0 F0, rdT K ⟨b.C, fun _ _ _ _ => False, H0, F0⟩ (fun ε Xp r => if isNil cE = true then r (.d (.bool true)) ε else wE Φ cE ε Xp r) σ H q)
      (fun σ H q => ∃ H0 F0, rdD K ⟨b.C, fun _ _ _ _ => False, H0, F0⟩ (wE Φ eE) σ H q) (tgs t) σ H Q := by
  obtain ⟨ε, F, Xp, Qp, R, w, ex, kk⟩ := h
  refine ⟨ε, F, Xp, _, R, w, ex, fun ds ε1 H1 F1 J s1 f1 R1 J1 q1 => ?_⟩
  exact lcBody R1 J1 q1 fun ys H' F' x t1 g1 R2 a2 q2 => kk (.own ys) ε1 H' F' x (s1.trans (.of t1)) (f1.trans g1) R2 a2 q2
end
end Rc

/-! zip of any two things whose iterators are known: told by how an iterator goes on. -/
namespace Rc
open PySem PySem.Spec PyProof.Rows L2
open PySem.Sem (wp)
section
variable {prog : Program} {w : World}
/-- an iterator at `it` over what lies at `l`: how it gives its items, and ends -/
structure Gives (prog : Program) (w : World) (it l : Addr) (items : Array Value) (P : Heap → Nat → Prop) : Prop where
  item : ∀ {A : Around} {E : Value → Shared → Prop} {s : Shared} {Q : Value → Shared → Prop} {k : Nat} {x : Value}, P s.heap k → items[k]? = some x →
    (∀ h', P h' (k + 1) → Heap.SameBut it s.heap h' → Q x { s with heap := h' }) → wpAny (model prog w) A (Builtin.SmallTypes.nextOf (.ref it)) Q E s
  fin : ∀ {A : Around} {E : Value → Shared → Prop} {s : Shared} {Q : Value → Shared → Prop} {k : Nat}, A.handled = none → P s.heap k → items[k]? = none →
    (∀ h' e, Heap.ExtBut it s.heap h' → (∃ o, h'.get? e = some o ∧ o.cls = .type "StopIteration") → E (.ref e) { s with heap := h' }) → wpAny (model prog w) A (Builtin.SmallTypes.nextOf (.ref it)) Q E s
  keep : ∀ {h h' : Heap} {k : Nat}, P h k → (∀ c o, c = it ∨ c = l → h.get? c = some o → h'.get? c = some o) → P h' k
theorem gives_list {it l : Addr} {items : Array Value} (ne : l ≠ it) : Gives prog w it l items (fun h k => h.IsListIter it l k ∧ h.IsList l items) where
  item := fun {A E s Q k x} p hx hq => wpAny_nextOf_list_item p.1 p.2 hx fun h' a b => hq h' ⟨a, p.2.extBut b.extBut ne⟩ b
  fin := fun {A E s Q k} hh p hx he => wpAny_nextOf_list_end hh p.1 p.2 hx he
  keep := fun {h h' k} p kk => ⟨p.1.at fun o q => kk it o (.inl rfl) q, p.2.at fun o q => kk l o (.inr rfl) q⟩
theorem gives_tuple {it l : Addr} {items : Array Value} (ne : l ≠ it) : Gives prog w it l items (fun h k => h.IsTupleIter it l k ∧ h.IsTuple l items) where
  item := fun {A E s Q k x} p hx hq => RZ.nextOf_tuple_item p.1 p.2 hx fun h' a b => hq h' ⟨a, p.2.extBut b.extBut ne⟩ b
  fin := fun {A E s Q k} hh p hx he => RZ.nextOf_tuple_end hh p.1 p.2 hx he
  keep := fun {h h' k} p kk => ⟨p.1.at fun o q => kk it o (.inl rfl) q, p.2.at fun o q => kk l o (.inr rfl) q⟩
variable {A : Around} {E : Value → Shared → Prop} {s : Shared} {z TI TO i1 i2 l1 l2 : Addr} {k1 k2 : Nat} {xs ys : Array Value} {a b : Value} {P1 P2 : Heap → Nat → Prop}
/-- what is not the record, its pair, nor an iterator of it stays -/
def Rest4 (z TO i1 i2 : Addr) (h h' : Heap) : Prop := ∀ c o, c ≠ z → c ≠ TO → c ≠ i1 → c ≠ i2 → h.get? c = some o → h'.get? c = some o
theorem Rest4.of {c h h'} (x : Heap.SameBut c h h') (hc : c = z ∨ c = TO ∨ c = i1 ∨ c = i2) : Rest4 z TO i1 i2 h h' := fun d o n1 n2 n3 n4 e =>
  (x.2 d fun q => by rw [q] at n1 n2 n3 n4; rcases hc with r | r | r | r; exact n1 r; exact n2 r; exact n3 r; exact n4 r).trans e
theorem Rest4.trans {h h' h''} (x : Rest4 z TO i1 i2 h h') (y : Rest4 z TO i1 i2 h' h'') : Rest4 z TO i1 i2 h h'' := fun c o n1 n2 n3 n4 e => y c o n1 n2 n3 n4 (x c o n1 n2 n3 n4 e)
theorem Gives.same1 (D : ZipApart z TI TO i1 i2 l1 l2) (G : Gives prog w i1 l1 xs P1) {h h' c} (x : Heap.SameBut c h h') (hc : c = z ∨ c = TO ∨ c = i2) {k} (p : P1 h k) : P1 h' k := G.keep p fun d o q e => (x.2 d fun y => by
  subst y
  rcases q with rfl | rfl <;> rcases hc with r | r | r <;> first | exact D.i1z r | exact D.TOi1 r.symm | exact D.i12 r | exact D.l1z r | exact D.l1TO r | exact D.l1i2 r).trans e
theorem Gives.same2 (D : ZipApart z TI TO i1 i2 l1 l2) (G : Gives prog w i2 l2 ys P2) {h h' c} (x : Heap.SameBut c h h') (hc : c = z ∨ c = TO ∨ c = i1) {k} (p : P2 h k) : P2 h' k := G.keep p fun d o q e => (x.2 d fun y => by
  subst y
  rcases q with rfl | rfl <;> rcases hc with r | r | r <;> first | exact D.i2z r | exact D.TOi2 r.symm | exact D.i12 r.symm | exact D.l2z r | exact D.l2TO r | exact D.l2i1 r).trans e
theorem pair_same {T u v h h' c} (x : Heap.SameBut c h h') (n : T ≠ c) (p : IsPair h T u v) : IsPair h' T u v := (x.2 T n).trans p
theorem zipG_item {x y : Value} {Q : Value → Shared → Prop} (D : ZipApart z TI TO i1 i2 l1 l2) (G1 : Gives prog w i1 l1 xs P1) (G2 : Gives prog w i2 l2 ys P2)
    (hz : IsZip s.heap z TI TO .none) (hTI : IsPair s.heap TI (.ref i1) (.ref i2)) (hTO : IsPair s.heap TO a b) (h1 : P1 s.heap k1) (h2 : P2 s.heap k2) (hx : xs[k1]? = some x) (hy : ys[k2]? = some y)
    (hQ : ∀ h', IsZip h' z TI TO (rawInt s.heap.objs.size) → IsPair h' TO x y → P1 h' (k1 + 1) → P2 h' (k2 + 1) → IsPair h' s.heap.objs.size x y → h'.objs.size = s.heap.objs.size + 1 → Rest4 z TO i1 i2 s.heap h' → Q (.ref s.heap.objs.size) { s with heap := h' }) :
    wpAny (model prog w) A (Builtin.«zip.__next__» ⟨[.ref z], []⟩) (fun fin s' => ∃ v, fin = .done (.ret v) ∧ Q v s') E s := by
  show wpAny _ _ (field (.ref z) 2 >>= _) _ _ _
  refine wpAny_bind (wpAny_field hz rfl (x := .bool false) rfl ?_)
  show wpAny _ _ (field (.ref z) 3 >>= _) _ _ _
  refine wpAny_bind (wpAny_field hz rfl (x := .ref TI) rfl (wpAny_bind (wpAny_seqItems hTI rfl ?_)))
  show wpAny _ _ (Builtin.SmallTypes.ownedTupleIsFree (.ref z) >>= _) _ _ _
  unfold Builtin.SmallTypes.ownedTupleIsFree
  refine wpAny_bind (wpAny_bind (wpAny_field hz rfl (x := .none) rfl (wpAny_pure ?_)))
  simp only [if_true]
  refine wpAny_bind (wpAny_rule (wpAny_bind (wpAny_field hz rfl (x := .ref TO) rfl (wpAny_bind (wpAny_setField_rec hz (by simp) fun g1 z1 e1 => ?_)))))
  have z1 : IsZip g1 z TI TO .ellipsis := z1
  refine wpAny_bind ?_
  simp only [List.zipIdx_cons, List.zipIdx_nil, List.forIn_cons, List.forIn_nil]
  refine wpAny_bind (wpAny_bind (wpAny_onRaise ?_))
  show wpAny _ _ (Builtin.SmallTypes.nextOf (.ref i1) >>= _) _ _ _
  refine wpAny_bind (G1.item (G1.same1 D e1 (.inl rfl) h1) hx fun g2 p1 e2 => wpAny_pure ?_)
  have t2 := pair_same e2 D.TOi1 (pair_same e1 D.TOz hTO)
  refine wpAny_bind (wpAny_seqItems t2 rfl (wpAny_bind (wpAny_updateSeq_pair t2 fun g3 t3 e3 => wpAny_bind (wpAny_letGo (wpAny_pure ?_)))))
  have t3 : IsPair g3 TO x b := t3
  refine wpAny_bind (wpAny_bind (wpAny_onRaise ?_))
  show wpAny _ _ (Builtin.SmallTypes.nextOf (.ref i2) >>= _) _ _ _
  refine wpAny_bind (G2.item (G2.same2 D e3 (.inr (.inl rfl)) (G2.same2 D e2 (.inr (.inr rfl)) (G2.same2 D e1 (.inl rfl) h2))) hy fun g4 p2 e4 => wpAny_pure ?_)
  have t4 := pair_same e4 D.TOi2 t3
  refine wpAny_bind (wpAny_seqItems t4 rfl (wpAny_bind (wpAny_updateSeq_pair t4 fun g5 t5 e5 => wpAny_bind (wpAny_letGo (wpAny_pure (wpAny_pure ?_))))))
  have t5 : IsPair g5 TO x y := t5
  have sz : g5.objs.size = s.heap.objs.size := by rw [e5.1, e4.1, e3.1, e2.1, e1.1]
  have z5 : IsZip g5 z TI TO .ellipsis := (e5.2 z D.TOz.symm).trans ((e4.2 z D.i2z.symm).trans ((e3.2 z D.TOz.symm).trans ((e2.2 z D.i1z.symm).trans z1)))
  have r5 : Rest4 z TO i1 i2 s.heap g5 := (Rest4.of e1 (.inl rfl)).trans ((Rest4.of e2 (.inr (.inr (.inl rfl)))).trans ((Rest4.of e3 (.inr (.inl rfl))).trans ((Rest4.of e4 (.inr (.inr (.inr rfl)))).trans (Rest4.of e5 (.inr (.inl rfl))))))
  have q1 : P1 g5 (k1 + 1) := G1.same1 D e5 (.inr (.inl rfl)) (G1.same1 D e4 (.inr (.inr rfl)) (G1.same1 D e3 (.inr (.inl rfl)) p1))
  have q2 : P2 g5 (k2 + 1) := G2.same2 D e5 (.inr (.inl rfl)) p2
  refine wpAny_bind (wpAny_seqItems t5 rfl (wpAny_bind (wpAny_newTuple ?_)))
  show wpAny _ _ (Builtin.SmallTypes.ownedTupleHandOut (.ref z) (.ref g5.objs.size) >>= _) _ _ _
  unfold Builtin.SmallTypes.ownedTupleHandOut
  have z6 : IsZip (g5.push { cls := .type "tuple", data := .seq #[x, y] }) z TI TO .ellipsis := Heap.get?_push_of_some _ z5
  refine wpAny_bind (wpAny_bind (wpAny_setField_rec z6 (by simp) fun g7 z7 e7 => ?_))
  have z7 : IsZip g7 z TI TO (rawInt g5.objs.size) := z7
  refine wpAny_setField_rec z7 (by simp) fun g8 z8 e8 => ?_
  have z8 : IsZip g8 z TI TO (rawInt g5.objs.size) := z8
  have zl : z < g5.objs.size := Heap.lt_size z5
  have up : ∀ c o, c ≠ z → g5.get? c = some o → g8.get? c = some o := fun c o n e => (e8.2 c n).trans ((e7.2 c n).trans (Heap.get?_push_of_some _ e))
  have t8 : IsPair g8 g5.objs.size x y := (e8.2 _ (Nat.ne_of_gt zl)).trans ((e7.2 _ (Nat.ne_of_gt zl)).trans (Heap.get?_push_size _ rfl))
  have sz8 : g8.objs.size = g5.objs.size + 1 := by rw [e8.1, e7.1, Heap.size_push]
  rw [sz] at z8 t8 sz8
  refine wpAny_pure ⟨_, rfl, ?_⟩
  show Q (.ref g5.objs.size) _
  rw [sz]
  exact hQ g8 z8 (up _ _ D.TOz t5) (G1.keep q1 fun c o q e => up c o (by rcases q with rfl | rfl; exact D.i1z; exact D.l1z) e) (G2.keep q2 fun c o q e => up c o (by rcases q with rfl | rfl; exact D.i2z; exact D.l2z) e) t8 sz8
    fun c o n1 n2 n3 n4 e => up c o n1 (r5 c o n1 n2 n3 n4 e)
theorem zipG_fin {Q : Fin → Shared → Prop} (hh : A.handled = none) (D : ZipApart z TI TO i1 i2 l1 l2) (G1 : Gives prog w i1 l1 xs P1) (G2 : Gives prog w i2 l2 ys P2)
    (hz : IsZip s.heap z TI TO .none) (hTI : IsPair s.heap TI (.ref i1) (.ref i2)) (hTO : IsPair s.heap TO a b) (h1 : P1 s.heap k1) (h2 : P2 s.heap k2) (hend : xs[k1]? = none ∨ ys[k2]? = none)
    (hE : ∀ h' e, Rest4 z TO i1 i2 s.heap h' → (∃ o, h'.get? e = some o ∧ o.cls = .type "StopIteration") → E (.ref e) { s with heap := h' }) :
    wpAny (model prog w) A (Builtin.«zip.__next__» ⟨[.ref z], []⟩) Q E s := by
  show wpAny _ _ (field (.ref z) 2 >>= _) _ _ _
  refine wpAny_bind (wpAny_field hz rfl (x := .bool false) rfl ?_)
  show wpAny _ _ (field (.ref z) 3 >>= _) _ _ _
  refine wpAny_bind (wpAny_field hz rfl (x := .ref TI) rfl (wpAny_bind (wpAny_seqItems hTI rfl ?_)))
  show wpAny _ _ (Builtin.SmallTypes.ownedTupleIsFree (.ref z) >>= _) _ _ _
  unfold Builtin.SmallTypes.ownedTupleIsFree
  refine wpAny_bind (wpAny_bind (wpAny_field hz rfl (x := .none) rfl (wpAny_pure ?_)))
  simp only [if_true]
  refine wpAny_bind (wpAny_rule (wpAny_bind (wpAny_field hz rfl (x := .ref TO) rfl (wpAny_bind (wpAny_setField_rec hz (by simp) fun g1 z1 e1 => ?_)))))
  have z1 : IsZip g1 z TI TO .ellipsis := z1
  refine wpAny_bind ?_
  simp only [List.zipIdx_cons, List.zipIdx_nil, List.forIn_cons, List.forIn_nil]
  refine wpAny_bind (wpAny_bind (wpAny_onRaise ?_))
  show wpAny _ _ (Builtin.SmallTypes.nextOf (.ref i1) >>= _) _ _ _
  have close : ∀ {it g g' e : _} {R : Unit → Shared → Prop} {E' : Value → Shared → Prop}, Rest4 z TO i1 i2 s.heap g → IsZip g z TI TO .ellipsis → Heap.ExtBut it g g' → (it = i1 ∨ it = i2) → (∃ o, g'.get? e = some o ∧ o.cls = .type "StopIteration") →
      ∃ oe : Obj, g'.get? e = some oe ∧ oe.cls = .type "StopIteration" ∧ IsZip g' z TI TO .ellipsis ∧ e ≠ z ∧ Rest4 z TO i1 i2 s.heap g' := fun {it g g' e R E'} r zz x hi he => by
    obtain ⟨oe, ho, hc⟩ := he
    have zz' : IsZip g' z TI TO .ellipsis := x _ _ (by rcases hi with rfl | rfl; exact D.i1z.symm; exact D.i2z.symm) zz
    refine ⟨oe, ho, hc, zz', fun q => ?_, fun c o n1 n2 n3 n4 q => x c o (by rcases hi with rfl | rfl; exact n3; exact n4) (r c o n1 n2 n3 n4 q)⟩
    subst q
    rw [zz'] at ho
    cases ho
    simp at hc
  cases hx : xs[k1]? with
  | none =>
    refine wpAny_bind (G1.fin hh (G1.same1 D e1 (.inl rfl) h1) hx fun g2 e x he => ?_)
    obtain ⟨oe, ho, hc, z2, ne, r2⟩ := close (R := fun _ _ => True) (E' := E) (Rest4.of e1 (.inl rfl)) z1 x (.inl rfl) he
    exact wpAny_setField_rec z2 (by simp) fun g3 _ e3 => hE g3 e (r2.trans (Rest4.of e3 (.inl rfl))) ⟨oe, (e3.2 _ ne).trans ho, hc⟩
  | some x =>
    have hy : ys[k2]? = none := by rcases hend with h | h; rw [hx] at h; cases h; exact h
    refine wpAny_bind (G1.item (G1.same1 D e1 (.inl rfl) h1) hx fun g2 p1 e2 => wpAny_pure ?_)
    have t2 := pair_same e2 D.TOi1 (pair_same e1 D.TOz hTO)
    refine wpAny_bind (wpAny_seqItems t2 rfl (wpAny_bind (wpAny_updateSeq_pair t2 fun g3 t3 e3 => wpAny_bind (wpAny_letGo (wpAny_pure ?_)))))
    refine wpAny_bind (wpAny_bind (wpAny_onRaise ?_))
    show wpAny _ _ (Builtin.SmallTypes.nextOf (.ref i2) >>= _) _ _ _
    refine wpAny_bind (G2.fin hh (G2.same2 D e3 (.inr (.inl rfl)) (G2.same2 D e2 (.inr (.inr rfl)) (G2.same2 D e1 (.inl rfl) h2))) hy fun g4 e x he => ?_)
    have z3 : IsZip g3 z TI TO .ellipsis := (e3.2 z D.TOz.symm).trans ((e2.2 z D.i1z.symm).trans z1)
    obtain ⟨oe, ho, hc, z4, ne, r4⟩ := close (R := fun _ _ => True) (E' := E) ((Rest4.of e1 (.inl rfl)).trans ((Rest4.of e2 (.inr (.inr (.inl rfl)))).trans (Rest4.of e3 (.inr (.inl rfl))))) z3 x (.inr rfl) he
    exact wpAny_setField_rec z4 (by simp) fun g5 _ e5 => hE g5 e (r4.trans (Rest4.of e5 (.inl rfl))) ⟨oe, (e5.2 _ ne).trans ho, hc⟩
theorem nextG_item {x y : Value} {Q : Option Value → Shared → Prop} (D : ZipApart z TI TO i1 i2 l1 l2) (G1 : Gives prog w i1 l1 xs P1) (G2 : Gives prog w i2 l2 ys P2)
    (hz : IsZip s.heap z TI TO .none) (hTI : IsPair s.heap TI (.ref i1) (.ref i2)) (hTO : IsPair s.heap TO a b) (h1 : P1 s.heap k1) (h2 : P2 s.heap k2) (hx : xs[k1]? = some x) (hy : ys[k2]? = some y)
    (hQ : ∀ h', IsZip h' z TI TO (rawInt s.heap.objs.size) → IsPair h' TO x y → P1 h' (k1 + 1) → P2 h' (k2 + 1) → IsPair h' s.heap.objs.size x y → h'.objs.size = s.heap.objs.size + 1 → Rest4 z TO i1 i2 s.heap h' → Q (some (.ref s.heap.objs.size)) { s with heap := h' }) :
    wpAny (model prog w) A (pyNext (.ref z)) Q E s := by
  have ty : s.TypeIs (.ref z) "zip" := ⟨_, hz, rfl⟩
  unfold pyNext
  refine wpAny_bind (wpAny_attempt (wpAny_callSpecial?_slot (name := Str.ofString "__next__") ty F.slot_zip_next (wpAny_call_entry F.slot_zip_next ty F.entry_zip_next ?_ (F.args_zip_next_1 _))))
  exact zipG_item D G1 G2 hz hTI hTO h1 h2 hx hy fun h' b1 b2 b3 b4 b5 b6 b7 => wpAny_pure (hQ h' b1 b2 b3 b4 b5 b6 b7)
theorem nextG_fin {Q : Option Value → Shared → Prop} (hh : A.handled = none) (D : ZipApart z TI TO i1 i2 l1 l2) (G1 : Gives prog w i1 l1 xs P1) (G2 : Gives prog w i2 l2 ys P2)
    (hz : IsZip s.heap z TI TO .none) (hTI : IsPair s.heap TI (.ref i1) (.ref i2)) (hTO : IsPair s.heap TO a b) (h1 : P1 s.heap k1) (h2 : P2 s.heap k2) (hend : xs[k1]? = none ∨ ys[k2]? = none)
    (hQ : ∀ h', Rest4 z TO i1 i2 s.heap h' → Q none { s with heap := h' }) : wpAny (model prog w) A (pyNext (.ref z)) Q E s := by
  have ty : s.TypeIs (.ref z) "zip" := ⟨_, hz, rfl⟩
  unfold pyNext
  refine wpAny_bind (wpAny_attempt (wpAny_callSpecial?_slot (name := Str.ofString "__next__") ty F.slot_zip_next (wpAny_call_entry F.slot_zip_next ty F.entry_zip_next ?_ (F.args_zip_next_1 _))))
  refine zipG_fin hh D G1 G2 hz hTI hTO h1 h2 hend fun h' e r he => ?_
  obtain ⟨o, ho, hc⟩ := he
  exact wpAny_bind (wpAny_isInstance (T := "StopIteration") (b := true) ⟨o, ho, hc⟩ isSubtype_stop (wpAny_pure (hQ _ r)))
end
/-! ### zip of a list and a tuple -/
abbrev zm1 (h : Heap) (l1 : Addr) : Heap := h.push { cls := .type "list_iterator", data := .fields #[.ref l1, .int 0 0] }
abbrev zm2 (h : Heap) (l1 l2 : Addr) : Heap := (zm1 h l1).push { cls := .type "tuple_iterator", data := .fields #[.ref l2, .int 0 0] }
abbrev zm3 (h : Heap) (l1 l2 : Addr) : Heap := (zm2 h l1 l2).push { cls := .type "tuple", data := .seq #[.ref h.objs.size, .ref (zm1 h l1).objs.size] }
abbrev zm4 (h : Heap) (l1 l2 : Addr) : Heap := (zm3 h l1 l2).push { cls := .type "tuple", data := .seq #[.none, .none] }
abbrev zm5 (h : Heap) (l1 l2 : Addr) : Heap := (zm4 h l1 l2).push { cls := .type "zip", data := .fields #[.none, .bool false, .bool false, .ref (zm2 h l1 l2).objs.size, .ref (zm3 h l1 l2).objs.size] }
theorem meets_zm (l1 l2 : Addr) (xs ys : Array Value) : Meets (Builtin.«zip.__new__» ⟨[.type "zip", .ref l1, .ref l2], []⟩) (fun _ R s => s.heap.IsList l1 xs ∧ s.heap.IsTuple l2 ys ∧
    R (.ok (.ret (.ref (zm4 s.heap l1 l2).objs.size))) { s with heap := zm5 s.heap l1 l2 }) :=
  .of_wp fun prog w A R s h => by
    obtain ⟨hp, g, d, tk, os⟩ := s
    obtain ⟨p1, p2, h⟩ := h
    have hsub := sub_zip
    have q1 : Heap.IsList (Shared.heap ⟨hp, g, d, tk, os⟩) l1 xs := p1
    have q2 : Heap.IsTuple (Shared.heap ⟨hp.push { cls := .type "list_iterator", data := .fields #[.ref l1, .int 0 0] }, g, d, tk, os⟩) l2 ys := Heap.IsTuple.push p2 _
    wp_walk using wpAny_pyIter_list q1, wpAny_pyIter_tuple q2
    exact ⟨_, rfl, h⟩
section
variable {prog : Program} {w : World} {A : Around} {E : Value → Shared → Prop} {s : Shared}
theorem call_zm {l1 l2 : Addr} {xs ys : Array Value} {Q : Value → Shared → Prop} (p1 : s.heap.IsList l1 xs) (p2 : s.heap.IsTuple l2 ys)
    (h : ∀ h', IsZip h' (s.heap.objs.size + 4) (s.heap.objs.size + 2) (s.heap.objs.size + 3) .none → IsPair h' (s.heap.objs.size + 2) (.ref s.heap.objs.size) (.ref (s.heap.objs.size + 1)) →
      IsPair h' (s.heap.objs.size + 3) .none .none → h'.IsListIter s.heap.objs.size l1 0 → h'.IsTupleIter (s.heap.objs.size + 1) l2 0 → (∀ c o, s.heap.get? c = some o → h'.get? c = some o) → Q (.ref (s.heap.objs.size + 4)) { s with heap := h' }) :
    wpAny (model prog w) A (call (.type "zip") [.ref l1, .ref l2]) Q E s := by
  refine callType_new F.called_zip (by decide) (F.typeCall_zip_2 _ _) (F.newCall_zip_2 _ _) (fun obj => F.args_object_init_3 obj _ _) F.entry_zip_new (meets_zm l1 l2 xs ys) ⟨p1, p2, ?_⟩
  have n1 : (zm1 s.heap l1).objs.size = s.heap.objs.size + 1 := Heap.size_push ..
  have n2 : (zm2 s.heap l1 l2).objs.size = s.heap.objs.size + 2 := by rw [Heap.size_push, n1]
  have n3 : (zm3 s.heap l1 l2).objs.size = s.heap.objs.size + 3 := by rw [Heap.size_push, n2]
  have n4 : (zm4 s.heap l1 l2).objs.size = s.heap.objs.size + 4 := by rw [Heap.size_push, n3]
  have g5 : (zm5 s.heap l1 l2).get? (zm4 s.heap l1 l2).objs.size = some _ := Heap.get?_push_size _ rfl
  have g4 : (zm5 s.heap l1 l2).get? (zm3 s.heap l1 l2).objs.size = some _ := Heap.get?_push_of_some _ (Heap.get?_push_size _ rfl)
  have g3 : (zm5 s.heap l1 l2).get? (zm2 s.heap l1 l2).objs.size = some _ := Heap.get?_push_of_some _ (Heap.get?_push_of_some _ (Heap.get?_push_size _ rfl))
  have g2 : (zm5 s.heap l1 l2).get? (zm1 s.heap l1).objs.size = some _ := Heap.get?_push_of_some _ (Heap.get?_push_of_some _ (Heap.get?_push_of_some _ (Heap.get?_push_size _ rfl)))
  have g1 : (zm5 s.heap l1 l2).get? s.heap.objs.size = some _ := Heap.get?_push_of_some _ (Heap.get?_push_of_some _ (Heap.get?_push_of_some _ (Heap.get?_push_of_some _ (Heap.get?_push_size _ rfl))))
  show _ ∧ _
  rw [n2, n3, n4] at g5
  rw [n1, n2] at g3
  rw [n3] at g4
  rw [n1] at g2
  rw [n4]
  exact ⟨⟨_, g5, rfl⟩, h _ g5 g3 g4 ⟨_, g1, rfl, rfl⟩ ⟨_, g2, rfl, rfl⟩ fun c o e => Heap.get?_push_of_some _ (Heap.get?_push_of_some _ (Heap.get?_push_of_some _ (Heap.get?_push_of_some _ (Heap.get?_push_of_some _ e))))⟩
end
/-- the list at a and the tuple at b, told pair by pair -/
def ItzM (K : PySem.W.Frag) (a b : Addr) : It :=
  ⟨fun i H => ∃ (xs ys : List V) (x y : V), SqL K H a xs ∧ SqT K H b ys ∧ xs[i]? = some x ∧ ys[i]? = some y,
    fun i H v H' => ∃ T x y, v = .ref T ∧ H T = none ∧ H' = upd H T (.tup [x, y]) ∧ (∀ xs, SqL K H a xs → xs[i]? = some x) ∧ ∀ ys, SqT K H b ys → ys[i]? = some y,
    fun i H => ∃ xs ys : List V, SqL K H a xs ∧ SqT K H b ys ∧ (xs.length ≤ i ∨ ys.length ≤ i)⟩
theorem turn_zm {P : Program} {w : World} {K : PySem.W.Frag} {elts : List Expr} {kk : Nat} {tpos : Pos} {a b z TI TO i1 i2 : Addr} (D : ZipApart z TI TO i1 i2 a b) :
    Turn P w K (.Tuple elts kk tpos) (ItzM K a b) [z, TI, TO, i1, i2] z (fun i h => IsZip h z TI TO .none ∧ IsPair h TI (.ref i1) (.ref i2) ∧ (∃ x y, IsPair h TO x y) ∧ h.IsListIter i1 a i ∧ h.IsTupleIter i2 b i) where
  mem := by simp
  obj := fun i h st c hc => by
    obtain ⟨hz, hTI, ⟨x, y, hTO⟩, ⟨o1, e1, _, d1⟩, ⟨o2, e2, _, d2⟩⟩ := st
    have hc : c = z ∨ c = TI ∨ c = TO ∨ c = i1 ∨ c = i2 := by simpa using hc
    rcases hc with q | q | q | q | q <;> rw [q]
    · exact ⟨_, hz, fun v q => nomatch q⟩
    · exact ⟨_, hTI, fun v q => nomatch q⟩
    · exact ⟨_, hTO, fun v q => nomatch q⟩
    · exact ⟨o1, e1, fun v q => by rw [d1] at q; cases q⟩
    · exact ⟨o2, e2, fun v q => by rw [d2] at q; cases q⟩
  keep := fun i h h' st k => by
    obtain ⟨hz, hTI, ⟨x, y, hTO⟩, h1, h2⟩ := st
    exact ⟨k z (by simp) _ hz, k TI (by simp) _ hTI, ⟨x, y, k TO (by simp) _ hTO⟩, h1.at fun o q => k i1 (by simp) o q, h2.at fun o q => k i2 (by simp) o q⟩
  item := by
    intro X hP hw hK hc i pins s σ H E I hf st hg
    subst hP hw hK
    obtain ⟨hz, hTI, ⟨x0, y0, hTO⟩, h1, h2⟩ := st
    obtain ⟨xs, ys, x, y, hqx, hqy, hx, hy⟩ := hg
    obtain ⟨its, rv, p, _⟩ := I.list hqx
    obtain ⟨its2, rv2, p2, _⟩ := I.tuple hqy
    obtain ⟨u, hu, ru⟩ := rv.get hx
    obtain ⟨u2, hu2, ru2⟩ := rv2.get hy
    have zl : z < s.heap.objs.size := Heap.lt_size hz
    refine nextG_item D (gives_list D.l1i1) (gives_tuple D.l2i2) hz hTI hTO ⟨h1, p.isList⟩ ⟨h2, p2⟩ (x := u) (y := u2) (by simpa using hu) (by simpa using hu2) fun h' z' TO' h1' h2' hT hsz hk => ?_
    refine ⟨_, rfl, wpAny_letOwnedTupleGo_zip (s := { s with heap := h' }) z' fun h'' z'' sb => ?_⟩
    have hT2 : h''.get? s.heap.objs.size = some { cls := .type "tuple", data := .seq #[u, u2] } := (sb.2 _ (Nat.ne_of_gt zl)).trans hT
    have new : ObjOk X.prog X.w (upd H s.heap.objs.size (.tup [x, y])) h'' s.heap.objs.size (.tup [x, y]) := ⟨by show 2 ≤ sizeLine; decide, [u, u2], .cons ru (.cons ru2 .nil), ⟨_, hT2, rfl, _, rfl⟩⟩
    have I1 : Inv X pins σ (upd H s.heap.objs.size (.tup [x, y])) { s with heap := h'' } :=
      I.turnedNew (t' := s.toks) (ch := [z, TI, TO, i1, i2]) (fun c o hb q => (sb.2 c (fun w => hb (by simp [w]))).trans (hk c o (fun w => hb (by simp [w])) (fun w => hb (by simp [w])) (fun w => hb (by simp [w])) (fun w => hb (by simp [w])) q)) hf (Nat.le_refl _) new
    have stay : ∀ c o, c ≠ z → h'.get? c = some o → h''.get? c = some o := fun c o n e => (sb.2 c n).trans e
    refine ⟨.ref s.heap.objs.size, _, I1, rfl, ⟨_, x, y, rfl, I.hok.fresh (Nat.le_refl _), rfl, fun l hl => by rw [I.list_inj hl hqx]; exact hx, fun l hl => by rw [I.tuple_inj hl hqy]; exact hy⟩, ⟨z'', ?_, ⟨u, u2, stay _ _ D.TOz TO'⟩, h1'.1.at fun o q => stay _ o D.i1z q, h2'.1.at fun o q => stay _ o D.i2z q⟩, fun c hcm => ?_⟩
    · exact stay _ _ D.TIz (hk _ _ D.TIz D.TITO D.TIi1 D.TIi2 hTI)
    · have lt : c < s.heap.objs.size := by
        have hcm : c = z ∨ c = TI ∨ c = TO ∨ c = i1 ∨ c = i2 := by simpa using hcm
        obtain ⟨_, e1, _⟩ := h1
        obtain ⟨_, e2, _⟩ := h2
        rcases hcm with q | q | q | q | q <;> rw [q]
        · exact zl
        · exact Heap.lt_size hTI
        · exact Heap.lt_size hTO
        · exact Heap.lt_size e1
        · exact Heap.lt_size e2
      rw [upd_ne (Nat.ne_of_lt lt)]
      exact (hf c hcm).1
  done := by
    intro X hP hw hK hc i pins s σ H E I hf st hg
    subst hP hw hK
    obtain ⟨hz, hTI, ⟨x0, y0, hTO⟩, h1, h2⟩ := st
    obtain ⟨xs, ys, hqx, hqy, hend⟩ := hg
    obtain ⟨its, rv, p, _⟩ := I.list hqx
    obtain ⟨its2, rv2, p2, _⟩ := I.tuple hqy
    have n1 := rv.length
    have n2 := rv2.length
    have he : its.toArray[i]? = none ∨ its2.toArray[i]? = none := by
      rcases hend with q | q
      · exact .inl (by simp; omega)
      · exact .inr (by simp; omega)
    exact nextG_fin (I.ok.hd hc) D (gives_list D.l1i1) (gives_tuple D.l2i2) hz hTI hTO ⟨h1, p.isList⟩ ⟨h2, p2⟩ he fun h' hk => ⟨rfl, I.turnedL (t' := s.toks) (ch := [z, TI, TO, i1, i2]) (fun c o hb q =>
      hk c o (fun w => hb (by simp [w])) (fun w => hb (by simp [w])) (fun w => hb (by simp [w])) (fun w => hb (by simp [w])) q) hf⟩
  self := fun A i s Q E st h => wpAny_pyIter_zip st.1 h
/-- zip of two lists, two tuples, or a list and a tuple -/
def iZipM (K : PySem.W.Frag) (ta : TA) : TI := fun σ H R => ta σ H fun vs H1 => ∃ a b xs ys, vs = [.ref a, .ref b] ∧ ((SqL K H1 a xs ∧ SqL K H1 b ys ∧ R (Itz K a b) H1) ∨ (SqT K H1 a xs ∧ SqT K H1 b ys ∧ R (RZ.ItzT K a b) H1) ∨ (SqL K H1 a xs ∧ SqT K H1 b ys ∧ R (ItzM K a b) H1))
theorem pi_zm {X : Cx} {e e2 : Expr} {ta : TA} {p pos tpos : Pos} {elts : List Expr} {kk : Nat} (hg : Gl X "zip") (hm : X.mg "zip" = none) (ha : PA X [e, e2] ta)
    (hs : starEach [e, e2] X.env = (false, eval e X.env) :: starEach [e2] X.env := by rfl) (hpl : (backTo pos (starEach [e2] X.env)).any (·.1) = false := by rfl) :
    PI X (.Tuple elts kk tpos) (.Call (.Name "zip" p) [e, e2] [] pos) (iZipM X.K ta) := by
  refine ⟨fun pins s σ H R I h => ?_⟩
  refine Call_ (ld_blt I hg hm PyProof.Rows.boot_zip (PyProof.Rows.callWith_type1 (thn (ha.run pos pins s σ H _ I h) fun us s1 ⟨vs, H1, I1, r1, q1⟩ => ?_) hs hpl))
  obtain ⟨a, b, xs, ys, ex, q1⟩ := q1
  subst ex
  cases r1 with
  | cons r rr =>
    cases rr with
    | cons r' rr =>
      cases rr
      cases r
      cases r'
      have fresh : ∀ c, c ∈ [s1.heap.objs.size + 4, s1.heap.objs.size + 2, s1.heap.objs.size + 3, s1.heap.objs.size, s1.heap.objs.size + 1] → FpOk X pins H1 c := fun c hc => by
        have le : s1.heap.objs.size ≤ c := by
          simp only [List.mem_cons, List.not_mem_nil, or_false] at hc
          rcases hc with q | q | q | q | q <;> rw [q] <;> first | exact Nat.le_add_right _ _ | exact Nat.le_refl _
        exact I1.fpOk le (I1.hok.fresh le)
      rcases q1 with ⟨hqx, hqy, q⟩ | ⟨hqx, hqy, q⟩ | ⟨hqx, hqy, q⟩
      · obtain ⟨its, rv, p1, _⟩ := I1.list hqx
        obtain ⟨its2, rv2, p2, _⟩ := I1.list hqy
        refine call_zip_2 p1.isList p2.isList fun h' hz hTI hTO h1 h2 _ hk => wpAny_pyIter_zip hz ?_
        have I2 : Inv X pins σ H1 { s1 with heap := h' } := I1.kept (t' := s1.toks) hk
        exact ⟨s1.heap.objs.size + 4, [s1.heap.objs.size + 4, s1.heap.objs.size + 2, s1.heap.objs.size + 3, s1.heap.objs.size, s1.heap.objs.size + 1], _, _, H1, rfl, I2, turn_zip (PySem.W.ktu_apart s1.heap.objs.size a b p1.lt p2.lt), ⟨hz, hTI, ⟨_, _, hTO⟩, h1, h2⟩, fresh, q⟩
      · obtain ⟨its, rv, p1, _⟩ := I1.tuple hqx
        obtain ⟨its2, rv2, p2, _⟩ := I1.tuple hqy
        obtain ⟨o1, ho1, _⟩ := id p1
        obtain ⟨o2, ho2, _⟩ := id p2
        refine RZ.call_zipT (show s1.heap.IsTuple a its.toArray from p1) (show s1.heap.IsTuple b its2.toArray from p2) fun h' hz hTI hTO h1 h2 _ hk => wpAny_pyIter_zip hz ?_
        have I2 : Inv X pins σ H1 { s1 with heap := h' } := I1.kept (t' := s1.toks) hk
        exact ⟨s1.heap.objs.size + 4, [s1.heap.objs.size + 4, s1.heap.objs.size + 2, s1.heap.objs.size + 3, s1.heap.objs.size, s1.heap.objs.size + 1], _, _, H1, rfl, I2, RZ.turn_zipT (PySem.W.ktu_apart s1.heap.objs.size a b (Heap.lt_size ho1) (Heap.lt_size ho2)), ⟨hz, hTI, ⟨_, _, hTO⟩, h1, h2⟩, fresh, q⟩
      · obtain ⟨its, rv, p1, _⟩ := I1.list hqx
        obtain ⟨its2, rv2, p2, _⟩ := I1.tuple hqy
        obtain ⟨o2, ho2, _⟩ := id p2
        refine call_zm p1.isList (show s1.heap.IsTuple b its2.toArray from p2) fun h' hz hTI hTO h1 h2 hk => wpAny_pyIter_zip hz ?_
        have I2 : Inv X pins σ H1 { s1 with heap := h' } := I1.kept (t' := s1.toks) hk
        exact ⟨s1.heap.objs.size + 4, [s1.heap.objs.size + 4, s1.heap.objs.size + 2, s1.heap.objs.size + 3, s1.heap.objs.size, s1.heap.objs.size + 1], _, _, H1, rfl, I2, turn_zm (PySem.W.ktu_apart s1.heap.objs.size a b p1.lt (Heap.lt_size ho2)), ⟨hz, hTI, ⟨_, _, hTO⟩, h1, h2⟩, fresh, q⟩
end Rc

/-! list(reversed(xs)). -/
namespace Rc
open PySem PySem.Spec PyProof.Rows L2 RT
section
variable {prog : Program} {w : World} {A : Around} {E : Value → Shared → Prop} {s : Shared}
theorem rvInit {Z : Result → Shared → Prop} {it l : Addr} {xs : Array Value} (hA : A.handled = none) (g1 : s.heap.IsRevIter it l ((xs.size : Int) - 1)) (g2 : s.heap.IsList l xs) (ne : l ≠ it) (hz : xs.size ≤ sizeLine)
    (T : Addr) (nl : T ≠ l) (ni : T ≠ it) (gT : s.heap.get? T = some { cls := .type "list", data := .seq #[] })
    (fin : ∀ h2 t2 acc2 c2, (∀ b o, b ≠ T → b ≠ it → s.heap.get? b = some o → h2.get? b = some o) → h2.get? T = some { cls := .type "list", dict := none, data := .seq acc2 c2, slots := #[] } →
      ItemsOf (fun i v => xs[xs.size - 1 - i]? = some v) acc2 xs.size → Z (.ok (.ret .none)) { s with heap := h2, toks := t2 }) :
    wpAny (model prog w) A.in1 (Builtin.«list.__init__» ⟨[.ref T, .ref it], []⟩)
      (fun fin s2 => match fin with | .done f => Z (.ok f) s2 | .again d => d.quiet = true ∧ codeAny (model prog w) A d Z s2) (fun e s2 => Z (.error e) s2) s := by
  have Wk := (Walks.listRev (prog := prog) (w := w) (A := A.in1) hA it l ne xs).toS
  have nT : T ∉ [it, l] := by simp only [List.mem_cons, List.not_mem_nil, or_false, not_or]; exact ⟨ni, nl⟩
  show wpAny _ _ (do let was ← Builtin.List.listItems (.ref T); Builtin.List.listUpdate (.ref T) (fun _ => #[]); letGo was.toList.reverse; Builtin.List.listExtendWith (.ref T) (.ref it) .none) _ _ s
  refine wpAny_bind ?_
  unfold Builtin.List.listItems
  refine wpAny_bind (wpAny_seqItems gT rfl (wpAny_pure ?_))
  show wpAny _ _ (updateSeq T (fun _ => #[]) >>= fun _ => letGo (#[] : Array Value).toList.reverse >>= fun _ => Builtin.List.listExtendWith (.ref T) (.ref it) .none) _ _ s
  refine wpAny_bind (wpAny_updateSeq gT rfl ?_)
  have gT2 := Heap.get?_update_self (Obj.mapSeq (fun _ => (#[] : Array Value))) gT rfl
  have st : ∀ b o, b ≠ T → s.heap.get? b = some o → (s.heap.update T (Obj.mapSeq (fun _ => (#[] : Array Value)))).get? b = some o :=
    fun b o hb q => (Heap.get?_update_other _ _ (Ne.symm hb)).trans q
  refine wpAny_bind (wpAny_letGo ?_)
  have g3 : (s.heap.update T (Obj.mapSeq (fun _ => (#[] : Array Value)))).IsRevIter it l ((xs.size : Int) - 1) := g1.at fun o q => st _ _ ni.symm q
  have g4 : (s.heap.update T (Obj.mapSeq (fun _ => (#[] : Array Value)))).IsList l xs := by
    obtain ⟨o, q1, q2⟩ := id g2
    exact ⟨o, st _ _ nl.symm q1, q2⟩
  have ty : ({ s with heap := s.heap.update T (Obj.mapSeq (fun _ => (#[] : Array Value))) } : Shared).TypeIs (.ref it) "list_reverseiterator" := Heap.IsRevIter.typeIs (s := { s with heap := s.heap.update T (Obj.mapSeq (fun _ => (#[] : Array Value))) }) g3
  have nr : Builtin.List.listSameRef (.ref T) (.ref it) = false := by simp [Builtin.List.listSameRef, ni]
  unfold Builtin.List.listExtendWith
  refine wpAny_bind (wpAny_typeOf ty ?_)
  rw [if_neg (by rw [nr]; decide)]
  refine wpAny_bind (wpAny_pyIter_revIter (s := { s with heap := s.heap.update T (Obj.mapSeq (fun _ => (#[] : Array Value))) }) g3 ?_)
  refine wpAny_bind (wpAny_holding ?_)
  unfold Builtin.List.listLengthHint
  refine wpAny_bind (wpAny_specialOf ty nolen_lri ?_)
  show wpAny _ A.in1 (specialOf (Value.ref it) (Str.ofString "__length_hint__") >>= _) _ _ _
  refine wpAny_bind (wpAny_specialOf ty hint_lri ?_)
  generalize hn : ("list_reverseiterator.__length_hint__" : String) = nm
  wp_delta
  rw [show splitId nm = some ("list_reverseiterator", "__length_hint__") from by subst hn; decide +kernel]
  subst hn
  refine wpAny_bind (wpAny_isInstance (b := true) ty (by rw [isSubtype_type]; kernel_rfl) ?_)
  refine wpAny_pure ?_
  rw [if_neg (by decide)]
  have e0 : ((xs.size : Nat) : Int) - 1 - ((0 : Nat) : Int) = (xs.size : Int) - 1 := by omega
  refine wpAny_pure ⟨plainId_quiet F.plain_extend_loop _, codeAny_extend_loopS Wk hz T nT _ xs.size 0 _ _ _ rfl (Nat.zero_le _) ⟨Nat.zero_le _, by rw [e0]; exact g3, g4⟩ gT2 (ItemsOf.nil _) fun s2 acc2 c2 hm q1 q2 => ?_⟩
  rw [Moved.eq_with hm]
  refine fin s2.heap s2.toks acc2 c2 (fun b o n1 n2 q => hm.heap b o (fun hmem => ?_) (st b o n1 q)) q1 q2
  rcases List.mem_cons.mp hmem with z | hmem
  · exact n1 z
  · exact n2 (List.mem_singleton.mp hmem)
theorem call_rvl {Z : Value → Shared → Prop} {it l : Addr} {xs : Array Value} (hA : A.handled = none) (g1 : s.heap.IsRevIter it l ((xs.size : Int) - 1)) (g2 : s.heap.IsList l xs) (ne : l ≠ it) (hz : xs.size ≤ sizeLine)
    (fin : ∀ h2 t2 acc2 c2, (∀ b o, b ≠ it → s.heap.get? b = some o → h2.get? b = some o) → h2.get? s.heap.objs.size = some { cls := .type "list", dict := none, data := .seq acc2 c2, slots := #[] } →
      ItemsOf (fun i v => xs[xs.size - 1 - i]? = some v) acc2 xs.size → Z (.ref s.heap.objs.size) { s with heap := h2, toks := t2 }) :
    wpAny (model prog w) A (call (.type "list") [.ref it]) Z E s := by
  refine callType_codes (Q₁ := fun v s2 => v = .ref s.heap.objs.size ∧ s2 = { s with heap := s.heap.push { cls := .type "list", data := .seq #[] } }) F.called_list (F.typeCall_list_1 _) F.entry_list_init
    (code_list_new _ ⟨rfl, rfl⟩) fun v s2 q => ?_
  obtain ⟨rfl, rfl⟩ := q
  have gT : (s.heap.push { cls := .type "list", data := .seq #[] }).get? s.heap.objs.size = some { cls := .type "list", data := .seq #[] } := Heap.get?_push_size _ rfl
  obtain ⟨o1, k1, _⟩ := id g1
  obtain ⟨o2, k2, _⟩ := id g2
  refine ⟨⟨_, gT, rfl⟩, F.args_list_init_2 _ _, rvInit (A := A.in1) hA (g1.at fun o q => Heap.get?_push_of_some _ q) (g2.push _) ne hz _ (Nat.ne_of_gt (Heap.lt_size k2)) (Nat.ne_of_gt (Heap.lt_size k1)) gT fun h2 t2 acc2 c2 hk q1 q2 => ?_⟩
  exact ⟨rfl, fin h2 t2 acc2 c2 (fun b o nb q => hk b o (Nat.ne_of_lt (Heap.lt_size q)) nb (Heap.get?_push_of_some _ q)) q1 q2⟩
end
def tRvl (K : PySem.W.Frag) (te : TE) : TE := fun σ H Q => te σ H fun v H1 => ∃ (a : Addr) (xs : List V), v = .ref a ∧ SqL K H1 a xs ∧ ∀ q, H1 q = none → Q (.ref q) (upd H1 q (.lst xs.reverse))
theorem pe_rvl {X : Cx} {e : Expr} {te : TE} {p p2 pos pos2 : Pos} (hc : X.calm = true) (g1 : Gl X "list") (m1 : X.mg "list" = none) (g2 : Gl X "reversed") (m2 : X.mg "reversed" = none) (he : PE X e te)
    (z1 : starEach [e] X.env = (false, eval e X.env) :: starEach [] X.env) :
    PE X (.Call (.Name "list" p) [.Call (.Name "reversed" p2) [e] [] pos2] [] pos) (tRvl X.K te) := by
  have z2 : starEach [.Call (.Name "reversed" p2) [e] [] pos2] X.env = (false, eval (.Call (.Name "reversed" p2) [e] [] pos2) X.env) :: starEach [] X.env := rfl
  refine ⟨fun pins s σ H Q I h => ?_⟩
  refine Call_ (ld_blt I g1 m1 boot_list (PyProof.Rows.callWith_type1 (args_cons (Call_ (ld_blt I g2 m2 PyProof.Rows.boot_reversed (PyProof.Rows.callWith_type1 (args_cons (thn (he.run pins s σ H _ I h) fun u s1 ⟨v, H1, I1, r1, q1⟩ => args_nil ?_) z1) z1 rfl))) z2) z2 rfl))
  obtain ⟨a, xs, ev, hq, q⟩ := q1
  subst ev
  obtain rfl : u = Value.ref a := r1
  obtain ⟨its, rv, p', hz⟩ := I1.list hq
  refine call_reversed_list p'.isList (args_nil ?_)
  have k0 : ∀ b o, s1.heap.get? b = some o → (s1.heap.push (revObj a ((its.toArray.size : Int) - 1))).get? b = some o := fun b o q => Heap.get?_push_of_some _ q
  have I2 : Inv X pins σ H1 { s1 with heap := s1.heap.push (revObj a ((its.toArray.size : Int) - 1)) } := I1.kept (t' := s1.toks) k0
  obtain ⟨f0, f1, f2, f3, f4, f5⟩ := I1.fpOk (H' := H1) (b := s1.heap.objs.size) (Nat.le_refl _) (I1.hok.fresh (Nat.le_refl _))
  have hl := p'.isList
  obtain ⟨ol, hol, _⟩ := id hl
  have hn : its.toArray.size ≤ sizeLine := by rw [List.size_toArray, ← rv.length]; exact hz
  refine call_rvl (s := { s1 with heap := s1.heap.push (revObj a ((its.toArray.size : Int) - 1)) }) (I1.ok.hd hc) ⟨_, Heap.get?_push_size _ rfl, rfl, rfl⟩ (hl.push _) (Nat.ne_of_lt (Heap.lt_size hol)) hn fun h2 tk acc c2 hk gT hi => ?_
  have I3 : Inv X pins σ H1 { s1 with heap := h2, toks := tk } := I2.turned (t' := tk) (fun b o hb q => hk b o hb q) f0 f1 f3 f4 f5
  have e1 : (s1.heap.push (revObj a ((its.toArray.size : Int) - 1))).objs.size = s1.heap.objs.size + 1 := by simp [Heap.push]
  have fr : H1 (s1.heap.objs.size + 1) = none := I1.hok.fresh (Nat.le_succ _)
  rw [e1] at gT ⊢
  refine ⟨.ref _, upd H1 (s1.heap.objs.size + 1) (.lst xs.reverse), I1.laid (t' := tk) (fun b o q => hk b o (Nat.ne_of_lt (Heap.lt_size q)) (Heap.get?_push_of_some _ q)) (Nat.le_succ _) (show ObjOk X.prog X.w _ _ _ (.lst xs.reverse) from ⟨by rw [List.length_reverse]; exact hz, acc.toList, c2, vals_rev rv hi, by rw [Array.toArray_toList]; exact gT⟩), rfl, q _ fr⟩
end Rc

/-! More expressions: in, chains, count, displays of texts asked at once, reversed ranges. -/
namespace Rc
open PySem PySem.Spec PyProof.Rows L2
theorem flat_dp {K : PySem.W.Frag} {F : Hp} {v : V} {d : D} (h : Dp K F v d) (f : flatD d = true) : flatV v = true := by
  cases h <;> first | rfl | exact absurd f Bool.false_ne_true
theorem eqV_dp {K : PySem.W.Frag} {F : Hp} {y x : V} {d e : D} (hy : Dp K F y d) (hx : Dp K F x e) (fd : flatD d = true) (fe : flatD e = true) : eqV y x = PyData.eqv d e := by
  cases hy <;> first
    | exact absurd fd Bool.false_ne_true
    | (cases hx <;> first | exact absurd fe Bool.false_ne_true | rfl)
theorem inV_da {K : PySem.W.Frag} {F : Hp} {x : V} {e : D} (hx : Dp K F x e) (fe : flatD e = true) : ∀ {vs : List V} {ds : List D}, DpAll K F vs ds → ds.all flatD = true → vs.all flatV = true ∧ inV x vs = ds.any fun z => PyData.eqv z e
  | _, _, .nil, _ => ⟨rfl, rfl⟩
  | _, _, .cons (v := v) (d := d) a b, h => by
    rw [List.all_cons, Bool.and_eq_true] at h
    obtain ⟨h1, h2⟩ := inV_da hx fe b h.2
    unfold inV at h2 ⊢
    rw [List.all_cons, flat_dp a h.1, h1, List.any_cons, List.any_cons, eqV_dp a hx h.1 fe, h2]
    exact ⟨rfl, rfl⟩
def rInW (K : PySem.W.Frag) (neg : Bool) : R2 := fun x y H Q => ∃ d e Qv, Dp K H x d ∧ Dp K H y e ∧ inW d e Qv ∧ ∀ c, Qv c → Q (.bl (if neg = true then !c else c)) H
theorem opIn {X : Cx} (hu : X.A.units + 65 < cLine) (neg : Bool) : OpR X (compareOp (if neg = true then .NotIn else .In)) (rInW X.K neg) := by
  intro pins s σ H x y v u Q I rx ry ⟨d, e, Qv, hx, hy, w, k⟩
  cases e with
  | list ys =>
    have w' : SeqAt.shaped d = true ∧ SeqAt.shaped (.list ys) = true ∧ Qv (ys.any fun z => PyData.eqv z d) := by
      cases d <;> exact w
    cases neg with
    | true => exact op_notInD hu pins s σ H x y v u Q I rx ry ⟨d, ys, dpOutS w'.1 hx, dpOutS w'.2.1 hy, w'.1, w'.2.1, k _ w'.2.2⟩
    | false => exact op_inD hu pins s σ H x y v u Q I rx ry ⟨d, ys, dpOutS w'.1 hx, dpOutS w'.2.1 hy, w'.1, w'.2.1, k _ w'.2.2⟩
  | tuple ys =>
    by_cases tp : ∃ zs, d = .tuple zs
    · obtain ⟨zs, rfl⟩ := tp
      have w' : SeqAt.shaped (.tuple zs) = true ∧ SeqAt.shaped (.tuple ys) = true ∧ Qv (ys.any fun z => PyData.eqv z (.tuple zs)) := w
      obtain ⟨as, r1⟩ := Dp.reads I _ x v (dpOutS w'.1 hx) rx
      obtain ⟨bs, r2⟩ := Dp.reads I (.tuple ys) y u (dpOutS w'.2.1 hy) ry
      cases neg with
      | true => exact SeqAt.notIn_tuple_reads r2 r1 (SeqAt.canLay_of_shaped w'.2.1) (SeqAt.canLay_of_shaped w'.1) (room_in_shaped w'.1 hu) ⟨.bl _, H, I, rfl, k _ w'.2.2⟩
      | false => exact SeqAt.in_tuple_reads r2 r1 (SeqAt.canLay_of_shaped w'.2.1) (SeqAt.canLay_of_shaped w'.1) (room_in_shaped w'.1 hu) ⟨.bl _, H, I, rfl, k _ w'.2.2⟩
    have w' : flatD d = true ∧ ys.all flatD = true ∧ Qv (ys.any fun z => PyData.eqv z d) := by
      cases d <;> first | exact w | exact absurd ⟨_, rfl⟩ tp
    obtain ⟨a, vs, rfl, r, da⟩ := dpTup hy
    obtain ⟨h1, h2⟩ := inV_da hx w'.1 da w'.2.1
    cases neg with
    | true => exact op_notIn_seq pins s σ H x _ v u Q I rx ry ⟨a, vs, rfl, .inr r, flat_dp hx w'.1, h1, by rw [if_pos rfl, h2]; exact k _ w'.2.2⟩
    | false => exact op_in_seq pins s σ H x _ v u Q I rx ry ⟨a, vs, rfl, .inr r, flat_dp hx w'.1, h1, by rw [if_neg Bool.false_ne_true, h2]; exact k _ w'.2.2⟩
  | str j =>
    cases d with
    | str i =>
      cases dpStr hx; cases dpStr hy
      cases neg with
      | true => exact op_notin_str pins s σ H _ _ v u Q I rx ry ⟨i, j, rfl, rfl, k _ w⟩
      | false => exact op_in_str pins s σ H _ _ v u Q I rx ry ⟨i, j, rfl, rfl, k _ w⟩
    | _ => exact w.elim
  | _ => cases d <;> exact w.elim
section
variable {fns : List FnI} {cls : List Str} {N : List Str} {C : Nat → Addr} {Φ : Fs} {k : Nat} {X : Cx} {b : Bd} {sc : Scope}
theorem noBehind {op : CmpOp} {r : Expr} (h : noSet r = true) : behindInMarks op r = false := by
  cases r <;> first | rfl | exact absurd h Bool.false_ne_true
theorem eInn (ok : Cok fns cls N C Φ k X sc b.W) {neg : Bool} {i j : IE} {l r : Expr} {p : Pos} (hs : noSet r = true) (h1 : PE X l (rdP X.K b (fun ε Xp q => pkW i ε (fun T => wE Φ i ε Xp T) q))) (h2 : PE X r (rdP X.K b (fun ε Xp q => pkW j ε (fun T => wE Φ j ε Xp T) q))) :
    PE X (.Compare l [if neg = true then .NotIn else .In] [r] p) (rdE X.K b (wE Φ (.inn neg i j))) ∧ PT X (.Compare l [if neg = true then .NotIn else .In] [r] p) (rdT X.K b (wE Φ (.inn neg i j))) := by
  have hu : X.A.units + 65 < cLine := by have := ok.room.un; omega
  refine ⟨peImp (pe_cmpR (opIn hu neg) h1 h2 (noBehind hs)) fun σ H Q ⟨ε, F, Xp, Qp, R, w, ex, kk⟩ => ?_,
    ptImp (pt_cmpR (opIn hu neg) h1 h2 (noBehind hs)) fun σ H Q ⟨ε, F, Xp, Qp, R, w, ex, kk⟩ => ?_⟩
  · exact ⟨ε, F, Xp, _, R, w, ex, fun d ε1 H1 F1 x s1 f1 R1 d1 q1 => ⟨ε1, F1, Xp, _, R1, q1, ex.mono s1, fun e ε2 H2 F2 y s2 f2 R2 d2 q2 =>
      ⟨d, e, _, (PAt.mono f2 s2 d1).dp R2.fh, d2.dp R2.fh, q2, fun c q => kk (.d (.bool _)) ε2 H2 F2 _ (s1.trans s2) (f1.trans f2) R2 (Dp.bl _) q⟩⟩⟩
  · exact ⟨ε, F, Xp, _, R, w, ex, fun d ε1 H1 F1 x s1 f1 R1 d1 q1 => ⟨ε1, F1, Xp, _, R1, q1, ex.mono s1, fun e ε2 H2 F2 y s2 f2 R2 d2 q2 =>
      ⟨d, e, _, (PAt.mono f2 s2 d1).dp R2.fh, d2.dp R2.fh, q2, fun c q => ⟨_, rfl, kk _ ε2 H2 F2 (s1.trans s2) (f1.trans f2) R2 q⟩⟩⟩⟩
theorem lastMk {o o' : CmpOp} {m r : Expr} (h1 : o' ≠ .In) (h2 : o' ≠ .NotIn) : lastMarks [o, o'] [m, r] = false := nomark _ h1 h2
theorem eCmp2 (ok : Cok fns cls N C Φ k X sc b.W) {o o' : CmpOp} {i j l : IE} {x y z : Expr} {p : Pos} (n1 : o' ≠ .In) (n2 : o' ≠ .NotIn) (h1 : PE X x (rdE X.K b (wE Φ i))) (h2 : PE X y (rdE X.K b (wE Φ j))) (h3 : PE X z (rdE X.K b (wE Φ l))) :
    PE X (.Compare x [o, o'] [y, z] p) (rdE X.K b (wE Φ (.cmp2 o o' i j l))) ∧ PT X (.Compare x [o, o'] [y, z] p) (rdT X.K b (wE Φ (.cmp2 o o' i j l))) := by
  refine ⟨peImp (pe_chain (opCmp ok.room.units o) (opCmp ok.room.units o') (peD h1) (peD h2) (peD h3) (lastMk n1 n2)) fun σ H Q ⟨ε, F, Xp, Qp, R, w, ex, kk⟩ => ?_,
    ptImp (pt_chain (opCmp ok.room.units o) (opCmp ok.room.units o') (peD h1) (peD h2) (peD h3) (lastMk n1 n2)) fun σ H Q ⟨ε, F, Xp, Qp, R, w, ex, kk⟩ => ?_⟩
  · refine ⟨ε, F, Xp, _, R, w, ex, fun d ε1 H1 F1 x s1 f1 R1 d1 q1 => ⟨ε1, F1, Xp, _, R1, q1, ex.mono s1, fun e ε2 H2 F2 y s2 f2 R2 d2 q2 => ⟨d, e, _, dpSub R2.fh (dpSub f2 d1), dpSub R2.fh d2, q2, fun c q3 => ⟨c, rfl, ?_⟩⟩⟩⟩
    cases c with
    | false => exact kk (.d (.bool false)) ε2 H2 F2 _ (s1.trans s2) (f1.trans f2) R2 (Dp.bl _) q3
    | true => exact ⟨ε2, F2, Xp, _, R2, q3, (ex.mono s1).mono s2, fun f ε3 H3 F3 u s3 f3 R3 d3 q4 => ⟨e, f, _, dpSub R3.fh (dpSub f3 d2), dpSub R3.fh d3, q4, fun c q =>
        kk (.d (.bool c)) ε3 H3 F3 _ ((s1.trans s2).trans s3) ((f1.trans f2).trans f3) R3 (Dp.bl _) q⟩⟩
  · refine ⟨ε, F, Xp, _, R, w, ex, fun d ε1 H1 F1 x s1 f1 R1 d1 q1 => ⟨ε1, F1, Xp, _, R1, q1, ex.mono s1, fun e ε2 H2 F2 y s2 f2 R2 d2 q2 => ⟨d, e, _, dpSub R2.fh (dpSub f2 d1), dpSub R2.fh d2, q2, fun c q3 => ⟨c, rfl, ?_⟩⟩⟩⟩
    cases c with
    | false => exact ⟨_, rfl, kk false ε2 H2 F2 (s1.trans s2) (f1.trans f2) R2 q3⟩
    | true => exact ⟨ε2, F2, Xp, _, R2, q3, (ex.mono s1).mono s2, fun f ε3 H3 F3 u s3 f3 R3 d3 q4 => ⟨e, f, _, dpSub R3.fh (dpSub f3 d2), dpSub R3.fh d3, q4, fun c q =>
        ⟨_, rfl, kk c ε3 H3 F3 ((s1.trans s2).trans s3) ((f1.trans f2).trans f3) R3 q⟩⟩⟩
theorem attrBase {o : Expr} (h : noAttr o = true) {name : Str} {env : Env} : attributeBase o name env (eval o env) = eval o env := by
  cases o <;> first | rfl | exact absurd h Bool.false_ne_true
theorem eCnt {i j : IE} {o e : Expr} {p q : Pos} (h0 : noAttr o = true) (hl : (q.endLine == p.line) = true) (he : plainE e = true) (h1 : PE X o (rdP X.K b (fun ε Xp q => pkW i ε (fun T => wE Φ i ε Xp T) q))) (h2 : PE X e (rdE X.K b (wE Φ j))) :
    PE X (.Call (.Attribute o "count" q) [e] [] p) (rdE X.K b (wE Φ (.cnt i j))) := by
  refine peImp (pe_bm (apos := q) (cpos := p) PySem.F.plainAttrs_list PySem.F.slot_list_count PySem.F.type_list_count mt_lcount h1 (pa_cons (peD h2) pa_nil (starOf he)) (attrBase h0) (by rw [starOf he]; rfl) hl (starOf he) rfl) fun σ H Q ⟨ε, F, Xp, Qp, R, w, ex, kk⟩ => ?_
  refine ⟨ε, F, Xp, _, R, w, ex, fun d ε1 H1 F1 x s1 f1 R1 d1 q1 => ?_⟩
  obtain ⟨tl, q1⟩ := q1
  have ty : tyV X.K "list" x H1 := by
    rcases d1 with d1 | ⟨r, vs, ys, rfl, rfl, h3, h4⟩
    · cases d with
      | list xs =>
        obtain ⟨a, vs, rfl, r1, a1⟩ := dpLst d1
        exact .inl ⟨rfl, vs, sqlSub R1.fh r1⟩
      | _ => cases tl
    · exact .inl ⟨rfl, vs, .inl (.inl h3)⟩
  refine ⟨ty, ε1, F1, Xp, _, R1, q1, ex.mono s1, fun e ε2 H2 F2 y s2 f2 R2 d2 q2 => ?_⟩
  have d3 := PAt.mono f2 s2 d1
  cases d with
  | list xs =>
    cases e with
    | int n =>
      obtain ⟨ns, hn, q3⟩ := q2
      cases dpInt d2
      have fin : Q (.int (ns.count n : Nat)) H2 := kk (.d (.int _)) ε2 H2 F2 _ (s1.trans s2) (f1.trans f2) R2 (Dp.int _) q3
      rcases d3 with d3 | ⟨r, vs, ys, rfl, e2, h3, h4⟩
      · obtain ⟨a, vs, rfl, r1, a1⟩ := dpLst d3
        have := asInts_of a1 hn
        subst this
        exact ⟨a, ns, n, rfl, rfl, sqlSub R2.fh r1, fin⟩
      · cases e2
        have := asInts_of h4.1 hn
        subst this
        exact ⟨r, ns, n, rfl, rfl, .inl (.inl h3), fin⟩
    | _ => exact q2.elim
  | _ => exact q2.elim
def cV : D → V
  | .bool b => .bl b
  | .int i => .int i
  | .str x => .str x
  | _ => .non
theorem eIdx (ok : Cok fns cls N C Φ k X sc b.W) {i j : IE} {o e : Expr} {p q : Pos} (h0 : noAttr o = true) (hl : (q.endLine == p.line) = true) (he : plainE e = true) (h1 : PE X o (rdP X.K b (fun ε Xp q => pkW i ε (fun T => wE Φ i ε Xp T) q))) (h2 : PE X e (rdE X.K b (wE Φ j))) :
    PE X (.Call (.Attribute o "index" q) [e] [] p) (rdE X.K b (wE Φ (.idx i j))) := by
  refine peImp (pe_bm (apos := q) (cpos := p) PySem.F.plainAttrs_list PySem.F.slot_list_index PySem.F.type_list_index (mt_indexD (by have := ok.room.un; omega)) h1 (pa_cons (peD h2) pa_nil (starOf he)) (attrBase h0) (by rw [starOf he]; rfl) hl (starOf he) rfl) fun σ H Q ⟨ε, F, Xp, Qp, R, w, ex, kk⟩ => ?_
  refine ⟨ε, F, Xp, _, R, w, ex, fun d ε1 H1 F1 x s1 f1 R1 d1 q1 => ?_⟩
  obtain ⟨tl, q1⟩ := q1
  have ty : tyV X.K "list" x H1 := by
    rcases d1 with d1 | ⟨r, vs, ys, rfl, rfl, h3, h4⟩
    · cases d with
      | list xs =>
        obtain ⟨a, vs, rfl, r1, a1⟩ := dpLst d1
        exact .inl ⟨rfl, vs, sqlSub R1.fh r1⟩
      | _ => cases tl
    · exact .inl ⟨rfl, vs, .inl (.inl h3)⟩
  refine ⟨ty, ε1, F1, Xp, _, R1, q1, ex.mono s1, fun e ε2 H2 F2 y s2 f2 R2 d2 q2 => ?_⟩
  have d3 := PAt.mono f2 s2 d1
  cases d with
  | list xs =>
    obtain ⟨sh1, sh2, j, z, hj, hz, hno, q3⟩ := q2
    have dl : Dp X.K H2 x (.list xs) := PAt.dp R2.fh d3
    obtain ⟨a, vs, rfl, _, _⟩ := dpLst dl
    exact ⟨a, y, e, xs, j, z, rfl, rfl, dpOutS sh1 dl, dpOutS sh2 (dpSub R2.fh d2), sh1, sh2, hj, hz, hno, kk (.d (.int _)) ε2 H2 F2 _ (s1.trans s2) (f1.trans f2) R2 (Dp.int _) q3⟩
  | _ => cases tl
theorem cV_dp {K : PySem.W.Frag} {F : Hp} {d : D} {e : Expr} (h : litE d e = true) : Dp K F (cV d) d := by
  cases d with
  | none => exact .non
  | bool _ => exact .bl _
  | int _ => exact .int _
  | str _ => exact .str _
  | _ =>
    exfalso
    unfold litE at h
    split at h
    · rename_i c _ _
      cases c <;> exact absurd h Bool.false_ne_true
    · exact absurd h Bool.false_ne_true
    · exact absurd h Bool.false_ne_true
theorem pe_lit {d : D} {e : Expr} (h : litE d e = true) : PE X e (tC (cV d)) := by
  cases e with
  | Constant q n p =>
    cases d with
    | none => cases q <;> first | exact pe_non | exact absurd h Bool.false_ne_true
    | bool x =>
      cases q with
      | bool y => cases (beq_iff_eq.mp (show (x == y) = true from h)); exact pe_bl
      | _ => exact absurd h Bool.false_ne_true
    | int x =>
      cases q with
      | int y => cases (beq_iff_eq.mp (show (x == y) = true from h)); exact pe_int
      | _ => exact absurd h Bool.false_ne_true
    | str x =>
      cases q with
      | str y => cases (of_decide_eq_true (show decide (x = y) = true from h)); exact pe_str
      | _ => exact absurd h Bool.false_ne_true
    | _ => exact absurd h Bool.false_ne_true
  | UnaryOp o a p =>
    cases d with
    | int x =>
      cases o with
      | USub =>
        cases a with
        | Constant q n p2 =>
          cases q with
          | int y =>
            cases (of_decide_eq_true (show decide (x = -y) = true from h))
            exact peImp (pe_un un_neg pe_int) fun σ H Q q => ⟨y, rfl, q⟩
          | _ => exact absurd h Bool.false_ne_true
        | _ => exact absurd h Bool.false_ne_true
      | _ => exact absurd h Bool.false_ne_true
    | _ =>
      exfalso
      unfold litE at h
      split at h
      · rename_i he
        cases he
      · exact absurd h Bool.false_ne_true
      · exact absurd h Bool.false_ne_true
  | _ => exact absurd h Bool.false_ne_true
mutual
theorem eLitX {b : Bd} : ∀ (d : D) (e : Expr), litX d e = true → PE X e (rdE X.K b (fun ε _ Q => Q (.d d) ε))
  | .tuple ds, e, h => by
    cases e with
    | Tuple es n p =>
      unfold litX at h
      rw [Bool.and_eq_true, decide_eq_true_eq] at h
      refine peImp (pe_tup (eLitXs (b := b) ds es h.1)) fun σ H Q ⟨ε, F, Xp, Qp, R, w, ex, kk⟩ => ?_
      refine ⟨ε, F, Xp, fun ds' ε' => ds' = ds ∧ ε' = ε, R, ⟨rfl, rfl⟩, ex, fun ds' ε' H' F' xs s f R' d q => ?_⟩
      obtain ⟨rfl, rfl⟩ := q
      refine ⟨by rw [line24, daLen d]; exact h.2, fun p hp => ?_⟩
      exact kk (.d (.tuple _)) _ _ (upd F' p (.tup xs)) _ (s.trans (.of (same_upd hp))) (f.trans (sub_updF (R'.fh.none hp))) (R'.tup _ hp) (Dp.tup (.inl (.inl upd_same)) (daSub (sub_updF (R'.fh.none hp)) d)) w
    | _ => unfold litX at h; exact absurd h Bool.false_ne_true
  | .none, e, h => by
    unfold litX at h
    exact peImp (pe_lit h) fun σ H Q ⟨ε, F, Xp, Qp, R, w, ex, kk⟩ => kk (.d .none) ε H F _ (.refl H) (.refl F) R (cV_dp h) w
  | .bool x, e, h => by
    unfold litX at h
    exact peImp (pe_lit h) fun σ H Q ⟨ε, F, Xp, Qp, R, w, ex, kk⟩ => kk (.d (.bool x)) ε H F _ (.refl H) (.refl F) R (cV_dp h) w
  | .int x, e, h => by
    unfold litX at h
    exact peImp (pe_lit h) fun σ H Q ⟨ε, F, Xp, Qp, R, w, ex, kk⟩ => kk (.d (.int x)) ε H F _ (.refl H) (.refl F) R (cV_dp h) w
  | .str x, e, h => by
    unfold litX at h
    exact peImp (pe_lit h) fun σ H Q ⟨ε, F, Xp, Qp, R, w, ex, kk⟩ => kk (.d (.str x)) ε H F _ (.refl H) (.refl F) R (cV_dp h) w
  | .list _, e, h => by unfold litX at h; exact absurd h Bool.false_ne_true
  | .dict _, e, h => by unfold litX at h; exact absurd h Bool.false_ne_true
theorem eLitXs {b : Bd} : ∀ (ds : List D) (es : List Expr), litXs ds es = true → PA X es (rdA X.K b (fun ε _ Q => Q (.many ds) ε))
  | [], es, h => by
    cases es with
    | nil => exact paImp pa_nil fun σ H Q ⟨ε, F, Xp, Qp, R, w, ex, kk⟩ => kk [] ε H F [] (.refl _) (.refl _) R .nil w
    | cons _ _ => unfold litXs at h; exact absurd h Bool.false_ne_true
  | d :: ds, es, h => by
    cases es with
    | nil => unfold litXs at h; exact absurd h Bool.false_ne_true
    | cons e es =>
      unfold litXs at h
      rw [Bool.and_eq_true, Bool.and_eq_true] at h
      obtain ⟨⟨h1, h2⟩, h3⟩ := h
      refine paImp (pa_cons (peD (eLitX (b := b) d e h2)) (eLitXs (b := b) ds es h3) (starOf h1)) fun σ H Q ⟨ε, F, Xp, Qp, R, w, ex, kk⟩ => ?_
      refine ⟨ε, F, Xp, fun d' ε' => d' = d ∧ ε' = ε, R, ⟨rfl, rfl⟩, ex, fun d' ε1 H1 F1 x s1 f1 R1 d1 q1 => ?_⟩
      obtain ⟨rfl, rfl⟩ := q1
      refine ⟨_, F1, Xp, fun ds' ε' => ds' = ds ∧ ε' = _, R1, ⟨rfl, rfl⟩, ex.mono s1, fun ds' ε2 H2 F2 xs s2 f2 R2 d2 q2 => ?_⟩
      obtain ⟨rfl, rfl⟩ := q2
      exact kk (_ :: _) _ H2 F2 (x :: xs) (s1.trans s2) (f1.trans f2) R2 (.cons (dpSub f2 d1) d2) w
end
/-- a display's readings -/
def dTrs (kvs : List (Str × D)) : List (TE × TE) := kvs.map fun p => (tC (.str p.1), tC (cV p.2))
def dKvs (kvs : List (Str × D)) : List (Key × V) := kvs.map fun p => (.inr p.1, cV p.2)
theorem pps_lit {pos : Pos} : ∀ {kvs : List (Str × D)} {ks : List (Option Expr)} {vs : List Expr}, dspB kvs ks vs = true → PPs X pos ks vs (dTrs kvs) ∧ ks.all (·.isSome) = true ∧ ks.length = kvs.length ∧ vs.length = kvs.length
  | [], [], [], _ => ⟨pps_nil, rfl, rfl, rfl⟩
  | [], [], _ :: _, h => absurd h Bool.false_ne_true
  | [], _ :: _, _, h => absurd h Bool.false_ne_true
  | (x, d) :: r, [], _, h => absurd h Bool.false_ne_true
  | (x, d) :: r, none :: _, _, h => absurd h Bool.false_ne_true
  | (x, d) :: r, some k :: ks, [], h => by cases k <;> first | exact absurd h Bool.false_ne_true | (rename_i c _ _; cases c <;> exact absurd h Bool.false_ne_true)
  | (x, d) :: r, some k :: ks, v :: vs, h => by
    cases k with
    | Constant c n p =>
      cases c with
      | str y =>
        have h' : (decide (x = y) && litE d v && dspB r ks vs) = true := h
        simp only [Bool.and_eq_true, decide_eq_true_eq] at h'
        obtain ⟨⟨rfl, h2⟩, h3⟩ := h'
        obtain ⟨q1, q2, q3, q4⟩ := pps_lit (pos := pos) h3
        exact ⟨pps_cons pe_str (pe_lit h2) q1, by rw [List.all_cons, q2]; rfl, by simp [q3], by simp [q4]⟩
      | _ => exact absurd h Bool.false_ne_true
    | _ => exact absurd h Bool.false_ne_true
theorem tPairs_lit {σ : St} : ∀ (kvs : List (Str × D)) (H : Hp) (Q : List (V × V) → Hp → Prop), Q ((dKvs kvs).map fun kv => (L2.kV kv.1, kv.2)) H → tPairs (dTrs kvs) σ H Q
  | [], _, _, q => q
  | (x, d) :: r, H, Q, q => tPairs_lit r H (fun ps H3 => Q ((.str x, cV d) :: ps) H3) q
theorem merge_get {s : Str} : ∀ (more : List (Str × D)) (acc : List (Key × V)), ndB (more.map (·.1)) = true → valV (mergeK acc (dKvs more)) (.inr s) = match dspGet s more with
    | some d => some (cV d)
    | none => valV acc (.inr s)
  | [], acc, _ => rfl
  | (x, d) :: r, acc, h => by
    have h' : (!((r.map (·.1)).any fun y => decide (y = x)) && ndB (r.map (·.1))) = true := h
    rw [Bool.and_eq_true] at h'
    show valV (mergeK (putK acc (.inr x) (cV d)) (dKvs r)) (.inr s) = _
    rw [merge_get r _ h'.2, valV_put]
    rw [show dspGet s ((x, d) :: r) = if x = s then some d else dspGet s r from rfl]
    by_cases e : x = s
    · subst e
      rw [if_pos rfl, if_pos rfl]
      have : dspGet x r = none := by
        have h1 := h'.1
        clear h h' 
        induction r with
        | nil => rfl
        | cons p t ih =>
          rw [List.map_cons, List.any_cons, Bool.not_eq_true', Bool.or_eq_false_iff] at h1
          rw [show dspGet x (p :: t) = if p.1 = x then some p.2 else dspGet x t from rfl, if_neg (of_decide_eq_false h1.1)]
          exact ih (by rw [h1.2]; rfl)
      rw [this]
    · rw [if_neg e, if_neg (fun z => e (Sum.inr.inj z).symm)]
theorem noSl {e : Expr} (h : plainE e = true) : NoSl e := by
  cases e <;> first | exact fun _ _ => rfl | exact absurd h Bool.false_ne_true
theorem dspGet_mem {s : Str} {d : D} : ∀ {kvs : List (Str × D)}, dspGet s kvs = some d → ∃ x, (x, d) ∈ kvs
  | [], h => by cases h
  | (x, c) :: r, h => by
    unfold dspGet at h
    split at h
    · cases h; exact ⟨x, List.mem_cons_self ..⟩
    · obtain ⟨y, hy⟩ := dspGet_mem h
      exact ⟨y, List.mem_cons_of_mem _ hy⟩
theorem dsp_lit : ∀ {kvs : List (Str × D)} {ks : List (Option Expr)} {vs : List Expr}, dspB kvs ks vs = true → ∀ p ∈ kvs, ∃ e, litE p.2 e = true
  | [], _, _, _, p, hp => by cases hp
  | (x, d) :: r, [], _, h, _, _ => absurd h Bool.false_ne_true
  | (x, d) :: r, none :: _, _, h, _, _ => absurd h Bool.false_ne_true
  | (x, d) :: r, some k :: ks, [], h, _, _ => by cases k <;> first | exact absurd h Bool.false_ne_true | (rename_i c _ _; cases c <;> exact absurd h Bool.false_ne_true)
  | (x, d) :: r, some k :: ks, v :: vs, h, p, hp => by
    cases k with
    | Constant c n q =>
      cases c with
      | str y =>
        have h' : (decide (x = y) && litE d v && dspB r ks vs) = true := h
        simp only [Bool.and_eq_true, decide_eq_true_eq] at h'
        rcases List.mem_cons.mp hp with rfl | hp
        · exact ⟨v, h'.1.2⟩
        · exact dsp_lit h'.2 p hp
      | _ => exact absurd h Bool.false_ne_true
    | _ => exact absurd h Bool.false_ne_true
theorem eDsp (ok : Cok fns cls N C Φ k X sc b.W) {kvs : List (Str × D)} {i : IE} {ks : List (Option Expr)} {vs : List Expr} {e : Expr} {p p2 : Pos} (h1 : dspB kvs ks vs = true) (h2 : ndB (kvs.map (·.1)) = true) (h3 : kvs.length ≤ 15) (h4 : kvs ≠ []) (h5 : plainE e = true)
    (he : PE X e (rdE X.K b (wE Φ i))) : PE X (.Subscript (.Dict ks vs p2) e p) (rdE X.K b (wE Φ (.dsp kvs i))) := by
  obtain ⟨q1, q2, q3, q4⟩ := pps_lit (X := X) (pos := p2) h1
  have n0 : ks ≠ [] := fun z => by
    rw [z] at q3
    exact h4 (List.length_eq_zero_iff.mp q3.symm)
  have hu : X.A.units + 1 < cLine := by have := ok.room.un; omega
  refine peImp (pe_dget hu (pe_disp q1 q2 (by rw [q3, q4]) n0 (by omega)) (peD he) (noSl h5)) fun σ H Q ⟨ε, F, Xp, Qp, R, w, ex, kk⟩ p hp => ?_
  refine tPairs_lit kvs _ _ ⟨upd_same, dKvs kvs, rfl, by unfold dKvs; rw [List.length_map]; exact h3, ?_⟩
  rw [upd_upd]
  have sm : SubZ b.H0 H (upd H p (.dK (mergeK [] (dKvs kvs)))) := .of (same_upd hp)
  have np := (R.no hp).2
  refine ⟨ε, F, Xp, _, R.lst _ hp, w, ex.mono sm, fun d ε1 H1 F1 y s1 f1 R1 d1 q => ?_⟩
  cases d with
  | str s =>
    obtain ⟨v, g1, g2⟩ := q
    cases dpStr d1
    obtain ⟨x, hx⟩ := dspGet_mem g1
    obtain ⟨e', he'⟩ := dsp_lit h1 _ hx
    refine ⟨p, cV v, rfl, .inl ⟨mergeK [] (dKvs kvs), .inr s, .inl (s1 _ _ np upd_same), rfl, ?_⟩, kk (.d v) ε1 H1 F1 _ (sm.trans s1) f1 R1 (cV_dp he') g2⟩
    rw [merge_get kvs [] h2, g1]
  | _ => exact q.elim
theorem rng_rev (n : Nat) : ((List.range n).map fun (i : Nat) => PyData.int i).reverse = (List.range n).map fun (i : Nat) => PyData.int ((0 + (((n : Nat) : Int)) - 1) + i * (-1)) := by
  rw [← List.map_reverse, revRange, List.map_map]
  refine List.map_congr_left fun i hi => ?_
  have := List.mem_range.mp hi
  show PyData.int ((n - 1 - i : Nat) : Int) = _
  congr 1
  omega
theorem iRvrGo (ok : Cok fns cls N C Φ k X sc b.W) {i : IE} {tg e : Expr} {x y : Str} {p pos p2 pos2 : Pos} (h : PE X e (rdE X.K b (wE Φ i))) (hx : x = "reversed") (hg : glB sc x = true) (hy : y = "range") (hgy : glB sc y = true) (he : plainE e = true) :
    PI X tg (.Call (.Name x p) [.Call (.Name y p2) [e] [] pos2] [] pos) (rdI X.K b (wE Φ (.rvr i))) := by
  subst hx hy
  refine piImp (pi_revR (glB_of ok hg) (ok.blt _ (by decide)) (prg_1 (glB_of ok hgy) (ok.blt _ (by decide)) (peD h) (starOf he)) rfl) fun σ H R ⟨ε, F, Xp, Qp, RR, w, ex, kk⟩ => ?_
  refine ⟨ε, F, Xp, _, RR, w, ex, fun d ε1 H1 F1 v s1 f1 R1 d1 q1 => ?_⟩
  cases d with
  | int n =>
    cases dpInt d1
    refine ⟨n, rfl, by decide, by decide, q1.1.2, q1.1.1, kk _ ε1 H1 F1 _ s1 f1 R1 ?_ q1.2⟩
    rw [rng_rev, show (n - 0).toNat = n.toNat by rw [Int.sub_zero]]
    exact itRng (K := X.K) (F1 := F1) (lo := 0 + ((n.toNat : Nat) : Int) - 1) (c := -1) (n := n.toNat)
  | _ => exact q1.elim
theorem eGc (ok : Cok fns cls N C Φ k X sc b.W) {f : Nat} {d : D} {x : Str} {p : Pos} (h : (gcB fns f x d && glB sc x && !(x == ("__debug__" : Str))) = true) : PE X (.Name x p) (rdE X.K b (wE Φ (.gc f d))) := by
  simp only [Bool.and_eq_true, Bool.not_eq_true'] at h
  obtain ⟨⟨h1, h2⟩, h3⟩ := h
  unfold gcB at h1
  split at h1
  · rename_i fi e
    rw [Bool.and_eq_true] at h1
    obtain ⟨e1, e2⟩ := h1
    have e1 := of_decide_eq_true e1
    subst e1
    cases ec : fi.con with
    | none => rw [ec] at e2; cases e2
    | some g =>
      rw [ec] at e2
      have := sameD_eq e2
      subst this
      obtain ⟨u, v, hm, r, dp⟩ := ok.gcon f fi d e ec
      exact peImp (pe_glob (glB_of ok h2) hm r h3) fun σ H Q ⟨ε, F, Xp, Qp, R, w, ex, kk⟩ => kk (.d d) ε H F v (.refl H) (.refl F) R (dp F) w
  · cases h1
/-! zip -/
theorem zips_len : ∀ ds es : List D, (zips ds es).length = min ds.length es.length
  | [], es => by
    cases es <;> simp [zips]
  | _ :: _, [] => by simp [zips]
  | d :: r, e :: t => by
    show (zips r t).length + 1 = _
    rw [zips_len r t]
    simp only [List.length_cons]
    omega
theorem zips_get : ∀ (ds es : List D) (i : Nat) {x y : D}, ds[i]? = some x → es[i]? = some y → (zips ds es)[i]? = some (.tuple [x, y])
  | [], _, _, _, _, h, _ => by simp at h
  | _ :: _, [], _, _, _, _, h => by simp at h
  | d :: r, e :: t, 0, x, y, h, g => by
    simp at h g
    subst h g
    rfl
  | d :: r, e :: t, i + 1, x, y, h, g => zips_get r t i (by simpa using h) (by simpa using g)
theorem newPair2 {K : PySem.W.Frag} {F H : Hp} {T : Addr} {y x : V} {w z : D} (s2 : Sub F H) (hT : H T = none) (g : Dp K F y w) (h : Dp K F x z) :
    Same H (upd H T (.tup [y, x])) ∧ ∃ F', Sub F F' ∧ Sub F' (upd H T (.tup [y, x])) ∧ New F F' H ∧ Dp K F' (.ref T) (.tuple [w, z]) := by
  have sb : Sub F (upd F T (.tup [y, x])) := sub_updF (s2.none hT)
  exact ⟨same_upd hT, upd F T _, sb, s2.upd2, .add hT, Dp.tup (.inl (.inl upd_same)) (.cons (dpSub sb g) (.cons (dpSub sb h) .nil))⟩
theorem itZip {K : PySem.W.Frag} {F1 : Hp} {a c : Addr} {vs ws : List V} {ds es : List D} (r : SqL K F1 a vs) (d : DpAll K F1 vs ds) (r2 : SqL K F1 c ws) (e : DpAll K F1 ws es) : ItOk K (Itz K a c) F1 (zips ds es) where
  go := fun i H hi s => by
    rw [zips_len, ← daLen d, ← daLen e] at hi
    have h1 : i < vs.length := by omega
    have h2 : i < ws.length := by omega
    exact ⟨vs, ws, vs[i], ws[i], sqlSub s r, sqlSub s r2, List.getElem?_eq_getElem h1, List.getElem?_eq_getElem h2⟩
  stop := fun H s => ⟨vs, ws, sqlSub s r, sqlSub s r2, by rw [zips_len, daLen d, daLen e]; omega⟩
  yld := fun i H x H' F hi s1 s2 y => by
    obtain ⟨T, u, v, rfl, hT, rfl, y1, y2⟩ := y
    obtain ⟨z, g1, g2⟩ := daGet d (y1 vs (sqlSub (s1.trans s2) r))
    obtain ⟨z2, g3, g4⟩ := daGet e (y2 ws (sqlSub (s1.trans s2) r2))
    obtain ⟨p1, F', p2, p3, p4, p5⟩ := newPair2 s2 hT (dpSub s1 g2) (dpSub s1 g4)
    exact ⟨p1, F', _, p2, p3, p4, zips_get _ _ _ g1 g3, p5⟩
theorem itZipT {K : PySem.W.Frag} {F1 : Hp} {a c : Addr} {vs ws : List V} {ds es : List D} (r : SqT K F1 a vs) (d : DpAll K F1 vs ds) (r2 : SqT K F1 c ws) (e : DpAll K F1 ws es) : ItOk K (RZ.ItzT K a c) F1 (zips ds es) where
  go := fun i H hi s => by
    rw [zips_len, ← daLen d, ← daLen e] at hi
    have h1 : i < vs.length := by omega
    have h2 : i < ws.length := by omega
    exact ⟨vs, ws, vs[i], ws[i], sqtSub s r, sqtSub s r2, List.getElem?_eq_getElem h1, List.getElem?_eq_getElem h2⟩
  stop := fun H s => ⟨vs, ws, sqtSub s r, sqtSub s r2, by rw [zips_len, daLen d, daLen e]; omega⟩
  yld := fun i H x H' F hi s1 s2 y => by
    obtain ⟨T, u, v, rfl, hT, rfl, y1, y2⟩ := y
    obtain ⟨z, g1, g2⟩ := daGet d (y1 vs (sqtSub (s1.trans s2) r))
    obtain ⟨z2, g3, g4⟩ := daGet e (y2 ws (sqtSub (s1.trans s2) r2))
    obtain ⟨p1, F', p2, p3, p4, p5⟩ := newPair2 s2 hT (dpSub s1 g2) (dpSub s1 g4)
    exact ⟨p1, F', _, p2, p3, p4, zips_get _ _ _ g1 g3, p5⟩
theorem itZipM {K : PySem.W.Frag} {F1 : Hp} {a c : Addr} {vs ws : List V} {ds es : List D} (r : SqL K F1 a vs) (d : DpAll K F1 vs ds) (r2 : SqT K F1 c ws) (e : DpAll K F1 ws es) : ItOk K (ItzM K a c) F1 (zips ds es) where
  go := fun i H hi s => by
    rw [zips_len, ← daLen d, ← daLen e] at hi
    have h1 : i < vs.length := by omega
    have h2 : i < ws.length := by omega
    exact ⟨vs, ws, vs[i], ws[i], sqlSub s r, sqtSub s r2, List.getElem?_eq_getElem h1, List.getElem?_eq_getElem h2⟩
  stop := fun H s => ⟨vs, ws, sqlSub s r, sqtSub s r2, by rw [zips_len, daLen d, daLen e]; omega⟩
  yld := fun i H x H' F hi s1 s2 y => by
    obtain ⟨T, u, v, rfl, hT, rfl, y1, y2⟩ := y
    obtain ⟨z, g1, g2⟩ := daGet d (y1 vs (sqlSub (s1.trans s2) r))
    obtain ⟨z2, g3, g4⟩ := daGet e (y2 ws (sqtSub (s1.trans s2) r2))
    obtain ⟨p1, F', p2, p3, p4, p5⟩ := newPair2 s2 hT (dpSub s1 g2) (dpSub s1 g4)
    exact ⟨p1, F', _, p2, p3, p4, zips_get _ _ _ g1 g3, p5⟩
theorem iZipGo (ok : Cok fns cls N C Φ k X sc b.W) {i j : IE} {tg e f : Expr} {x : Str} {p pos : Pos} (h : PE X e (rdE X.K b (wE Φ i))) (h2 : PE X f (rdE X.K b (wE Φ j))) (hx : x = "zip") (hg : glB sc x = true) (he : plainE e = true) (hf : plainE f = true) (ht : isTup tg = true) :
    PI X tg (.Call (.Name x p) [e, f] [] pos) (rdI X.K b (wE Φ (.zip i j))) := by
  subst hx
  cases tg with
  | Tuple es n q =>
    have z := starOf (es := [f]) (env := X.env) he
    have z2 := starOf (es := []) (env := X.env) hf
    refine piImp (pi_zm (glB_of ok hg) (ok.blt _ (by decide)) (pa_cons (peD h) (pa_cons (peD h2) pa_nil z2) z) z (by rw [z2]; rfl)) fun σ H R ⟨ε, F, Xp, Qp, RR, w, ex, kk⟩ => ?_
    refine ⟨ε, F, Xp, _, RR, w, ex, fun d ε1 H1 F1 v s1 f1 R1 d1 q1 => ⟨ε1, F1, Xp, _, R1, q1, ex.mono s1, fun e ε2 H2 F2 u s2 f2 R2 d2 q2 => ?_⟩⟩
    cases d with
    | list xs =>
      cases e with
      | list ys =>
        obtain ⟨a, vs, rfl, r1, a1⟩ := dpLst (dpSub f2 d1)
        obtain ⟨c, ws, rfl, r2, a2⟩ := dpLst d2
        exact ⟨a, c, vs, ws, rfl, .inl ⟨sqlSub R2.fh r1, sqlSub R2.fh r2, kk _ ε2 H2 F2 _ (s1.trans s2) (f1.trans f2) R2 (itZip r1 a1 r2 a2) q2⟩⟩
      | tuple ys =>
        obtain ⟨a, vs, rfl, r1, a1⟩ := dpLst (dpSub f2 d1)
        obtain ⟨c, ws, rfl, r2, a2⟩ := dpTup d2
        exact ⟨a, c, vs, ws, rfl, .inr (.inr ⟨sqlSub R2.fh r1, sqtSub R2.fh r2, kk _ ε2 H2 F2 _ (s1.trans s2) (f1.trans f2) R2 (itZipM r1 a1 r2 a2) q2⟩)⟩
      | _ => exact q2.elim
    | tuple xs =>
      cases e with
      | tuple ys =>
        obtain ⟨a, vs, rfl, r1, a1⟩ := dpTup (dpSub f2 d1)
        obtain ⟨c, ws, rfl, r2, a2⟩ := dpTup d2
        exact ⟨a, c, vs, ws, rfl, .inr (.inl ⟨sqtSub R2.fh r1, sqtSub R2.fh r2, kk _ ε2 H2 F2 _ (s1.trans s2) (f1.trans f2) R2 (itZipT r1 a1 r2 a2) q2⟩)⟩
      | _ => exact q2.elim
    | _ => cases e <;> exact q2.elim
  | _ => exact absurd ht Bool.false_ne_true
end
end Rc

/-! A list that is lent: looked at, its first thing taken, handed on. -/
namespace Rc
open PySem PySem.Spec PyProof.Rows L2
theorem lentGo {K : PySem.W.Frag} {H0 : Zn} {F0 F H : Hp} {σ : St} {ε : Ev} {j : Nat} {k : List D → Prop} (R : Rep K H0 F0 F H σ ε) (w : lentAt ε j k) :
    ∃ xs p vs, gv ε j = some (.lent xs) ∧ σ[j]? = some (some (.ref p)) ∧ H p = some (.lst vs) ∧ DpAll K F vs xs ∧ F p = none ∧ H0.l p ∧ k xs := by
  unfold lentAt at w
  split at w
  · rename_i xs h
    obtain ⟨p, vs, e, h1, h2, h3, h4⟩ := R.lnt j xs h
    exact ⟨xs, p, vs, h, e, h1, h2, h3, h4, w⟩
  · exact w.elim
theorem refEq {σ : St} {j : Nat} {p q : Addr} (h : σ[j]? = some (some (V.ref p))) (g : σ[j]? = some (some (V.ref q))) : p = q := by
  rw [h] at g
  simpa using g
theorem subzUpd {H0 : Zn} {H : Hp} {p : Addr} {o : HO} (h : H0.l p) : SubZ H0 H (upd H p o) := fun a u n q => by
  have ne : a ≠ p := fun e => n (by subst e; exact h)
  rw [upd_ne ne]
  exact q
section
variable {fns : List FnI} {cls : List Str} {N : List Str} {C : Nat → Addr} {Φ : Fs} {k : Nat} {X : Cx} {b : Bd} {sc : Scope}
theorem eLpop0 (ok : Cok fns cls N C Φ k X sc b.W) {j : Nat} {x : Str} {p p2 p3 p4 : Pos} {n : Nat} (h1 : (nmB N j x && visB sc x) = true) (hl : (p2.endLine == p3.line) = true) :
    PE X (.Call (.Attribute (.Name x p) "pop" p2) [.Constant (.int 0) n p4] [] p3) (rdE X.K b (wE Φ (.lpop0 j))) := by
  have hz : PE X (.Constant (.int 0) n p4) (rdE X.K b (wE Φ (.cst (.int 0)))) := eCst rfl
  refine peImp (pe_bm (apos := p2) (cpos := p3) PySem.F.plainAttrs_list PySem.F.slot_list_pop PySem.F.type_list_pop mt_popAt (peVar (p := p) ok h1) (pa_cons (peD hz) pa_nil (starOf rfl)) rfl (by rw [starOf rfl]; rfl) hl (starOf rfl) rfl) fun σ H Q ⟨ε, F, Xp, Qp, R, w, ex, kk⟩ => ?_
  obtain ⟨xs, r, vs, g1, g2, g3, g4, g5, g6, y, ys, rfl, w⟩ := lentGo R w
  refine ⟨.ref r, g2, .inl ⟨rfl, _, .inl (.inl g3)⟩, ε, F, Xp, fun d e => d = .int 0 ∧ e = ε, R, ⟨rfl, rfl⟩, ex, fun i ε1 H1 F1 z s1 f1 R1 a1 q1 => ?_⟩
  obtain ⟨rfl, rfl⟩ := q1
  obtain ⟨r', us, k2, k3, k4, k5, k6⟩ := R1.lnt j _ g1
  obtain rfl := refEq k2 g2
  cases k4 with
  | cons a c =>
    cases dpInt a1
    refine ⟨r', _, 0, 0, _, rfl, rfl, k3, by decide, by decide, by simp [seqIndex?], rfl, ?_⟩
    exact kk (.d y) _ _ F1 _ (s1.trans (subzUpd k6)) f1 (R1.lentTo g1 k2 (fun a o ne q => by rw [upd_ne ne]; exact q) (.refl F1) (R1.fh.upd k5) .refl upd_same c k5) a w
theorem eLix (ok : Cok fns cls N C Φ k X sc b.W) {j m : Nat} {x : Str} {p p2 p3 : Pos} {n : Nat} (h1 : (nmB N j x && visB sc x) = true) :
    PE X (.Subscript (.Name x p) (.Constant (.int (m : Int)) n p2) p3) (rdE X.K b (wE Φ (.lix j m))) := by
  have hz : PE X (.Constant (.int (m : Int)) n p2) (rdE X.K b (wE Φ (.cst (.int (m : Int))))) := eCst (by show ((m : Int) == (m : Int)) = true; exact beq_self_eq_true _)
  refine peImp (pe_ix (ix_list.or ix_tup) (peVar ok h1) (peD hz) (plainIx rfl)) fun σ H Q ⟨ε, F, Xp, Qp, R, w, ex, kk⟩ => ?_
  obtain ⟨xs, r, vs, g1, g2, g3, g4, g5, g6, y, e1, w⟩ := lentGo R w
  refine ⟨.ref r, g2, ε, F, Xp, fun d e => d = .int m ∧ e = ε, R, ⟨rfl, rfl⟩, ex, fun i ε1 H1 F1 z s1 f1 R1 a1 q1 => ?_⟩
  obtain ⟨rfl, rfl⟩ := q1
  obtain ⟨r', us, k2, k3, k4, k5, k6⟩ := R1.lnt j _ g1
  obtain rfl := refEq k2 g2
  have e2 : L2.atI xs (m : Int) = some y := by
    have hm := (List.getElem?_eq_some_iff.mp e1).1
    unfold L2.atI L2.ixN
    simp only [show ¬ ((m : Int) < 0) by omega, if_false, show (0 : Int) ≤ m by omega, show (m : Int) < xs.length by omega, and_self, if_true]
    simpa using e1
  obtain ⟨v, c1, c2⟩ := atI_da k4 e2
  exact .inl ⟨r', us, m, v, rfl, dpInt a1, .inl (.inl k3), c1, kk (.d y) _ H1 F1 v s1 f1 R1 c2 w⟩
theorem eqv_emp : ∀ xs : List D, PyData.eqv (.list xs) (.list []) = xs.isEmpty
  | [] => rfl
  | _ :: _ => rfl
theorem eLemp (ok : Cok fns cls N C Φ k X sc b.W) {j : Nat} {x : Str} {p p2 p3 : Pos} (h1 : (nmB N j x && visB sc x) = true) :
    PE X (.Compare (.Name x p) [.Eq] [.List [] p2] p3) (rdE X.K b (wE Φ (.lemp j))) ∧ PT X (.Compare (.Name x p) [.Eq] [.List [] p2] p3) (rdT X.K b (wE Φ (.lemp j))) := by
  have ha : PA X [] (rdA X.K b (wE Φ .nil)) := paImp pa_nil fun σ H Q ⟨ε, F, Xp, Qp, R, w, ex, kk⟩ => kk [] ε H F [] (.refl _) (.refl _) R .nil w
  have hz : PE X (.List [] p2) (rdE X.K b (wE Φ (.lst .nil))) := eLst ha
  have go : ∀ (σ : St) (H : Hp) (ε : Ev) (F : Hp) (Xp : XP) (Qp : Bool → Ev → Prop) (Q : Bool → Hp → Prop), Rep X.K b.H0 b.F0 F H σ ε → Ex X.K b Xp σ H → lentAt ε j (fun xs => SeqAt.shaped (.list xs) = true ∧ Qp xs.isEmpty ε) →
      (∀ c ε' H' F', SubZ b.H0 H H' → Sub F F' → Rep X.K b.H0 b.F0 F' H' σ ε' → Qp c ε' → Q c H') →
      tVar j σ H fun v H1 => rdD X.K b (wE Φ (.lst .nil)) σ H1 fun u H2 => rCmp X.K .Eq v u H2 fun z H3 => ∃ c, z = .bl c ∧ Q c H3 := fun σ H ε F Xp Qp Q R ex w kk => by
    obtain ⟨xs, r, vs, g1, g2, g3, g4, g5, g6, sh, w⟩ := lentGo R w
    refine ⟨.ref r, g2, ε, F, Xp, fun d e => d = .list [] ∧ e = ε, R, ⟨Nat.zero_le _, rfl, rfl⟩, ex, fun d ε2 H2 F2 y s2 f2 R2 d2 q2 => ?_⟩
    obtain ⟨rfl, rfl⟩ := q2
    obtain ⟨r', us, k2, k3, k4, k5, k6⟩ := R2.lnt j _ g1
    obtain rfl := refEq k2 g2
    refine ⟨.list xs, .list [], fun c => Qp c _, .lst (.inl (.inl k3)) (daSub R2.fh k4), dpSub R2.fh d2, ⟨sh, rfl, ?_⟩, fun c q => ⟨c, rfl, kk c _ H2 F2 s2 f2 R2 q⟩⟩
    rw [eqv_emp]
    exact w
  refine ⟨peImp (pe_cmpR (opCmp ok.room.units .Eq) (peVar ok h1) (peD hz) (nomark _ (by decide) (by decide))) fun σ H Q ⟨ε, F, Xp, Qp, R, w, ex, kk⟩ => ?_,
    ptImp (pt_cmpR (opCmp ok.room.units .Eq) (peVar ok h1) (peD hz) (nomark _ (by decide) (by decide))) fun σ H Q ⟨ε, F, Xp, Qp, R, w, ex, kk⟩ => ?_⟩
  · obtain ⟨v, e, w2⟩ := go σ H ε F Xp (fun c e => Qp (.d (.bool c)) e) (fun c H' => Q (.bl c) H') R ex w (fun c ε' H' F' s f R' q => kk (.d (.bool c)) ε' H' F' _ s f R' (Dp.bl c) q)
    refine ⟨v, e, ?_⟩
    obtain ⟨ε, F, Xp, Qp, R, w, ex, kk⟩ := w2
    refine ⟨ε, F, Xp, Qp, R, w, ex, fun d ε' H' F' x s f R' a q => ?_⟩
    obtain ⟨d1, d2, Qv, c1, c2, c3, c4⟩ := kk d ε' H' F' x s f R' a q
    refine ⟨d1, d2, Qv, c1, c2, c3, fun c q => ?_⟩
    obtain ⟨c', e, q'⟩ := c4 c q
    cases e
    exact q'
  · exact go σ H ε F Xp Qp Q R ex w kk
theorem offLent {σ : St} {ε : Ev} {p : Addr} {j : Nat} {L : List D} (h : Off σ ε p) : Off σ (pv ε j (some (.lent L))) p := fun i ys q z => by
  rw [gv_pv] at q
  split at q
  · split at q <;> cases q
  · exact h i ys q z
theorem eCallL (ok : Cok fns cls N C Φ k X sc b.W) (hC : b.C = C) {f j : Nat} {a : IE} (s : Sn fns cls N C Φ k a) {x y : Str} {es : List Expr} {p p2 pos : Pos}
    (h : (fnL fns f x && glB sc x && !(x == ("__debug__" : Str)) && nmB N j y && visB sc y && isL a && chk fns N a sc (dm :: dm :: es)) = true) : PE X (.Call (.Name x p) (.Name y p2 :: es) [] pos) (rdE X.K b (wE Φ (.callL f j a))) := by
  simp only [Bool.and_eq_true, Bool.not_eq_true'] at h
  obtain ⟨⟨⟨⟨⟨⟨hf, hg⟩, hdb⟩, hn⟩, hv⟩, hl⟩, hc⟩ := h
  have hp := chkPlain hl hc
  obtain ⟨fi, e, ec, rfl, lf⟩ := fnL_of hf
  obtain ⟨g, fd, hm, hk, hb, ho⟩ := ok.callee f fi e ec
  rw [specOf_yes lf] at ho
  refine peImp (pe_callS ho ok.room (glB_of ok hg) hm hk hb (fun σ => passAt ok.tk σ) (pa_cons (peVar (p := p2) ok (by rw [hn, hv]; rfl)) (s.a b X sc hC ok hl _ hc) (starOf rfl)) hdb (starOf rfl) (noStars hp)) fun σ H Q ⟨ε, F, Xp, Qp, R, w, ex, kk⟩ => ?_
  obtain ⟨xs0, r, vs0, g1, g2, g3, g4, g5, g6, w⟩ := lentGo R w
  refine ⟨.ref r, g2, ε, F, Xp, _, R, w, ex, fun ds ε1 H1 F1 us s1 f1 R1 d1 q1 => ?_⟩
  obtain ⟨xs, r', vs, k1, k2, k3, k4, k5, k6, q⟩ := lentGo R1 q1
  obtain rfl := refEq k2 g2
  have tz : ∀ {H' : Hp}, (∀ a o, a ≠ r' → H1 a = some o → H' a = some o) → SubZ b.H0 H1 H' := fun t a o n q => t a o (fun e => n (by subst e; exact k6)) q
  refine ⟨F1, r', vs, xs, us, ds, _, _, rfl, R1.fh, k5, k3, k4, d1, ok.ar f fi _ _ _ e q, q, (fun v h => by cases v <;> first | rfl | exact h.elim), fun c H' t hp xq => ?_, fun v H' F' x ws' ys t f fh n hp d fp dv qv => ?_, fun zs H' F' r us' ws' ys t f fh n hp d fp hr dr fr hn qv => ?_⟩
  · rw [← hC]
    exact ex c _ H' F1 (s1.trans (tz t)) (R1.lentGone k1 k2 t hp) xq
  · exact kk (.d v) _ H' F' x (s1.trans (tz t)) (f1.trans f) (R1.lentTo k1 k2 t f fh n hp d fp) dv qv
  · exact kk (.own zs) _ H' F' (.ref r) (s1.trans (tz t)) (f1.trans f) (R1.lentTo k1 k2 t f fh n hp d fp) ⟨r, us', rfl, hr, dr, fr, R1.no hn, offLent (R1.offNew hn)⟩ qv
theorem eCallLP (ok : Cok fns cls N C Φ k X sc b.W) (hC : b.C = C) {f j : Nat} {a : IE} (s : Sn fns cls N C Φ k a) {x y : Str} {es : List Expr} {p p2 pos : Pos}
    (h : (fnL fns f x && glB sc x && !(x == ("__debug__" : Str)) && nmB N j y && visB sc y && isLP a && chk fns N a sc (dm :: dm :: es)) = true) : PE X (.Call (.Name x p) (.Name y p2 :: es) [] pos) (rdE X.K b (wE Φ (.callLP f j a))) := by
  simp only [Bool.and_eq_true, Bool.not_eq_true'] at h
  obtain ⟨⟨⟨⟨⟨⟨hf, hg⟩, hdb⟩, hn⟩, hv⟩, hl⟩, hc⟩ := h
  have hp := chkPlainP hl hc
  obtain ⟨fi, e, ec, rfl, lf⟩ := fnL_of hf
  obtain ⟨g, fd, hm, hk, hb, ho⟩ := ok.callee f fi e ec
  rw [specOf_yes lf] at ho
  refine peImp (pe_callS ho ok.room (glB_of ok hg) hm hk hb (fun σ => passAt ok.tk σ) (pa_cons (peVar (p := p2) ok (by rw [hn, hv]; rfl)) (s.ap b X sc hC ok hl _ hc) (starOf rfl)) hdb (starOf rfl) (noStars hp)) fun σ H Q ⟨ε, F, Xp, Qp, R, w, ex, kk⟩ => ?_
  obtain ⟨xs0, r, vs0, g1, g2, g3, g4, g5, g6, w⟩ := lentGo R w
  refine ⟨.ref r, g2, ε, F, Xp, _, R, w, ex, fun ds ε1 H1 F1 G1 us s1 f1 R1 l1 d1 q1 => ?_⟩
  obtain ⟨xs, r', vs, k1, k2, k3, k4, k5, k6, q⟩ := lentGo R1 q1
  obtain rfl := refEq k2 g2
  have gp : G1 r' = none := by
    cases z : G1 r' with
    | none => rfl
    | some o =>
      rcases l1.2.2 _ _ z with z | ⟨_, z⟩
      · rw [k5] at z; cases z
      · exact absurd k6 z
  have tz : ∀ {H' : Hp}, (∀ a o, a ≠ r' → H1 a = some o → H' a = some o) → SubZ b.H0 H1 H' := fun t a o n q => t a o (fun e => n (by subst e; exact k6)) q
  have np : ∀ {F' F3 : Hp}, Sub F3 F' → F' r' = none → F3 r' = none := fun {F' F3} s z => by
    cases q : F3 r' with
    | none => rfl
    | some o => rw [s _ _ q] at z; cases z
  -- what the lent list has stands still in the frame's own sight
  have lk : ∀ {F' F3 H' : Hp} {ws' : List V} {ys : List D}, True := trivial
  refine ⟨G1, r', vs, xs, us, ds, _, _, rfl, l1.2.1, gp, k3, daSub l1.1 k4, d1, ok.ar f fi _ _ _ e q, q, (fun v h => by cases v <;> first | rfl | exact h.elim), fun c H' t hp xq => ?_, fun v H' F' x ws' ys t f fh n hp d fp dv qv => ?_, fun zs H' F' r us' ws' ys t f fh n hp d fp hr dr fr hn qv => ?_⟩
  · rw [← hC]
    exact ex c _ H' F1 (s1.trans (tz t)) (R1.lentGone k1 k2 t hp) xq
  · obtain ⟨F3, a1, a2, a3, a4, a5, a6⟩ := unlook (K := X.K) (H' := H') l1 f n
    exact kk (.d v) _ H' F3 x (s1.trans (tz t)) (f1.trans a1) (R1.lentTo k1 k2 t a1 (a2.trans fh) a3 hp (a6 _ _ qv.2.1 d) (np a2 fp)) (a5 _ _ qv.1 dv) qv.2.2
  · obtain ⟨F3, a1, a2, a3, a4, a5, a6⟩ := unlook (K := X.K) (H' := H') l1 f n
    have fr3 : F3 r = none := by
      cases q : F3 r with
      | none => rfl
      | some o => rw [a2 _ _ q] at fr; cases fr
    exact kk (.own zs) _ H' F3 (.ref r) (s1.trans (tz t)) (f1.trans a1) (R1.lentTo k1 k2 t a1 (a2.trans fh) a3 hp (a6 _ _ qv.2.1 d) (np a2 fp)) ⟨r, us', rfl, hr, a6 _ _ qv.1 dr, fr3, R1.no hn, offLent (R1.offNew hn)⟩ qv.2.2
/-- where such a comprehension's turn begins -/
theorem Rep.turnL {K : PySem.W.Frag} {H0 : Zn} {F0 F1 F2 H H' : Hp} {σ : St} {ε : Ev} {js : List Nat} {j : Nat} {p : Addr} {L : List D} {ws : List V} (R : Rep K H0 F0 F1 H σ ε) (s : Sub F1 F2) (g : Sub F2 H') (hj : j ∉ js) (e : σ[j]? = some (some (.ref p)))
    (hp : H' p = some (.lst ws)) (d : DpAll K F2 ws L) (fp : F2 p = none) : Rep K ⟨H', fun a => a = p⟩ F2 F2 H' (wipe σ js) (pv (wipeE (blind ε) js) j (some (.lent L))) := by
  have R0 := R.turn s g (js := js)
  have ej : (wipe σ js)[j]? = some (some (.ref p)) := by rw [wipe_get, if_neg hj]; exact e
  have no : ∀ {i : Nat} {v : Val}, gv (pv (wipeE (blind ε) js) j (some (.lent L))) i = some v → (i = j ∧ v = .lent L) ∨ ∃ x, v = .d x ∧ gv (wipeE (blind ε) js) i = some (.d x) := fun {i v} h => by
    rw [gv_pv] at h
    split at h
    · rename_i hi
      split at h
      · cases h; exact .inl ⟨hi, rfl⟩
      · cases h
    · obtain ⟨g1, g2⟩ := wipeE_gv h
      obtain ⟨y, e, g3⟩ := blind_d g1
      cases e
      exact .inr ⟨y, rfl, h⟩
  refine ⟨g, .refl _, .refl _, fun a o h => .inl h, by rw [pv_len]; exact R0.len, fun i x h => ?_, fun i ys h => ?_, fun i k xs ys r h => ?_, fun i ys h => ?_, fun i k xs ys r h h' => ?_, fun a h => ?_, ?_⟩
  · rcases no h with ⟨_, z⟩ | ⟨y, z, h2⟩
    · cases z
    · cases z; exact R0.dat i x h2
  · rcases no h with ⟨_, z⟩ | ⟨y, z, h2⟩ <;> cases z
  · rcases no h with ⟨_, z⟩ | ⟨y, z, h2⟩ <;> cases z
  · rcases no h with ⟨hi, z⟩ | ⟨y, z, h2⟩
    · cases z
      subst hi
      exact ⟨p, ws, ej, hp, d, fp, rfl⟩
    · cases z
  · rcases no h with ⟨hi, z⟩ | ⟨y, z, h2⟩
    · rcases no h' with ⟨hk, z'⟩ | ⟨y, z', h2⟩
      · exact fun _ _ => by rw [hi, hk]
      · cases z'
    · cases z
  · cases h
    exact ⟨⟨_, hp⟩, fp⟩
  · exact .nil fun i v h => by
      rcases no h with ⟨_, e⟩ | ⟨x, e, _⟩ <;> (subst e; rfl)
theorem lclGo {K : PySem.W.Frag} {t : Tg} {itE eE : IE} {j : Nat} {σ : St} {H : Hp} {Q : VK} (h : rdE K b (wE Φ (.lcL t itE eE j)) σ H Q) (hj : j ∉ tgs t) :
    tLc (rdI K b (wE Φ itE)) (gTg K t) (fun σ H q => q true H)
      (fun σ H q => ∃ H0 F0, rdD K ⟨b.C, fun _ _ _ _ => False, H0, F0⟩ (wE Φ eE) σ H q) (tgs t) σ H Q := by
  obtain ⟨ε, F, Xp, Qp, R, w, ex, kk⟩ := h
  refine ⟨ε, F, Xp, _, R, w, ex, fun ds ε1 H1 F1 J s1 f1 R1 J1 q1 D hD => ?_⟩
  obtain ⟨L0, p, vs0, g1, g2, g3, g4, g5, g6, q1⟩ := lentGo R1 q1
  have pD : p ≠ D := fun z => by subst z; rw [g3] at hD; cases hD
  refine ⟨fun i m H' => m = ds.length - i ∧ i ≤ ds.length ∧ ∃ F' acc vs L ws, Sub F1 F' ∧ (∀ a o, a ≠ p → H1 a = some o → H' a = some o) ∧ Sub F' H' ∧ New F1 F' H1 ∧ H' D = some (.lst vs) ∧ DpAll K F' vs acc ∧ F' D = none ∧ H' p = some (.lst ws) ∧ DpAll K F' ws L ∧ F' p = none ∧
    lclW t ε1 j (fun ε2 k => wE Φ eE ε2 (fun _ _ => False) (kD k)) (ds.drop i) acc L fun ys L' => Qp (.own ys) (pv ε1 j (some (.lent L'))),
    ⟨ds.length, by simp, Nat.zero_le _, F1, [], [], L0, vs0, .refl _, fun a o _ q => same_upd hD a o q, R1.fh.upd (R1.fh.none hD), .refl, upd_same, .nil, R1.fh.none hD, by rw [upd_ne pD]; exact g3, g4, g5, q1⟩, ?_⟩
  rintro i m H' ⟨rfl, hi, F', acc, vs, L, ws, a1, a2, a3, a4, a5, a6, a7, c1, c2, c3, wl⟩
  by_cases hlt : i < ds.length
  · refine .inr ⟨J1.go i H' hlt (a1.trans a3), fun H'' => ∃ F'' acc vs L ws, Sub F1 F'' ∧ (∀ a o, a ≠ p → H1 a = some o → H'' a = some o) ∧ Sub F'' H'' ∧ New F1 F'' H1 ∧ H'' D = some (.lst vs) ∧ DpAll K F'' vs acc ∧ F'' D = none ∧ H'' p = some (.lst ws) ∧ DpAll K F'' ws L ∧ F'' p = none ∧
      lclW t ε1 j (fun ε2 k => wE Φ eE ε2 (fun _ _ => False) (kD k)) (ds.drop (i + 1)) acc L fun ys L' => Qp (.own ys) (pv ε1 j (some (.lent L'))),
      fun H'' q => ⟨ds.length - (i + 1), by omega, rfl, hlt, q⟩, fun x H2 y => ?_⟩
    obtain ⟨b1, F2, d, b2, b3, b4, b5, b6⟩ := J1.yld i H' x H2 F' hlt a1 a3 y
    have ed : ds.drop i = d :: ds.drop (i + 1) := by
      rw [List.drop_eq_getElem_cons hlt]
      have : ds[i] = d := by
        rw [List.getElem?_eq_getElem hlt] at b5
        exact Option.some.inj b5
      rw [this]
    rw [ed] at wl
    have e0 : H2 D = some (.lst vs) := b1 _ _ a5
    have e1 : H2 p = some (.lst ws) := b1 _ _ c1
    have n2 : ∀ {r : Addr} {o : HO}, H' r = some o → F' r = none → F2 r = none := fun {r o} q f => by
      cases z : F2 r with
      | none => rfl
      | some u =>
        rcases b4 r u z with g | g
        · rw [f] at g; cases g
        · rw [q] at g; cases g
    have R2 := R1.turnL (js := tgs t) (j := j) (a1.trans b2) b3 hj g2 e1 (daSub b2 c2) (n2 c1 c3)
    refine tgGo R2 b6 wl fun σ2 ε2 R3 ew w2 => ⟨by rw [ew, wipe_wipe], ?_⟩
    show (if true = true then _ else _)
    rw [if_pos rfl]
    refine ⟨⟨H2, fun a => a = p⟩, F2, ε2, F2, fun _ _ => False, _, R3, w2, (fun _ _ _ _ _ _ z => z.elim), fun z ε4 H4 F4 v s4' f4 R5 d5 q5 => ?_⟩
    have s4 : ∀ a o, a ≠ p → H2 a = some o → H4 a = some o := fun a o ne q => s4' a o ne q
    obtain ⟨L', p', us, k1, k2, k3, k4, k5, k6, q5⟩ := lentGo R5 q5
    have k6 : p' = p := k6
    subst k6
    have nF : ∀ {r : Addr} {o : HO}, H2 r = some o → F2 r = none → F4 r = none := fun {r o} q f => by
      cases z : F4 r with
      | none => rfl
      | some u =>
        rcases R5.fr r u z with g | g
        · have g : F2 r = some u := g
          rw [f] at g; cases g
        · have g : H2 r = none := g
          rw [q] at g; cases g
    have n1 : F4 D = none := nF e0 (n2 a5 a7)
    have c4 : H4 D = some (.lst vs) := s4 _ _ (Ne.symm pD) e0
    have da : DpAll K F4 vs acc := daSub (b2.trans f4) a6
    refine ⟨vs, c4, by rw [line24, daLen da]; exact q5.1, F4, acc ++ [z], vs ++ [v], L', us, (a1.trans b2).trans f4, fun a o ne h => ?_, R5.fh.upd n1, fun a o h => ?_, upd_same, daApp da (.cons d5 .nil), n1, by rw [upd_ne pD]; exact k3, k4, k5, q5.2⟩
    · rw [upd_ne (ne_of_none h hD)]
      exact s4 _ _ ne (b1 _ _ (a2 _ _ ne h))
    · have nn : ∀ {G : Hp}, G a = none → (∀ u, a ≠ p' → H1 a = some u → G a = some u) → H1 a = none := fun {G} g hh => by
        cases z : H1 a with
        | none => rfl
        | some u =>
          by_cases ne : a = p'
          · subst ne
            have := k5
            rw [h] at this; cases this
          · have := hh u ne z
            rw [g] at this; cases this
      rcases R5.fr a o h with q | q
      · rcases b4 a o q with q | q
        · exact a4 a o q
        · exact .inr (nn q fun u ne z => a2 _ _ ne z)
      · have q : H2 a = none := q
        exact .inr (nn q fun u ne z => b1 _ _ (a2 _ _ ne z))
  · have e : i = ds.length := by omega
    subst e
    refine .inl ⟨J1.stop H' (a1.trans a3), ?_⟩
    rw [List.drop_length] at wl
    refine kk (.own acc) _ H' F' (.ref D) (s1.trans fun a o n q => a2 a o (fun z => n (by subst z; exact g6)) q) (f1.trans a1) (R1.lentTo g1 g2 a2 a1 a3 a4 c1 c2 c3) ⟨D, vs, rfl, a5, a6, a7, R1.no hD, fun i ys q z => ?_⟩ wl
    rw [gv_pv] at q
    split at q
    · split at q <;> cases q
    · exact R1.offNew hD i ys q z
/-- a heap but for one address -/
def hole (H : Hp) (p : Addr) : Hp := fun a => if a = p then none else H a
/-- where the turn of a comprehension begins that looks at a name's own list -/
theorem Rep.turnK {K : PySem.W.Frag} {H0 : Zn} {F0 F1 F2 H H' : Hp} {σ : St} {ε : Ev} {js : List Nat} {j : Nat} {p : Addr} {L : List D} {ws : List V} (R : Rep K H0 F0 F1 H σ ε) (s : Sub F1 F2) (g : Sub F2 H') (hj : j ∉ js) (e : σ[j]? = some (some (.ref p)))
    (hp : H' p = some (.lst ws)) (d : DpAll K F2 ws L) (fp : F2 p = none) : Rep K (Zn.of (hole H' p)) F2 F2 H' (wipe σ js) (pv (wipeE (blind ε) js) j (some (.own L))) := by
  have R0 := R.turn s g (js := js)
  have ej : (wipe σ js)[j]? = some (some (.ref p)) := by rw [wipe_get, if_neg hj]; exact e
  have no : ∀ {i : Nat} {v : Val}, gv (pv (wipeE (blind ε) js) j (some (.own L))) i = some v → (i = j ∧ v = .own L) ∨ ∃ x, v = .d x ∧ gv (wipeE (blind ε) js) i = some (.d x) := fun {i v} h => by
    rw [gv_pv] at h
    split at h
    · rename_i hi
      split at h
      · cases h; exact .inl ⟨hi, rfl⟩
      · cases h
    · obtain ⟨g1, g2⟩ := wipeE_gv h
      obtain ⟨y, e, g3⟩ := blind_d g1
      cases e
      exact .inr ⟨y, rfl, h⟩
  refine ⟨g, .refl _, fun a o _ q => ?_, fun a o h => .inl h, by rw [pv_len]; exact R0.len, fun i x h => ?_, fun i ys h => ?_, fun i k xs ys r h h' => ?_, fun i ys h => ?_, fun i k xs ys r h => ?_, fun a h => h.elim, .nil fun i v h => by
      rcases no h with ⟨_, e⟩ | ⟨x, e, _⟩ <;> (subst e; rfl)⟩
  · have q : hole H' p a = some o := q
    unfold hole at q
    split at q
    · cases q
    · exact q
  · rcases no h with ⟨_, z⟩ | ⟨y, z, h2⟩
    · cases z
    · cases z; exact R0.dat i x h2
  · rcases no h with ⟨hi, z⟩ | ⟨y, z, h2⟩
    · cases z
      subst hi
      exact ⟨p, ws, ej, hp, d, fp, by show hole H' p p = none; unfold hole; rw [if_pos rfl], fun z => z⟩
    · cases z
  · rcases no h with ⟨hi, z⟩ | ⟨y, z, h2⟩
    · rcases no h' with ⟨hk, z'⟩ | ⟨y, z', h2⟩
      · exact fun _ _ => by rw [hi, hk]
      · cases z'
    · cases z
  · rcases no h with ⟨_, z⟩ | ⟨y, z, h2⟩ <;> cases z
  · rcases no h with ⟨_, z⟩ | ⟨y, z, h2⟩ <;> cases z
theorem ownGoK {K : PySem.W.Frag} {H0 : Zn} {F0 F H : Hp} {σ : St} {ε : Ev} {j : Nat} {k : List D → Prop} (R : Rep K H0 F0 F H σ ε) (w : ownAt ε j k) :
    ∃ xs p vs, gv ε j = some (.own xs) ∧ σ[j]? = some (some (.ref p)) ∧ H p = some (.lst vs) ∧ DpAll K F vs xs ∧ F p = none ∧ H0.no p ∧ k xs := by
  unfold ownAt at w
  split at w
  · rename_i xs h
    obtain ⟨p, vs, e, h1, h2, h3, h4⟩ := R.own j xs h
    exact ⟨xs, p, vs, h, e, h1, h2, h3, h4, w⟩
  · exact w.elim
theorem lckGo {K : PySem.W.Frag} {t : Tg} {itE eE : IE} {j : Nat} {σ : St} {H : Hp} {Q : VK} (h : rdE K b (wE Φ (.lcK t itE eE j)) σ H Q) (hj : j ∉ tgs t) :
    tLc (rdI K b (wE Φ itE)) (gTg K t) (fun σ H q => q true H)
      (fun σ H q => ∃ H0 F0, rdD K ⟨b.C, fun _ _ _ _ => False, H0, F0⟩ (wE Φ eE) σ H q) (tgs t) σ H Q := by
  obtain ⟨ε, F, Xp, Qp, R, w, ex, kk⟩ := h
  refine ⟨ε, F, Xp, _, R, w, ex, fun ds ε1 H1 F1 J s1 f1 R1 J1 q1 D hD => ?_⟩
  obtain ⟨L, p, ws, g1, g2, g3, g4, g5, g6, q1⟩ := ownGoK R1 q1
  have pD : p ≠ D := fun z => by subst z; rw [g3] at hD; cases hD
  refine ⟨fun i m H' => m = ds.length - i ∧ i ≤ ds.length ∧ ∃ F' acc vs, Sub F1 F' ∧ Same H1 H' ∧ Sub F' H' ∧ New F1 F' H1 ∧ H' D = some (.lst vs) ∧ DpAll K F' vs acc ∧ F' D = none ∧
    lckW t ε1 j L (fun ε2 k => wE Φ eE ε2 (fun _ _ => False) (kD k)) (ds.drop i) acc fun ys => Qp (.own ys) ε1,
    ⟨ds.length, by simp, Nat.zero_le _, F1, [], [], .refl _, same_upd hD, R1.fh.upd (R1.fh.none hD), .refl, upd_same, .nil, R1.fh.none hD, q1⟩, ?_⟩
  rintro i m H' ⟨rfl, hi, F', acc, vs, a1, a2, a3, a4, a5, a6, a7, wl⟩
  by_cases hlt : i < ds.length
  · refine .inr ⟨J1.go i H' hlt (a1.trans a3), fun H'' => ∃ F'' acc vs, Sub F1 F'' ∧ Same H1 H'' ∧ Sub F'' H'' ∧ New F1 F'' H1 ∧ H'' D = some (.lst vs) ∧ DpAll K F'' vs acc ∧ F'' D = none ∧
      lckW t ε1 j L (fun ε2 k => wE Φ eE ε2 (fun _ _ => False) (kD k)) (ds.drop (i + 1)) acc fun ys => Qp (.own ys) ε1,
      fun H'' q => ⟨ds.length - (i + 1), by omega, rfl, hlt, q⟩, fun x H2 y => ?_⟩
    obtain ⟨b1, F2, d, b2, b3, b4, b5, b6⟩ := J1.yld i H' x H2 F' hlt a1 a3 y
    have ed : ds.drop i = d :: ds.drop (i + 1) := by
      rw [List.drop_eq_getElem_cons hlt]
      have : ds[i] = d := by
        rw [List.getElem?_eq_getElem hlt] at b5
        exact Option.some.inj b5
      rw [this]
    rw [ed] at wl
    have c0 : H2 D = some (.lst vs) := b1 _ _ a5
    have c1 : H2 p = some (.lst ws) := b1 _ _ (a2 _ _ g3)
    have np : F2 p = none := by
      cases z : F2 p with
      | none => rfl
      | some u =>
        rcases b4 p u z with q | q
        · rcases a4 p u q with q | q
          · rw [g5] at q; cases q
          · rw [g3] at q; cases q
        · rw [a2 _ _ g3] at q; cases q
    have R2 := R1.turnK (js := tgs t) (j := j) (a1.trans b2) b3 hj g2 c1 (daSub (a1.trans b2) g4) np
    refine tgGo R2 b6 wl fun σ2 ε2 R3 ew w2 => ⟨by rw [ew, wipe_wipe], ?_⟩
    show (if true = true then _ else _)
    rw [if_pos rfl]
    refine ⟨Zn.of (hole H2 p), F2, ε2, F2, fun _ _ => False, _, R3, w2, (fun _ _ _ _ _ _ z => z.elim), fun z ε4 H4 F4 v s4' f4 R5 d5 q5 => ?_⟩
    have s4 : Same H2 H4 := fun a o q => s4' a o (fun z => z) q
    obtain ⟨L', p', us, k1, k2, k3, k4, k5, k6, q5⟩ := ownGoK R5 q5
    have ep : p' = p := by
      have e1 : (wipe σ2 (tgs t))[j]? = σ2[j]? := by rw [wipe_get, if_neg hj]
      have e2 : (wipe (wipe σ (tgs t)) (tgs t))[j]? = σ[j]? := by rw [wipe_get, if_neg hj, wipe_get, if_neg hj]
      rw [ew, e2, g2] at e1
      rw [k2] at e1
      simpa using e1.symm
    subst ep
    have fr5 : ∀ {a : Addr} {o : HO}, F4 a = some o → F2 a = some o ∨ H2 a = none := fun {a o} h => by
      rcases R5.fr a o h with q | q
      · exact .inl q
      · have q : hole H2 p' a = none := q
        unfold hole at q
        split at q
        · rename_i e
          rw [e, k5] at h; cases h
        · exact .inr q
    have n2 : F2 D = none := by
      cases z : F2 D with
      | none => rfl
      | some u =>
        rcases b4 D u z with q | q
        · rw [a7] at q; cases q
        · rw [a5] at q; cases q
    have n1 : F4 D = none := by
      cases z : F4 D with
      | none => rfl
      | some u =>
        rcases fr5 z with q | q
        · rw [n2] at q; cases q
        · rw [c0] at q; cases q
    have n3 : New F1 F4 H1 := fun a o h => by
      rcases fr5 h with q | q
      · rcases b4 a o q with q | q
        · exact a4 a o q
        · exact .inr (Same.free a2 q)
      · exact .inr (Same.free (a2.trans b1) q)
    have c4 : H4 D = some (.lst vs) := s4 _ _ c0
    have da : DpAll K F4 vs acc := daSub (b2.trans f4) a6
    refine ⟨vs, c4, by rw [line24, daLen da]; exact q5.1, F4, acc ++ [z], vs ++ [v], (a1.trans b2).trans f4, fun a o h => ?_, R5.fh.upd n1, n3, upd_same, daApp da (.cons d5 .nil), n1, q5.2⟩
    rw [upd_ne (ne_of_none h hD)]
    exact s4 _ _ (b1 _ _ (a2 _ _ h))
  · have e : i = ds.length := by omega
    subst e
    refine .inl ⟨J1.stop H' (a1.trans a3), ?_⟩
    rw [List.drop_length] at wl
    exact kk (.own acc) ε1 H' F' (.ref D) (s1.trans (.of a2)) (f1.trans a1) (R1.grow a2 a1 a3 a4) ⟨D, vs, rfl, a5, a6, a7, R1.no hD, R1.offNew hD⟩ wl
/-! ### a def that borrows, lent a list told anew; list(reversed(xs)); len(set(ints)); {} -/
theorem litPlain : ∀ {ds : List D} {es : List Expr}, litEs ds es = true → es.all plainE = true
  | [], [], _ => rfl
  | [], _ :: _, h => absurd h Bool.false_ne_true
  | _ :: _, [], h => absurd h Bool.false_ne_true
  | d :: ds, e :: es, h => by
    have h' : (plainE e && litE d e && litEs ds es) = true := h
    simp only [Bool.and_eq_true] at h'
    rw [List.all_cons, h'.1.1, litPlain h'.2]; rfl
theorem paLit : ∀ {ds : List D} {es : List Expr}, litEs ds es = true → PA X es (fun _ H Q => Q (ds.map cV) H)
  | [], [], _ => pa_nil
  | [], _ :: _, h => absurd h Bool.false_ne_true
  | _ :: _, [], h => absurd h Bool.false_ne_true
  | d :: ds, e :: es, h => by
    have h' : (plainE e && litE d e && litEs ds es) = true := h
    simp only [Bool.and_eq_true] at h'
    exact pa_cons (pe_lit h'.1.2) (paLit h'.2) (starOf h'.1.1)
theorem litDa {K : PySem.W.Frag} {F : Hp} : ∀ {ds : List D} {es : List Expr}, litEs ds es = true → DpAll K F (ds.map cV) ds
  | [], [], _ => .nil
  | [], _ :: _, h => absurd h Bool.false_ne_true
  | _ :: _, [], h => absurd h Bool.false_ne_true
  | d :: ds, e :: es, h => by
    have h' : (plainE e && litE d e && litEs ds es) = true := h
    simp only [Bool.and_eq_true] at h'
    exact .cons (cV_dp h'.1.2) (litDa h'.2)
/-- all but one list, nobody's name, stays; more things stand -/
theorem Rep.growOff {K : PySem.W.Frag} {H0 : Zn} {F0 F H F' H' : Hp} {σ : St} {ε : Ev} (R : Rep K H0 F0 F H σ ε) {p : Addr} {vs : List V} (hp : H p = some (.lst vs)) (fp : F p = none) (np : H0.no p) (off : Off σ ε p)
    (t : ∀ a o, a ≠ p → H a = some o → H' a = some o) (s : Sub F F') (fh : Sub F' H') (n : New F F' H) : Rep K H0 F0 F' H' σ ε where
  fh := fh
  ff := R.ff.trans s
  h0 := fun a o z q => t a o (fun e => by subst e; rw [np.1] at q; cases q) (R.h0 a o z q)
  fr := fun a o h => by
    rcases n a o h with q | q
    · exact R.fr a o q
    · exact .inr (R.no q).1
  len := R.len
  dat := fun j x h => let ⟨v, e, d⟩ := R.dat j x h; ⟨v, e, dpSub s d⟩
  own := fun j xs h => by
    obtain ⟨r, ws, e, h1, h2, h3, h4⟩ := R.own j xs h
    have ne : r ≠ p := fun z => by subst z; exact off j xs h e
    refine ⟨r, ws, e, t _ _ ne h1, daSub s h2, ?_, h4⟩
    cases z : F' r with
    | none => rfl
    | some u =>
      rcases n r u z with q | q
      · rw [h3] at q; cases q
      · rw [h1] at q; cases q
  uni := R.uni
  lnt := fun j xs h => by
    obtain ⟨r, ws, e, h1, h2, h3, h4⟩ := R.lnt j xs h
    have ne : r ≠ p := fun z => by subst z; exact np.2 h4
    refine ⟨r, ws, e, t _ _ ne h1, daSub s h2, ?_, h4⟩
    cases z : F' r with
    | none => rfl
    | some u =>
      rcases n r u z with q | q
      · rw [h3] at q; cases q
      · rw [h1] at q; cases q
  one := R.one
  ll := fun a h => by
    obtain ⟨⟨o, e⟩, f⟩ := R.ll a h
    have ne : a ≠ p := fun z => by subst z; exact np.2 h
    refine ⟨⟨o, t _ _ ne e⟩, ?_⟩
    cases z : F' a with
    | none => rfl
    | some u =>
      rcases n a u z with q | q
      · rw [f] at q; cases q
      · rw [e] at q; cases q
  dcs := R.dcs.sub (fun j v h _ => ⟨h, rfl⟩) s fun q o e n1 _ f z _ => ⟨t _ _ (fun w => n1 vs (by rw [w, hp] at e; exact (Option.some.inj e).symm)) e, (by
    cases g : F' q with
    | none => rfl
    | some u =>
      rcases n q u g with g | g
      · rw [f] at g; cases g
      · rw [e] at g; cases g), z⟩
theorem eCallF (ok : Cok fns cls N C Φ k X sc b.W) (hC : b.C = C) {f g : Nat} {a : IE} {ds : List D} (s : Sn fns cls N C Φ k a) {x y : Str} {es es2 : List Expr} {p p2 pos pos2 : Pos}
    (h : (fnL fns f x && glB sc x && !(x == ("__debug__" : Str)) && fnB fns g y && glB sc y && !(y == ("__debug__" : Str)) && !es2.isEmpty && isL a && chk fns N a sc (dm :: dm :: es2) && litEs ds es) = true) :
    PE X (.Call (.Name x p) (.Call (.Name y p2) es2 [] pos2 :: es) [] pos) (rdE X.K b (wE Φ (.callF f g a ds))) := by
  simp only [Bool.and_eq_true, Bool.not_eq_true'] at h
  obtain ⟨⟨⟨⟨⟨⟨⟨⟨⟨hf, hg⟩, hdb⟩, hf2⟩, hg2⟩, hdb2⟩, hne⟩, hl⟩, hc⟩, hlit⟩ := h
  have hp := chkPlain hl hc
  obtain ⟨fi, e, ec, rfl, lf⟩ := fnL_of hf
  obtain ⟨fn, fd, hm, hk, hb, ho⟩ := ok.callee f fi e ec
  rw [specOf_yes lf] at ho
  obtain ⟨fi2, e2, ec2, rfl, lf2⟩ := fnB_of hf2
  obtain ⟨fn2, fd2, hm2, hk2, hb2, ho2⟩ := ok.callee g fi2 e2 ec2
  rw [specOf_no lf2] at ho2
  cases es2 with
  | nil => exact absurd hne (by decide)
  | cons e0 es2 =>
    rw [List.all_cons, Bool.and_eq_true] at hp
    refine peImp (pe_callS ho ok.room (glB_of ok hg) hm hk hb (fun σ => passAt ok.tk σ) (pa_cons (pe_callS (p := p2) (pos := pos2) ho2 ok.room (glB_of ok hg2) hm2 hk2 hb2 (fun σ => passAt ok.tk σ) (s.a b X sc hC ok hl _ hc) hdb2 (starOf hp.1) (noStars hp.2)) (paLit hlit) (starOf rfl)) hdb (starOf rfl) (noStars (litPlain hlit))) fun σ H Q ⟨ε, F, Xp, Qp, R, w, ex, kk⟩ => ?_
    refine ⟨ε, F, Xp, _, R, w, ex, fun us ε1 H1 F1 vs s1 f1 R1 d1 q1 => ?_⟩
    refine ⟨F1, us, _, _, R1.fh, d1, ok.ar g fi2 us _ _ e2 q1, q1, fun c H' t q => ?_, fun v H2 F2 z t2 g2 h2 n2 vr qv => ?_⟩
    · rw [← hC]
      exact ex c ε1 H' F1 (s1.trans (.of t)) (R1.grow t (.refl F1) (R1.fh.trans t) .refl) q
    · cases v with
      | own xs =>
        obtain ⟨r, ws, rfl, k1, k2, k3, k4⟩ := vr
        have R2 := R1.grow t2 g2 h2 n2
        have np := R1.no k4
        have off : Off σ ε1 r := R1.offNew k4
        have np2 := np.2
        have nH : ∀ {H'}, (∀ a o, a ≠ r → H2 a = some o → H' a = some o) → SubZ b.H0 H H' := fun {H'} t a o nl q => by
          have q1 := s1 a o nl q
          exact t a o (fun z => by subst z; rw [k4] at q1; cases q1) (t2 a o q1)
        have qv : Φ f (.list xs :: ds) (fun c => Xp c ε1) (kT fun v _ => Qp v ε1) := qv
        refine ⟨F2, r, ws, xs, ds.map cV, ds, _, _, rfl, h2, k3, k1, k2, litDa hlit, ok.ar f fi _ _ _ e qv, qv, (fun v h => by cases v <;> first | rfl | exact h.elim), fun c H' t hp xq => ?_, fun v H' F' x ws' ys t f fh n hp d fp dv qv => ?_, fun zs H' F' r' us' ws' ys t f fh n hp d fp hr dr fr hn qv => ?_⟩
        · rw [← hC]
          exact ex c ε1 H' F2 (nH t) (R2.growOff k1 k3 np off t (.refl F2) (fun a o q => t a o (fun z => by subst z; rw [k3] at q; cases q) (h2 a o q)) .refl) xq
        · exact kk (.d v) ε1 H' F' x (nH t) ((f1.trans g2).trans f) (R2.growOff k1 k3 np off t f fh n) dv qv
        · have R3 := R2.growOff k1 k3 np off t f fh n
          exact kk (.own zs) ε1 H' F' (.ref r') (nH t) ((f1.trans g2).trans f) R3 ⟨r', us', rfl, hr, dr, fr, R2.no hn, R2.offNew hn⟩ qv
      | _ => exact qv.elim
theorem eRvl (ok : Cok fns cls N C Φ k X sc b.W) {a : IE} {x y : Str} {e : Expr} {p p2 pos pos2 : Pos} (hx : x = "list") (hg : glB sc x = true) (hy : y = "reversed") (hgy : glB sc y = true) (pe : plainE e = true) (he : PE X e (rdE X.K b (wE Φ a))) :
    PE X (.Call (.Name x p) [.Call (.Name y p2) [e] [] pos2] [] pos) (rdE X.K b (wE Φ (.rvl a))) := by
  subst hx hy
  refine peImp (pe_rvl ok.calm (glB_of ok hg) (ok.blt _ (by decide)) (glB_of ok hgy) (ok.blt _ (by decide)) (peD he) (starOf pe)) fun σ H Q ⟨ε, F, Xp, Qp, R, w, ex, kk⟩ => ?_
  refine ⟨ε, F, Xp, _, R, w, ex, fun d ε1 H1 F1 v s1 f1 R1 d1 q1 => ?_⟩
  cases d with
  | list xs =>
    obtain ⟨l, vs, rfl, r, da⟩ := dpLst d1
    exact ⟨l, vs, rfl, sqlSub R1.fh r, fun q hq => kk (.own xs.reverse) ε1 _ F1 (.ref q) (s1.trans (.of (same_upd hq))) f1 (R1.lst _ hq) (VAt.newL R1 hq (daRev da)) q1⟩
  | _ => exact q1.elim
theorem eEmp {p : Pos} : PE X (.Dict [] [] p) (rdE X.K b (wE Φ .emp)) :=
  peImp pe_dnewK fun σ H Q ⟨ε, F, Xp, Qp, R, w, ex, kk⟩ r hr =>
    kk (.d (.dict [])) ε _ _ (.ref r) (.of (same_upd hr)) (sub_updF (R.fh.none hr)) (R.tup (.dK []) hr) (Dp.dct upd_same) w
theorem eLset (ok : Cok fns cls N C Φ k X sc b.W) {a : IE} {x y : Str} {e : Expr} {p p2 pos pos2 : Pos} (hx : x = "len") (hg : glB sc x = true) (hy : y = "set") (hgy : glB sc y = true) (pe : plainE e = true) (he : PE X e (rdE X.K b (wE Φ a))) :
    PE X (.Call (.Name x p) [.Call (.Name y p2) [e] [] pos2] [] pos) (rdE X.K b (wE Φ (.lset a))) := by
  subst hx hy
  refine peImp (RZ.pe_lenSetI (glB_of ok hg) (ok.blt _ (by decide)) (glB_of ok hgy) (ok.blt _ (by decide)) (peD he) ok.calm (starOf pe)) fun σ H Q ⟨ε, F, Xp, Qp, R, w, ex, kk⟩ => ?_
  refine ⟨ε, F, Xp, _, R, w, ex, fun d ε1 H1 F1 v s1 f1 R1 d1 q1 => ?_⟩
  cases d with
  | list xs =>
    obtain ⟨ns, e1, nd, hl, q⟩ := q1
    obtain ⟨l, vs, rfl, r, da⟩ := dpLst d1
    have ev := asInts_of da e1
    have el : ns.length = xs.length := by rw [← daLen da, ev, List.length_map]
    refine ⟨l, ns, rfl, by rw [← ev]; exact sqlSub R1.fh r, nd, hl, ?_⟩
    rw [el]
    exact kk (.d (.int xs.length)) ε1 H1 F1 _ s1 f1 R1 (Dp.int _) q
  | _ => exact q1.elim
/-- what has no list in it stays where a list is taken out -/
theorem noLHole {K : PySem.W.Frag} {F : Hp} {p : Addr} {ws : List V} (hp : F p = some (.lst ws)) : (∀ {v : V} {d : D}, noL d = true → Dp K F v d → Dp K (hole F p) v d) ∧ ∀ {vs : List V} {ds : List D}, noLs ds = true → DpAll K F vs ds → DpAll K (hole F p) vs ds := by
  have rd : ∀ {a : Addr} {u : HO}, (∀ ws, u ≠ .lst ws) → (∀ o ws, u ≠ .frz o (.lst ws)) → F a = some u → hole F p a = some u := fun {a u} h1 h2 h => by
    have ne : a ≠ p := fun z => by rw [z, hp] at h; exact h1 ws (Option.some.inj h).symm
    unfold hole
    rw [if_neg ne]; exact h
  have sq : ∀ {a : Addr} {xs : List V}, SqT K F a xs → SqT K (hole F p) a xs := fun {a xs} h => by
    rcases h with h | h
    · rcases h with h | ⟨o, h⟩
      · exact .inl (.inl (rd (fun ws e => by cases e) (fun o' ws e => by cases e) h))
      · exact .inl (.inr ⟨o, rd (fun ws e => by cases e) (fun o' ws e => by cases e) h⟩)
    · exact .inr h
  have go : ∀ m : Nat, (∀ v x, sizeOf x < m → noL x = true → Dp K F v x → Dp K (hole F p) v x) ∧ ∀ vs xs, sizeOf xs < m → noLs xs = true → DpAll K F vs xs → DpAll K (hole F p) vs xs := by
    intro m
    induction m with
    | zero => exact ⟨fun _ _ h => absurd h (Nat.not_lt_zero _), fun _ _ h => absurd h (Nat.not_lt_zero _)⟩
    | succ m ih =>
      refine ⟨fun v x hm nl h => ?_, fun vs xs hm nl h => ?_⟩
      · cases h with
        | non => exact .non
        | bl c => exact .bl c
        | int c => exact .int c
        | str c => exact .str c
        | lst q r => unfold noL at nl; cases nl
        | dct q => unfold noL at nl; cases nl
        | tup q r =>
          unfold noL at nl
          exact .tup (sq q) (ih.2 _ _ (by simp at hm; omega) nl r)
      · cases h with
        | nil => exact .nil
        | cons a c =>
          unfold noLs at nl
          rw [Bool.and_eq_true] at nl
          exact .cons (ih.1 _ _ (by simp at hm; omega) nl.1 a) (ih.2 _ _ (by simp at hm; omega) nl.2 c)
  exact ⟨fun {v d} nl h => (go (sizeOf d + 1)).1 v d (Nat.lt_succ_self _) nl h, fun {vs ds} nl h => (go (sizeOf ds + 1)).2 vs ds (Nat.lt_succ_self _) nl h⟩
theorem noLt_gv : ∀ {ε : Ev} {i : Nat} {ys : List D}, noLt ε = true → gv ε i ≠ some (.lent ys)
  | [], _, _, _ => fun z => by cases z
  | none :: r, 0, _, _ => fun z => by cases z
  | some v :: r, 0, _, h => fun z => by
    cases Option.some.inj z
    cases h
  | none :: r, i + 1, _, h => noLt_gv (ε := r) (i := i) h
  | some v :: r, i + 1, _, h => noLt_gv (ε := r) (i := i) (by cases v <;> first | exact h | cases h)
/-- a list that stood still for a while is a name's own again -/
theorem Rep.thaw {K : PySem.W.Frag} {H0 : Zn} {F0 F H F' H' : Hp} {σ : St} {ε : Ev} {j : Nat} {xs : List D} {p : Addr} (R : Rep K H0 F0 F H σ ε) (nl : noLt ε = true) (g : gv ε j = some (.own xs)) (e : σ[j]? = some (some (.ref p)))
    (s : SubZ H0 H H') (f : Sub F F') (R' : Rep K H0 F0 F' H' σ (pv ε j (some (.d (.list xs))))) : Rep K H0 F0 (hole F' p) H' σ ε ∧ Sub F (hole F' p) := by
  obtain ⟨p', vs, e', h1, h2, h3, h4⟩ := R.own j xs g
  obtain rfl := refEq e' e
  have fs : Sub F (hole F' p') := fun a o q => by
    have ne : a ≠ p' := fun z => by subst z; rw [h3] at q; cases q
    unfold hole
    rw [if_neg ne]; exact f a o q
  have hs : Sub (hole F' p') F' := fun a o q => (by
    unfold hole at q
    split at q
    · cases q
    · exact q)
  have hpp : hole F' p' p' = none := by unfold hole; rw [if_pos rfl]
  have hz : ∀ {a : Addr}, F' a = none → hole F' p' a = none := fun {a} q => by
    unfold hole
    split
    · rfl
    · exact q
  have oth : ∀ {i : Nat}, i ≠ j → gv (pv ε j (some (.d (.list xs)))) i = gv ε i := fun {i} h => by rw [gv_pv, if_neg h]
  have nj : ∀ {i : Nat} {v : Val}, gv ε i = some v → (∀ ys, v ≠ .own ys) → i ≠ j := fun {i v} q n z => by
    subst z
    rw [g] at q
    exact n xs (Option.some.inj q).symm
  refine ⟨⟨fun a o q => R'.fh a o (hs a o q), fun a o q => fs a o (R.ff a o q), R'.h0, fun a o q => R'.fr a o (hs a o q), by rw [R'.len, pv_len], fun i x q => ?_, fun i ys q => ?_, R.uni, fun i ys q => ?_, R.one, fun a q => ?_, ?_⟩, fs⟩
  · obtain ⟨v, e2, d⟩ := R.dat i x q
    exact ⟨v, e2, dpSub fs d⟩
  · by_cases ij : i = j
    · subst ij
      rw [g] at q
      cases q
      exact ⟨p', vs, e, s _ _ h4.2 h1, daSub fs h2, hpp, h4⟩
    · obtain ⟨r, us, e2, k1, k2, k3, k4⟩ := R'.own i ys (by rw [oth ij]; exact q)
      obtain ⟨r', us', e2', k1', k2', k3', k4'⟩ := R.own i ys q
      obtain rfl := refEq e2 e2'
      have k1'' := s _ _ k4.2 k1'
      rw [k1] at k1''
      cases k1''
      exact ⟨r, us, e2, k1, daSub fs k2', hz k3, k4⟩
  · exact absurd q (noLt_gv nl)
  · obtain ⟨k1, k2⟩ := R'.ll a q
    exact ⟨k1, hz k2⟩
  · refine ⟨fun i w q c => ?_, R.dcs.uni⟩
    have ij : i ≠ j := nj q (fun ys z => by subst z; cases c)
    obtain ⟨r, a1, a2, a3, a4⟩ := R.dcs.at_ i w q c
    obtain ⟨r', b1, b2, b3, b4⟩ := R'.dcs.at_ i w (by rw [oth ij]; exact q) c
    obtain rfl := refEq a1 b1
    exact ⟨r, a1, a2.mono fs (fun o z => s _ _ a4.2 z), hz b3, a4⟩
end
end Rc

/-! Dicts: what is asked of them. -/
namespace Rc
open PySem PySem.Spec PyProof.Rows L2
theorem asIntsMap : ∀ k : List Int, asInts (k.map .int) = some k
  | [] => rfl
  | i :: r => by
    show (asInts (r.map .int)).map (i :: ·) = _
    rw [asIntsMap r]; rfl
theorem of_asInts : ∀ {xs : List D} {k : List Int}, asInts xs = some k → xs = k.map .int
  | [], k, h => by simp [asInts] at h; subst h; rfl
  | x :: r, k, h => by
    cases x with
    | int i =>
      simp only [asInts, Option.map_eq_some_iff] at h
      obtain ⟨t, h1, h2⟩ := h
      subst h2
      rw [of_asInts h1]; rfl
    | _ => simp [asInts] at h
theorem vals_intK {P : Program} {w : World} : ∀ {k : List Int} {us : List Value}, Vals (k.map V.int) us → ItemsAre (intKind P w) k us
  | [], _, r => by rw [List.map_nil] at r; cases r; exact .nil
  | i :: k, _, r => by
    rw [List.map_cons] at r
    cases r with
    | cons h t =>
      obtain ⟨t', rfl⟩ := h
      exact .cons (by show Value.isInt i (.int i t') = true; simp [Value.isInt]) (vals_intK t)
section
variable {X : Cx} {pins : List (Addr × Obj)} {σ : St} {H : Hp} {s : Shared}
/-- a tuple of whole numbers is a key -/
theorem keyAt {a : Addr} {k : List Int} (I : Inv X pins σ H s) (d : Dp X.K H (.ref a) (.tuple (k.map .int))) : (tupleKind (intKind X.prog X.w)).is s.heap k a := by
  obtain ⟨a', vs, e, q, da⟩ := dpTup d
  cases e
  obtain rfl := asInts_of da (asIntsMap k)
  obtain ⟨its, rv, ⟨o, ho, hc, n, hd⟩, hz⟩ := I.tuple q
  exact ⟨o, its.toArray, n, ho, hc, hd, by simpa using vals_intK rv⟩
theorem keysAt {xs : List (List Int × Addr × Value)} {kvs : List (List Int × D)} (I : Inv X pins σ H s) (h : KvT X.K H xs kvs) : ∀ x ∈ xs, (tupleKind (intKind X.prog X.w)).is s.heap x.1 x.2.1 := by
  induction h with
  | nil => intro x hx; cases hx
  | cons k r d _ ih =>
    intro x hx
    rcases List.mem_cons.mp hx with e | hx
    · subst e; exact keyAt I k
    · exact ih x hx
theorem tabAt {p : Addr} {xs : List (List Int × Addr × Value)} {kvs : List (List Int × D)} (I : Inv X pins σ H s) (e : Rd H p (.ext (TbAt p xs))) (h : KvT X.K H xs kvs) :
    s.heap.DictOfH (tupleKind (intKind X.prog X.w)) p xs ∧ (p == sysModules) = false ∧ xs.length ≤ sizeLine := by
  obtain ⟨⟨o, es, ep, a1, a2, a3, a4, a5, a6, a7⟩, _⟩ := (show ObjOk X.prog X.w H s.heap p (.ext (TbAt p xs)) from e.ok I.hok)
  exact ⟨⟨o, es, ep, a1, a2, a3, a4, keysAt I h, a5⟩, a7, a6⟩
end
theorem lkp_pos {κ : Type} [DecidableEq κ] {p : κ × D} {r : List (κ × D)} {k : κ} (e : p.1 = k) : lkp (p :: r) k = some p.2 := by simp [lkp, List.find?_cons, e]
theorem lkp_neg {κ : Type} [DecidableEq κ] {p : κ × D} {r : List (κ × D)} {k : κ} (e : ¬ p.1 = k) : lkp (p :: r) k = lkp r k := by simp [lkp, List.find?_cons, e]
theorem lkp_any {κ : Type} [DecidableEq κ] (k : κ) : ∀ kvs : List (κ × D), (kvs.any fun kv => decide (kv.1 = k)) = (lkp kvs k).isSome
  | [] => rfl
  | p :: r => by
    rw [List.any_cons]
    by_cases e : p.1 = k
    · simp only [lkp_pos e, decide_eq_true e, Bool.true_or, Option.isSome_some]
    · rw [lkp_neg e, decide_eq_false e, Bool.false_or]; exact lkp_any k r
/-- what a look-up gives, as the value that stands there -/
def OptAt (K : PySem.W.Frag) (F : Hp) : Option V → Option D → Prop
  | none, none => True
  | some v, some d => Dp K F v d
  | _, _ => False
theorem KvI.get {K : PySem.W.Frag} {F : Hp} {vs : List (Key × V)} {kvs : List (Int × D)} (h : KvI K F vs kvs) (i : Int) : OptAt K F (valV vs (.inl i)) (lkp kvs i) := by
  induction h with
  | nil => exact True.intro
  | @cons j v d r t q _ ih =>
    by_cases e : j = i
    · subst e
      rw [valV_pos (p := (Sum.inl j, v)) rfl, lkp_pos (p := (j, d)) rfl]; exact q
    · rw [valV_neg (p := (Sum.inl j, v)) (fun z => e (Sum.inl.inj z)), lkp_neg (p := (j, d)) e]; exact ih
theorem KvI.put {K : PySem.W.Frag} {F : Hp} {vs : List (Key × V)} {kvs : List (Int × D)} (h : KvI K F vs kvs) {i : Int} {v : V} {d : D} (q : Dp K F v d) : KvI K F (putK vs (.inl i) v) (putL kvs i d) := by
  have an : (vs.any fun kv => decide (kv.1 = Sum.inl i)) = kvs.any fun kv => decide (kv.1 = i) := by
    induction h with
    | nil => rfl
    | @cons j v d r t q _ ih =>
      rw [List.any_cons, List.any_cons, ih]
      congr 1
      by_cases e : j = i
      · subst e; simp
      · simp [e]
  have g1 : ∀ {r : List (Key × V)} {t : List (Int × D)}, KvI K F r t → KvI K F (r.map fun kv => if kv.1 = Sum.inl i then (kv.1, v) else kv) (t.map fun kv => if kv.1 = i then (kv.1, d) else kv) := by
    intro r t h
    induction h with
    | nil => exact .nil
    | @cons j u e r t a _ ih =>
      rw [List.map_cons, List.map_cons]
      by_cases z : j = i
      · subst z; rw [if_pos rfl, if_pos rfl]; exact .cons q ih
      · rw [if_neg (fun w => z (Sum.inl.inj w)), if_neg z]; exact .cons a ih
  have g2 : ∀ {r : List (Key × V)} {t : List (Int × D)}, KvI K F r t → KvI K F (r ++ [(.inl i, v)]) (t ++ [(i, d)]) := by
    intro r t h
    induction h with
    | nil => exact .cons q .nil
    | cons a _ ih => exact .cons a ih
  unfold putK putL
  rw [an]
  split
  · exact g1 h
  · exact g2 h
theorem KvI.len {K : PySem.W.Frag} {F : Hp} {vs : List (Key × V)} {kvs : List (Int × D)} (h : KvI K F vs kvs) : vs.length = kvs.length := by
  induction h with
  | nil => rfl
  | cons _ _ ih => simp [ih]
theorem KvI.keys {K : PySem.W.Frag} {F : Hp} {vs : List (Key × V)} {kvs : List (Int × D)} (h : KvI K F vs kvs) : vs.map (·.1) = (kvs.map (·.1)).map Sum.inl := by
  induction h with
  | nil => rfl
  | cons _ _ ih => simp only [List.map_cons, ih]
theorem KvI.at_ {K : PySem.W.Frag} {F : Hp} {vs : List (Key × V)} {kvs : List (Int × D)} (h : KvI K F vs kvs) : ∀ {i : Nat} {k : Key} {v : V}, vs[i]? = some (k, v) → ∃ j d, k = .inl j ∧ kvs[i]? = some (j, d) ∧ Dp K F v d := by
  induction h with
  | nil => intro i k v e; simp at e
  | @cons j u d r t a _ ih =>
    intro i k v e
    cases i with
    | zero =>
      simp only [List.getElem?_cons_zero, Option.some.injEq, Prod.mk.injEq] at e
      obtain ⟨rfl, rfl⟩ := e
      exact ⟨j, d, rfl, rfl, a⟩
    | succ i =>
      simp only [List.getElem?_cons_succ] at e ⊢
      exact ih e
theorem atKey_pos {p : List Int × Addr × Value} {r : List (List Int × Addr × Value)} {k : List Int} (e : p.1 = k) : atKey (p :: r) k = some p.2 := by simp [atKey, List.find?_cons, e]
theorem atKey_neg {p : List Int × Addr × Value} {r : List (List Int × Addr × Value)} {k : List Int} (e : ¬ p.1 = k) : atKey (p :: r) k = atKey r k := by simp [atKey, List.find?_cons, e]
theorem KvT.get {K : PySem.W.Frag} {F : Hp} {xs : List (List Int × Addr × Value)} {kvs : List (List Int × D)} (h : KvT K F xs kvs) (i : List Int) :
    (atKey xs i = none ∧ lkp kvs i = none) ∨ ∃ a u v d, atKey xs i = some (a, u) ∧ RelV v u ∧ lkp kvs i = some d ∧ Dp K F v d := by
  induction h with
  | nil => exact .inl ⟨rfl, rfl⟩
  | @cons j a v u d r t q1 q2 q3 _ ih =>
    by_cases e : j = i
    · rw [atKey_pos (p := (j, a, u)) e, lkp_pos (p := (j, d)) e]; exact .inr ⟨a, u, v, d, rfl, q2, rfl, q3⟩
    · rw [atKey_neg (p := (j, a, u)) e, lkp_neg (p := (j, d)) e]; exact ih
theorem KvT.put {K : PySem.W.Frag} {F : Hp} {xs : List (List Int × Addr × Value)} {kvs : List (List Int × D)} (h : KvT K F xs kvs) {i : List Int} {a : Addr} {v : V} {u : Value} {d : D} (qk : Dp K F (.ref a) (.tuple (i.map .int))) (r : RelV v u) (q : Dp K F v d) :
    KvT K F (storedH xs i a u) (putL kvs i d) := by
  have an : (kvs.any fun kv => decide (kv.1 = i)) = (atKey xs i).isSome := by
    rw [lkp_any]
    rcases h.get i with ⟨e1, e2⟩ | ⟨_, _, _, _, e1, _, e2, _⟩ <;> rw [e1, e2] <;> rfl
  have g1 : ∀ {r' : List (List Int × Addr × Value)} {t : List (List Int × D)}, KvT K F r' t → KvT K F (r'.map (putAt i u)) (t.map fun kv => if kv.1 = i then (kv.1, d) else kv) := by
    intro r' t h
    induction h with
    | nil => exact .nil
    | @cons j b w u' e r' t a1 a2 a3 _ ih =>
      rw [List.map_cons, List.map_cons]
      unfold putAt
      by_cases z : j = i
      · subst z; rw [if_pos rfl, if_pos rfl]; exact .cons a1 r q ih
      · rw [if_neg z, if_neg z]; exact .cons a1 a2 a3 ih
  have g2 : ∀ {r' : List (List Int × Addr × Value)} {t : List (List Int × D)}, KvT K F r' t → KvT K F (r' ++ [(i, a, u)]) (t ++ [(i, d)]) := by
    intro r' t h
    induction h with
    | nil => exact .cons qk r q .nil
    | cons a1 a2 a3 _ ih => exact .cons a1 a2 a3 ih
  unfold storedH putL
  rw [an]
  split
  · exact g1 h
  · exact g2 h
theorem KvT.len {K : PySem.W.Frag} {F : Hp} {xs : List (List Int × Addr × Value)} {kvs : List (List Int × D)} (h : KvT K F xs kvs) : xs.length = kvs.length := by
  induction h with
  | nil => rfl
  | cons _ _ _ _ ih => simp [ih]
theorem KvT.at_ {K : PySem.W.Frag} {F : Hp} {xs : List (List Int × Addr × Value)} {kvs : List (List Int × D)} (h : KvT K F xs kvs) : ∀ {i : Nat} {k : List Int} {a : Addr} {u : Value}, xs[i]? = some (k, a, u) → ∃ v d, RelV v u ∧ kvs[i]? = some (k, d) ∧ Dp K F (.ref a) (.tuple (k.map .int)) ∧ Dp K F v d := by
  induction h with
  | nil => intro i k a u e; simp at e
  | @cons j b w u' e r' t a1 a2 a3 _ ih =>
    intro i k a u e
    cases i with
    | zero =>
      simp only [List.getElem?_cons_zero, Option.some.injEq, Prod.mk.injEq] at e
      obtain ⟨rfl, rfl, rfl⟩ := e
      exact ⟨w, _, a2, rfl, a1, a3⟩
    | succ i =>
      simp only [List.getElem?_cons_succ] at e ⊢
      exact ih e
theorem length_putL {κ : Type} [DecidableEq κ] (kvs : List (κ × D)) (k : κ) (v : D) : (putL kvs k v).length ≤ kvs.length + 1 := by
  unfold putL
  split
  · rw [List.length_map]; omega
  · rw [List.length_append, List.length_cons, List.length_nil]; omega
/-! ### rules -/
/-- a dict stands at p -/
def IsDc (K : PySem.W.Frag) (H : Hp) (p : Addr) : Prop := ∃ F v, Sub F H ∧ DcAt K F H p v
theorem isDcAt {X : Cx} {pins : List (Addr × Obj)} {σ : St} {H : Hp} {s : Shared} {a : Addr} (I : Inv X pins σ H s) (d : IsDc X.K H a) :
    s.TypeIs (.ref a) "dict" ∧ ∀ b, Value.ref a = .ref b → ∃ ob, s.heap.get? b = some ob ∧ ob.dict = none := by
  obtain ⟨F, v, sb, d⟩ := d
  cases v with
  | dI kvs =>
    obtain ⟨vs, e, _⟩ := d
    obtain ⟨t1, t2, _⟩ := isD_at I (.inl ⟨vs, .inl e⟩)
    exact ⟨t1, t2⟩
  | dT kvs =>
    obtain ⟨xs, e, q⟩ := d
    obtain ⟨⟨o, es, ep, h1, h2, _⟩, _⟩ := tabAt I (.inl e) (q.mono sb)
    exact ⟨⟨o, h1, h2.1⟩, fun b z => by cases z; exact ⟨o, h1, h2.2.1⟩⟩
  | _ => exact d.elim
/-- what stands in the dict at p for the key y -/
def GtAt (K : PySem.W.Frag) (F H : Hp) (p : Addr) (y : V) (Q : Option V → Prop) : Prop := ∃ v d, Sub F H ∧ DcAt K F H p v ∧ Dp K F y d ∧ dGetW v d fun o => ∀ w, OptAt K F w o → Q w
section
variable {X : Cx} {pins : List (Addr × Obj)} {σ : St} {H F : Hp} {s : Shared} {a : Addr} {y z : V} {u r : Value} {A : Around} {E : Value → Shared → Prop} {G : Option V → Prop}
theorem gt_get2 {Q : Value → Shared → Prop} (hu : A.units + 1 < cLine) (I : Inv X pins σ H s) (g : GtAt X.K F H a y G) (ry : RelV y u) (rz : RelV z r) (h : ∀ w w' s', G w → Inv X pins σ H s' → RelV (w.getD z) w' → Q w' s') :
    wpAny (model X.prog X.w) A (call (.builtin "dict.get") [.ref a, u, r]) Q E s := by
  obtain ⟨v, d, sb, da, dy, g⟩ := g
  cases v with
  | dI kvs =>
    obtain ⟨vs, e, q⟩ := da
    obtain ⟨i, ei, g⟩ := g
    cases d with
    | int j =>
      cases ei
      cases dpInt dy
      exact d_get2 hu I (DGet.k (k := .inl i) e) ry rz fun w' s' I' rw' => h _ w' s' (g _ (q.get i)) I' rw'
    | _ => cases ei
  | dT kvs =>
    obtain ⟨xs, e, q⟩ := da
    obtain ⟨i, ei, g⟩ := g
    cases d with
    | tuple ys =>
      obtain rfl := of_asInts ei
      obtain ⟨b, ws, rfl, _⟩ := dpTup dy
      cases (show u = Value.ref b from ry)
      obtain ⟨dd, hd, hz⟩ := tabAt I (.inl e) (q.mono sb)
      refine call_meetsIn PySem.F.slot_dict_get dd.typeIs PySem.F.entry_dict_get (PySem.F.args_dict_get_3 _ _ _) (meetsH_dict_get_default (tupleKind (intKind X.prog X.w)) a b hd r) ⟨tupleKind_room_in1 hu, i, xs, keyAt I (dpSub sb dy), dd, ?_⟩
      rcases q.get i with ⟨e1, e2⟩ | ⟨c, u2, v2, d2, e1, e2, e3, e4⟩
      · rw [e1]
        exact h none _ _ (g none (by rw [e2]; exact True.intro)) (I.tok _) rz
      · rw [e1]
        exact h (some v2) _ _ (g (some v2) (by rw [e3]; exact e4)) (I.tok _) e2
    | _ => cases ei
  | _ => exact da.elim
theorem gt_item {Q : Value → Shared → Prop} (hu : A.units + 1 < cLine) (I : Inv X pins σ H s) (g : GtAt X.K F H a y G) (hs : ∀ w, G w → w ≠ none) (ry : RelV y u) (h : ∀ w w' s', G (some w) → Inv X pins σ H s' → RelV w w' → Q w' s') :
    wpAny (model X.prog X.w) A (getItem (.ref a) u) Q E s := by
  obtain ⟨v, d, sb, da, dy, g⟩ := g
  cases v with
  | dI kvs =>
    obtain ⟨vs, e, q⟩ := da
    obtain ⟨i, ei, g⟩ := g
    cases d with
    | int j =>
      cases ei
      cases dpInt dy
      have g1 := g _ (q.get i)
      cases hv : valV vs (Sum.inl i) with
      | none => rw [hv] at g1; exact absurd rfl (hs _ g1)
      | some w =>
        rw [hv] at g1
        exact d_getItem hu I (v := w) (by rw [← hv]; exact DGet.k (k := .inl i) e) ry fun w' s' I' rw' => h w w' s' g1 I' rw'
    | _ => cases ei
  | dT kvs =>
    obtain ⟨xs, e, q⟩ := da
    obtain ⟨i, ei, g⟩ := g
    cases d with
    | tuple ys =>
      obtain rfl := of_asInts ei
      obtain ⟨b, ws, rfl, _⟩ := dpTup dy
      cases (show u = Value.ref b from ry)
      obtain ⟨dd, hd, hz⟩ := tabAt I (.inl e) (q.mono sb)
      rcases q.get i with ⟨e1, e2⟩ | ⟨c, u2, v2, d2, e1, e2, e3, e4⟩
      · exact absurd rfl (hs none (g none (by rw [e2]; exact True.intro)))
      · refine wpAny_getItem_heap (tupleKind_room_in1 hu) (keyAt I (dpSub sb dy)) dd e1 ?_
        exact h v2 _ _ (g (some v2) (by rw [e3]; exact e4)) (I.tok _) e2
    | _ => cases ei
  | _ => exact da.elim
/-- d[y] = z -/
theorem gt_put {Q : Unit → Shared → Prop} {v : Val} {d dz : D} (hu : A.units + 1 < cLine) (I : Inv X pins σ H s) (sb : Sub F H) (da : DcAt X.K F H a v) (dy : Dp X.K F y d) (dv : Dp X.K F z dz) {G : Val → Prop} (w : dPutW v d dz G) (ry : RelV y u) (rz : RelV z r)
    (h : ∀ v' o s', G v' → isDc v' = true → DcAt X.K F (upd H a o) a v' → Inv X pins σ (upd H a o) s' → Q () s') : wpAny (model X.prog X.w) A (setItem (.ref a) u r) Q E s := by
  cases v with
  | dI kvs =>
    obtain ⟨vs, e, q⟩ := da
    obtain ⟨i, ei, hl, w⟩ := w
    cases d with
    | int j =>
      cases ei
      cases dpInt dy
      exact d_setItem hu I (DPut.k (k := .inl i) e (by rw [q.len, line24]; exact hl)) ry rz fun s' I' => h _ _ s' w rfl ⟨_, upd_same, q.put dv⟩ I'
    | _ => cases ei
  | dT kvs =>
    obtain ⟨xs, e, q⟩ := da
    obtain ⟨i, ei, hl, w⟩ := w
    cases d with
    | tuple ys =>
      obtain rfl := of_asInts ei
      obtain ⟨b, ws, rfl, _⟩ := dpTup dy
      cases (show u = Value.ref b from ry)
      obtain ⟨dd, hd, hz⟩ := tabAt I (.inl e) (q.mono sb)
      have q' : KvT X.K F (storedH xs i b r) (putL kvs i dz) := q.put dy rz dv
      have hl2 : (storedH xs i b r).length ≤ sizeLine := by
        rw [q'.len, line24]
        have := length_putL kvs i dz
        omega
      refine wpAny_setItem_heap (hsz := hz) (tupleKind_room_in1 hu) (keyAt I (dpSub sb dy)) dd fun h' dd' hs => h _ (.ext (TbAt a (storedH xs i b r))) _ w rfl ⟨_, upd_same, q'⟩ ?_
      obtain ⟨o, es, ep, ho, h2, h3, h4, _, h5⟩ := dd'
      refine d_write I (by rw [e]; exact True.intro) hs ⟨o, ho⟩ ?_
      refine ⟨⟨o, es, ep, ho, h2, h3, h4, h5, hl2, hd⟩, ⟨o, ho⟩, fun h1 h2' φ st => ?_⟩
      obtain ⟨o, es, ep, ho, r⟩ := φ
      exact ⟨o, es, ep, st o ho, r⟩
    | _ => cases ei
  | _ => exact da.elim
end
section
variable {fns : List FnI} {cls : List Str} {N : List Str} {C : Nat → Addr} {Φ : Fs} {k : Nat} {X : Cx} {b : Bd} {sc : Scope}
def tGt2 (K : PySem.W.Frag) (td ty tx : TE) : TE := fun σ H Q => td σ H fun x H1 => ∃ a, x = .ref a ∧ IsDc K H1 a ∧ ty σ H1 fun y H2 => tx σ H2 fun z H3 => ∃ F, GtAt K F H3 a y fun w => Q (w.getD z) H3
def tGtI (K : PySem.W.Frag) (td ty : TE) : TE := fun σ H Q => td σ H fun x H1 => ∃ a, x = .ref a ∧ IsDc K H1 a ∧ ty σ H1 fun y H2 => ∃ F, GtAt K F H2 a y fun w => ∃ z, w = some z ∧ Q z H2
theorem pe_gt2 {o e f : Expr} {apos cpos : Pos} {td ty tx : TE} (hu : X.A.units + 1 < cLine) (ho : PE X o td) (he : PE X e ty) (hf : PE X f tx) (m : M2 X o "get" apos e f cpos) : PE X (.Call (.Attribute o "get" apos) [e, f] [] cpos) (tGt2 X.K td ty tx) := by
  refine ⟨fun pins s σ H Q I h => ?_⟩
  refine wpAny_Call_method m.base m.few m.line PySem.F.plainAttrs_dict PySem.F.slot_dict_get PySem.F.type_dict_get (thn (ho.run pins s σ H _ I h) fun u s1 ⟨x, H1, I1, rx, a, ex, d, q1⟩ => ?_)
  subst ex
  obtain rfl : u = Value.ref a := rx
  obtain ⟨t1, t2⟩ := isDcAt I1 d
  refine ⟨t1, t2, ?_⟩
  rw [m.trees]
  refine Calls.callWith_builtin rfl (Calls.evalArgs_plain (Calls.spliced_cons (thn (he.run pins s1 σ H1 _ I1 q1) fun iv s2 ⟨y, H2, I2, ry, q2⟩ =>
    Calls.spliced_cons (thn (hf.run pins s2 σ H2 _ I2 q2) fun fv s3 ⟨z, H3, I3, rz, F, g⟩ => Calls.spliced_nil ?_))))
  exact gt_get2 hu I3 g ry rz fun w w' s4 q3 I4 rw' => ⟨_, H3, I4, rw', q3⟩
theorem pe_gtI {o i : Expr} {pos : Pos} {td ty : TE} (hu : X.A.units + 1 < cLine) (ho : PE X o td) (hi : PE X i ty) (hs : NoSl i) : PE X (.Subscript o i pos) (tGtI X.K td ty) := by
  refine ⟨fun pins s σ H Q I h => ?_⟩
  refine subD_of PySem.F.slot_dict_getitem.lookup hs (thn (ho.run pins s σ H _ I h) fun u s1 ⟨x, H1, I1, rx, a, ex, d, q1⟩ => thn (hi.run pins s1 σ H1 _ I1 q1) fun iv s2 ⟨y, H2, I2, ry, F, g⟩ => ?_)
  subst ex
  obtain rfl : u = Value.ref a := rx
  have d2 : IsDc X.K H2 a := let ⟨v, d, sb, da, _⟩ := g; ⟨F, v, sb, da⟩
  exact ⟨(isDcAt I2 d2).1, gt_item hu I2 g (fun w ⟨z, e, _⟩ => by rw [e]; exact fun z => nomatch z) ry fun w w' s3 ⟨z, e, q⟩ I3 rw' => by
    cases e
    exact ⟨_, H2, I3, rw', q⟩⟩
theorem isDcOf {K : PySem.W.Frag} {H0 : Zn} {F0 F H : Hp} {σ : St} {ε : Ev} (R : Rep K H0 F0 F H σ ε) {p : Addr} {v : Val} (d : DcAt K F H p v) : IsDc K H p := ⟨F, v, R.fh, d⟩
theorem eDget (ok : Cok fns cls N C Φ k X sc b.W) {j : Nat} {y : Str} {ki xi : IE} {e f : Expr} {p q p2 : Pos} (h1 : (nmB N j y && visB sc y) = true) (hl : (q.endLine == p.line) = true) (pe : plainE e = true) (pf : plainE f = true)
    (he : PE X e (rdE X.K b (wE Φ ki))) (hf : PE X f (rdE X.K b (wE Φ xi))) : PE X (.Call (.Attribute (.Name y p2) "get" q) [e, f] [] p) (rdE X.K b (wE Φ (.dget j ki xi))) := by
  have z2 := starOf (es := []) (env := X.env) pf
  have z := starOf (es := [f]) (env := X.env) pe
  refine peImp (pe_gt2 (by have := ok.room.units; omega) (peVar (p := p2) ok h1) (peD he) (peD hf) ⟨rfl, by rw [z, z2]; rfl, hl, by rw [z, z2]; rfl⟩) fun σ H Q ⟨ε, F, Xp, Qp, R, w, ex, kk⟩ => ?_
  obtain ⟨v0, r, g0, gd, g2, g3, g5, g6, w⟩ := dictGo R w
  refine ⟨.ref r, g2, r, rfl, isDcOf R g3, ε, F, Xp, _, R, w, ex, fun d1 ε1 H1 F1 x1 s1 f1 R1 a1 q1 => ⟨ε1, F1, Xp, _, R1, q1, ex.mono s1, fun d2 ε2 H2 F2 x2 s2 f2 R2 a2 q2 => ?_⟩⟩
  obtain ⟨v, r', k0, kd, k2, k3, k5, k6, q2⟩ := dictGo R2 q2
  obtain rfl := refEq k2 g2
  refine ⟨F2, v, d1, R2.fh, k3, dpSub f2 a1, ?_⟩
  have fin : ∀ o, Qp (.d (o.getD d2)) ε2 → ∀ w, OptAt X.K F2 w o → Q (w.getD x2) H2 := fun o qq w ow => by
    cases o with
    | none => cases w with
      | none => exact kk (.d d2) ε2 H2 F2 _ (s1.trans s2) (f1.trans f2) R2 a2 qq
      | some _ => exact ow.elim
    | some d => cases w with
      | none => exact ow.elim
      | some x => exact kk (.d d) ε2 H2 F2 _ (s1.trans s2) (f1.trans f2) R2 ow qq
  cases v with
  | dI kvs => obtain ⟨i, e1, q3⟩ := q2; exact ⟨i, e1, fin _ q3⟩
  | dT kvs => obtain ⟨i, e1, q3⟩ := q2; exact ⟨i, e1, fin _ q3⟩
  | _ => exact q2.elim
theorem noSlOf {e : Expr} (h : plainE e = true) : NoSl e := by
  cases e <;> first | exact fun _ _ => rfl | exact absurd h Bool.false_ne_true
theorem eDix (ok : Cok fns cls N C Φ k X sc b.W) {j : Nat} {y : Str} {ki : IE} {e : Expr} {p p2 : Pos} (h1 : (nmB N j y && visB sc y) = true) (pe : plainE e = true)
    (he : PE X e (rdE X.K b (wE Φ ki))) : PE X (.Subscript (.Name y p2) e p) (rdE X.K b (wE Φ (.dix j ki))) := by
  refine peImp (pe_gtI (by have := ok.room.units; omega) (peVar (p := p2) ok h1) (peD he) (noSlOf pe)) fun σ H Q ⟨ε, F, Xp, Qp, R, w, ex, kk⟩ => ?_
  obtain ⟨v0, r, g0, gd, g2, g3, g5, g6, w⟩ := dictGo R w
  refine ⟨.ref r, g2, r, rfl, isDcOf R g3, ε, F, Xp, _, R, w, ex, fun d1 ε1 H1 F1 x1 s1 f1 R1 a1 q1 => ?_⟩
  obtain ⟨v, r', k0, kd, k2, k3, k5, k6, q2⟩ := dictGo R1 q1
  obtain rfl := refEq k2 g2
  refine ⟨F1, v, d1, R1.fh, k3, a1, ?_⟩
  have fin : ∀ o : Option D, (∃ d, o = some d ∧ Qp (.d d) ε1) → ∀ w, OptAt X.K F1 w o → ∃ z, w = some z ∧ Q z H1 := fun o ⟨d, e, qq⟩ w ow => by
    subst e
    cases w with
    | none => exact ow.elim
    | some x => exact ⟨x, rfl, kk (.d d) ε1 H1 F1 _ s1 f1 R1 ow qq⟩
  cases v with
  | dI kvs => obtain ⟨i, e1, q3⟩ := q2; exact ⟨i, e1, fin _ q3⟩
  | dT kvs => obtain ⟨i, e1, q3⟩ := q2; exact ⟨i, e1, fin _ q3⟩
  | _ => exact q2.elim
end
end Rc

/-! Dicts: sorted, walked. Lists of data sorted. -/
namespace Rc
open PySem PySem.Spec PyProof.Rows L2
theorem daInts {K : PySem.W.Frag} {F : Hp} : ∀ ns : List Int, DpAll K F (ns.map V.int) (ns.map .int)
  | [] => .nil
  | i :: r => .cons (.int i) (daInts r)
section
variable {K : PySem.W.Frag} {F : Hp}
theorem zipDa : ∀ {vs : List V} {ds : List D}, DpAll K F vs ds → ∀ p ∈ vs.zip ds, Dp K F p.1 p.2
  | _, _, .nil, p, h => by cases h
  | _, _, .cons a c, p, h => by
    rcases List.mem_cons.mp h with e | h
    · subst e; exact a
    · exact zipDa c p h
theorem daZip : ∀ {zs : List (V × D)}, (∀ p ∈ zs, Dp K F p.1 p.2) → DpAll K F (zs.map (·.1)) (zs.map (·.2))
  | [], _ => .nil
  | p :: r, h => .cons (h p (List.mem_cons_self ..)) (daZip fun q hq => h q (List.mem_cons_of_mem _ hq))
theorem zipSnd : ∀ {vs : List V} {ds : List D}, DpAll K F vs ds → (vs.zip ds).map (·.2) = ds
  | _, _, .nil => rfl
  | _, _, .cons _ c => by rw [List.zip_cons_cons, List.map_cons, zipSnd c]
end
theorem valsEach : ∀ {zs : List (V × D)} {out : List Value}, PySem.W.EachIs (fun u (p : V × D) => RelV p.1 u) out zs → Vals (zs.map (·.1)) out
  | _, _, .nil => .nil
  | _, _, .cons r t => .cons r (valsEach t)
theorem eachVals {K : PySem.W.Frag} {F : Hp} : ∀ {vs : List V} {ds : List D} {its : List Value}, DpAll K F vs ds → Vals vs its → PySem.W.EachIs (fun u (p : V × D) => RelV p.1 u) its (vs.zip ds)
  | _, _, _, .nil, r => by cases r; exact .nil
  | _, _, _, .cons _ c, r => by
    cases r with
    | cons h t => exact .cons h (eachVals c t)
theorem eachReads {X : Cx} {pins : List (Addr × Obj)} {σ : St} {H : Hp} {s : Shared} (I : Inv X pins σ H s) : ∀ {vs : List V} {ds : List D} {its : List Value}, (∀ d ∈ ds, noDct d = true) → DpAll X.K H vs ds → Vals vs its → PySem.W.EachIs (fun u (p : V × D) => ∃ as, Reads s.heap u p.2 as) its (vs.zip ds)
  | _, _, _, _, .nil, r => by cases r; exact .nil
  | _, _, _, hn, .cons a c, r => by
    cases r with
    | cons h t => exact .cons (L2.Dp.reads I _ _ _ (dpOut (hn _ (List.mem_cons_self ..)) a) h) (eachReads I (fun d hd => hn d (List.mem_cons_of_mem _ hd)) c t)
section
variable {X : Cx}
/-- sorted(xs) of data -/
theorem cr_sortD (hu : X.A.units + 20 < cLine) : CallR X (.builtin "sorted") (fun xs H Q => ∃ F x d, ∃ G : List D → Prop, xs = [x] ∧ Sub F H ∧ Dp X.K F x d ∧ srtW d G ∧ ∀ ys vs p, H p = none → DpAll X.K F vs ys → G ys → Q (.ref p) (upd H p (.lst vs))) := by
  intro pins s σ H xs us Q I r h
  obtain ⟨F, x, d, G, rfl, sb, dx, w, q⟩ := h
  cases d with
  | list ds =>
    obtain ⟨hal, hk, ⟨hlen, hdp⟩, w⟩ := w
    obtain ⟨a, vs, rfl, hs, da⟩ := dpLst dx
    obtain ⟨its, rv, hl, hz⟩ := I.list (sqlSub sb hs)
    rw [Vals.ref1 r]
    have z2 := zipSnd da
    have el : (vs.zip ds).length = ds.length := by rw [← congrArg List.length z2, List.length_map]
    refine PySem.W.sorted_data (β := V × D) (bs := vs.zip ds) (enc := Prod.snd) (R := fun u p => RelV p.1 u) hl.isList (eachVals da rv) (eachReads I (fun d hd => noDct_alike (hal d hd d hd)) (daSub sb da) rv) (by rw [z2]; exact hal) (by rw [z2]; exact hk) (by rw [el, line24]; exact hlen)
      (fun b hb => ?_) fun out ho eo => ?_
    · have hm : b.2 ∈ ds := by rw [← z2]; exact List.mem_map_of_mem hb
      have := hdp b.2 hm
      omega
    · obtain ⟨ep, he'⟩ := PyProof.Rows.sortedAll_at s.heap its out.toArray
      have em : ((vs.zip ds).mergeSort (PySem.W.dataLe false Prod.snd)).map (·.2) = ds.mergeSort (PySem.W.dataLe false id) := by
        have e0 := List.map_mergeSort (r := PySem.W.dataLe false (Prod.snd : V × D → D)) (s := PySem.W.dataLe false (id : D → D)) (f := Prod.snd) (l := vs.zip ds) (fun a _ b _ => rfl)
        refine e0.trans ?_
        rw [show List.map Prod.snd (vs.zip ds) = ds from z2]
      have dz : DpAll X.K F (((vs.zip ds).mergeSort (PySem.W.dataLe false Prod.snd)).map (·.1)) (ds.mergeSort (PySem.W.dataLe false id)) := by
        rw [← em]
        exact daZip fun p hp => zipDa da p ((List.mergeSort_perm _ _).mem_iff.mp hp)
      have rv2 := valsEach eo
      have hlen2 : (((vs.zip ds).mergeSort (PySem.W.dataLe false Prod.snd)).map (·.1)).length ≤ sizeLine := by
        rw [daLen dz, (List.mergeSort_perm _ _).length_eq, line24]; exact hlen
      exact ⟨.ref _, upd H (s.heap.objs.size + 1) (.lst _), I.laid (t' := s.toks) (fun _ _ => PyProof.Rows.sortedAll_old) (Nat.le_succ _) ⟨hlen2, out, ep, rv2, he'⟩, rfl, q _ _ _ (I.hok.fresh (Nat.le_succ _)) dz w⟩
  | _ => exact w.elim
end
section
variable {fns : List FnI} {cls : List Str} {N : List Str} {C : Nat → Addr} {Φ : Fs} {k : Nat} {X : Cx} {b : Bd} {sc : Scope}
theorem eSrt (ok : Cok fns cls N C Φ k X sc b.W) {a : IE} {x : Str} {e : Expr} {p pos : Pos} (hx : x = "sorted") (hg : glB sc x = true) (pe : plainE e = true) (he : PE X e (rdE X.K b (wE Φ a))) :
    PE X (.Call (.Name x p) [e] [] pos) (rdE X.K b (wE Φ (.srt a))) := by
  subst hx
  have st := starOf (es := []) (env := X.env) pe
  refine peImp (pe_callB (cr_sortD (by have := ok.room.un; omega)) (glB_of ok hg) (ok.blt _ (by decide)) (by decide +kernel) (pa_cons (peD he) pa_nil st) (by decide) (by decide) st rfl) fun σ H Q ⟨ε, F, Xp, Qp, R, w, ex, kk⟩ => ?_
  refine ⟨ε, F, Xp, _, R, w, ex, fun d ε1 H1 F1 v s1 f1 R1 d1 q1 => ⟨F1, v, d, _, rfl, R1.fh, d1, q1, fun ys vs r hr da q => ?_⟩⟩
  exact kk (.own ys) ε1 _ F1 (.ref r) (s1.trans (.of (same_upd hr))) f1 (R1.lst _ hr) (VAt.newL R1 hr da) q
theorem eDsrt (ok : Cok fns cls N C Φ k X sc b.W) {j : Nat} {x y : Str} {p p2 pos : Pos} (hx : x = "sorted") (hg : glB sc x = true) (h1 : (nmB N j y && visB sc y) = true) :
    PE X (.Call (.Name x p) [.Name y p2] [] pos) (rdE X.K b (wE Φ (.dsrt j))) := by
  subst hx
  have st := starOf (e := .Name y p2) (es := []) (env := X.env) rfl
  refine peImp (pe_callB (call_sortedDI ok.calm) (glB_of ok hg) (ok.blt _ (by decide)) (by decide +kernel) (pa_cons (peVar (p := p2) ok h1) pa_nil st) (by decide) (by decide) st rfl) fun σ H Q ⟨ε, F, Xp, Qp, R, w, ex, kk⟩ => ?_
  obtain ⟨v0, r, g0, gd, g2, g3, g5, g6, w⟩ := dictGo R w
  cases v0 with
  | dI kvs =>
    obtain ⟨vs, e, q⟩ := g3
    refine ⟨.ref r, g2, r, vs, kvs.map (·.1), rfl, .inl e, q.keys, by rw [List.length_map]; exact w.1, fun ys t hp hs hn => ?_⟩
    have ey := PySem.W.os_sorted_mergeSort hp hs
    subst ey
    exact kk (.own _) ε _ F (.ref t) (.of (same_upd hn)) (.refl _) (R.lst _ hn) (VAt.newL R hn (daInts _)) w.2
  | _ => exact w.elim
end
/-! ### d.items() -/
/-- the pairs of a locked dict, each a new tuple -/
def ItiT (d : Addr) (o : Obj) (xs : List (List Int × Addr × Value)) (vs : List V) : It :=
  ⟨fun i H => H d = some (.frz o (.ext (TbAt d xs))) ∧ i < xs.length, fun i H x H' => ∃ T k a u v, xs[i]? = some (k, a, u) ∧ vs[i]? = some v ∧ x = .ref T ∧ H T = none ∧ H' = upd H T (.tup [.ref a, v]),
    fun i H => H d = some (.frz o (.ext (TbAt d xs))) ∧ xs.length ≤ i⟩
theorem frzX {X : Cx} {pins : List (Addr × Obj)} {σ : St} {H : Hp} {s : Shared} {d : Addr} {o : Obj} {xs : List (List Int × Addr × Value)} (I : Inv X pins σ H s) (h : H d = some (.frz o (.ext (TbAt d xs)))) :
    (d == sysModules) = false ∧ ∃ es ep, o.data = .dict es ep ∧ s.heap.DictRaw d es ep ∧ es.size = xs.length ∧ ∀ i (hi : i < es.size) k a u, xs[i]? = some (k, a, u) → es[i].key = .ref a ∧ es[i].val = u := by
  obtain ⟨h0, ⟨o', es, ep, a1, a2, a3, a4, a5, a6, a7⟩, _⟩ := (show ObjOk X.prog X.w H s.heap d (.frz o (.ext (TbAt d xs))) from I.hok d _ h)
  rw [h0] at a1
  cases a1
  have hz : es.size = xs.length := by rw [← Array.length_toList, a4, List.length_map]
  refine ⟨a7, es, ep, a3, ⟨o, h0, a2, a3⟩, hz, fun i hi k a u e => ?_⟩
  have q : es.toList[i]? = some (entT (k, a, u)) := by rw [a4, List.getElem?_map, e]; rfl
  rw [Array.getElem?_toList, Array.getElem?_eq_getElem hi] at q
  rw [Option.some.inj q]
  exact ⟨rfl, rfl⟩
theorem turn_itemsT {P : Program} {w : World} {K : PySem.W.Frag} {d : Addr} {o : Obj} {es : Array DictEntry} {ep : Nat} {xs : List (List Int × Addr × Value)} {vs : List V} {elts : List Expr} {kk : Nat} {tpos : Pos} (it : Addr) (hod : o.data = .dict es ep)
    (hv : ∀ (i : Nat) (k : List Int) (a : Addr) (u : Value), xs[i]? = some (k, a, u) → ∃ v, vs[i]? = some v ∧ RelV v u) :
    Turn P w K (.Tuple elts kk tpos) (ItiT d o xs vs) [it] it (fun i h => ∃ ok ov, IsItemIter h it d i xs.length ep ok ov) where
  mem := by simp
  obj := fun i h st b hb => by
    have e : b = it := by simpa using hb
    subst e
    obtain ⟨ok, ov, e⟩ := st
    exact ⟨_, e, fun v z => nomatch z⟩
  keep := fun i h h' st k => let ⟨ok, ov, e⟩ := st; ⟨ok, ov, k it (by simp) _ e⟩
  item := by
    intro X hP hw hK hc i pins s σ H E I hf st hg
    subst hP hw hK
    obtain ⟨hd, hi⟩ := hg
    obtain ⟨hs, es', ep', hdt, hm, hsz, hen⟩ := frzX I hd
    obtain ⟨rfl, rfl⟩ := dict_ep hod hdt
    obtain ⟨⟨k, a, u⟩, hkv⟩ : ∃ p, xs[i]? = some p := ⟨xs[i], List.getElem?_eq_getElem hi⟩
    obtain ⟨v, hvv, rv⟩ := hv i k a u hkv
    obtain ⟨ok, ov, he⟩ := st
    rw [← hsz] at he
    have hlt : it < s.heap.objs.size := Heap.lt_size he
    have hi' : i < es'.size := by rw [hsz]; exact hi
    obtain ⟨e1, e2⟩ := hen i hi' k a u hkv
    refine wpAny_pyNext_items_item_raw he hm hi' fun h' ho hT hz hk => ?_
    rw [e1, e2] at hT ho
    refine ⟨_, rfl, wpAny_letOwnedTupleGo_items (s := { s with heap := h' }) ho fun h'' he' sb => ?_⟩
    have hT2 : h''.get? s.heap.objs.size = some { cls := .type "tuple", data := .seq #[.ref a, u] } := (sb.2 _ (Nat.ne_of_gt hlt)).trans hT
    have new : ObjOk X.prog X.w (upd H s.heap.objs.size (.tup [.ref a, v])) h'' s.heap.objs.size (.tup [.ref a, v]) :=
      ⟨by show 2 ≤ sizeLine; decide, [.ref a, u], .cons rfl (.cons rv .nil), ⟨_, hT2, rfl, _, rfl⟩⟩
    have I1 : Inv X pins σ (upd H s.heap.objs.size (.tup [.ref a, v])) { s with heap := h'' } :=
      I.turnedNew (t' := s.toks) (ch := [it]) (fun b ob hb e => (sb.2 b (by simpa using hb)).trans (hk b ob (by simpa using hb) e)) hf (Nat.le_refl _) new
    refine ⟨.ref s.heap.objs.size, _, I1, rfl, ⟨_, k, a, u, v, hkv, hvv, rfl, I.hok.fresh (Nat.le_refl _), rfl⟩, ⟨.ref a, u, ?_⟩, fun b hb => ?_⟩
    · rw [← hsz]; exact he'
    · have e : b = it := by simpa using hb
      rw [e, upd_ne (Nat.ne_of_lt hlt)]
      exact (hf it (by simp)).1
  done := by
    intro X hP hw hK hc i pins s σ H E I hf st hg
    subst hP hw hK
    obtain ⟨hd, hi⟩ := hg
    obtain ⟨f0, f1, f2, f3, f4, f5⟩ := hf it (by simp)
    obtain ⟨hs, es', ep', hdt, hm, hsz, hen⟩ := frzX I hd
    obtain ⟨rfl, rfl⟩ := dict_ep hod hdt
    obtain ⟨ok, ov, he⟩ := st
    rw [← hsz] at he
    exact wpAny_pyNext_items_end_raw (I.ok.hd hc) he hm (by omega) fun h' eb => ⟨rfl, I.turned (t' := s.toks) (fun b ob hb e => eb b ob hb e) f0 f1 f3 f4 f5⟩
  self := fun A i s Q E st h => let ⟨_, _, e⟩ := st; PySem.W.kcp_self e h
def iItemsD (td : TE) : TI := fun σ H R => td σ H fun x H1 => ∃ d o, x = .ref d ∧ ((∃ kvs, H1 d = some (.frz o (.dK kvs)) ∧ R (Iti d o kvs) H1) ∨
  ∃ xs vs, H1 d = some (.frz o (.ext (TbAt d xs))) ∧ (∀ (i : Nat) (k : List Int) (a : Addr) (u : Value), xs[i]? = some (k, a, u) → ∃ v, vs[i]? = some v ∧ RelV v u) ∧ R (ItiT d o xs vs) H1)
theorem pi_itemsD {X : Cx} {e : Expr} {td : TE} {apos cpos : Pos} {elts : List Expr} {kk : Nat} {tpos : Pos} (he : PE X e td) (hbase : attributeBase e "items" X.env (eval e X.env) = eval e X.env) (hline : (apos.endLine == cpos.line) = true) :
    PI X (.Tuple elts kk tpos) (.Call (.Attribute e "items" apos) [] [] cpos) (iItemsD td) := by
  refine ⟨fun pins s σ H R I h => ?_⟩
  refine wpAny_Call_method (T := "dict") (id := "dict.items") hbase rfl hline PySem.F.plainAttrs_dict PySem.F.slot_dict_items PySem.F.type_dict_items (thn (he.run pins s σ H _ I h) fun u s1 ⟨x, H1, I1, rx, d, o, ex, q⟩ => ?_)
  subst ex
  obtain rfl : u = Value.ref d := rx
  have I2 : Inv X pins σ H1 { s1 with heap := s1.heap.push { cls := .type "dict_items", data := .fields #[.ref d] } } := I1.kept (t' := s1.toks) fun b ob q => Heap.get?_push_of_some _ q
  rcases q with ⟨kvs, hd, q⟩ | ⟨xs, vs, hd, hv, q⟩
  · obtain ⟨hs, hgd, hx, es, ep, vs, hdt, hsz, kv, hm⟩ := I1.frzK hd
    have hl : kvs.length = vs.length := Paired.length kv
    refine ⟨hm.dictOf.typeIs, hm.dictOf.mapOf.noDict, ?_⟩
    have fin : wpAny (model X.prog X.w) X.A (pyIter (.ref s1.heap.objs.size)) (PIE X pins σ (.Tuple elts kk tpos) R) X.xe { s1 with heap := s1.heap.push { cls := .type "dict_items", data := .fields #[.ref d] } } := by
      refine wpAny_pyIter_items (d := d) (knd := mixKind X.prog X.w) ⟨_, Heap.get?_push_size _ rfl, rfl, rfl⟩ (hm.push _) (pi_one (tk := s1.toks) I2 _ (turn_items _ hdt) ⟨.none, .none, ?_⟩ q)
      rw [hl]
      exact Heap.get?_push_size _ rfl
    show wpAny _ _ (callWith cpos (.builtin "dict.items") [.ref d] [] []) _ X.xe s1
    exact method_meetsIn PySem.F.slot_dict_items PySem.F.entry_dict_items rfl (PySem.evalArgs_none ⟨rfl, hm.dictOf.typeIs, PySem.F.args_dict_items_1 _, _, meets_dict_items (mixKind X.prog X.w) d hs, ⟨vs, hm.dictOf⟩, fin⟩)
  · obtain ⟨hs, es, ep, hdt, hm, hsz, hen⟩ := frzX I1 hd
    refine ⟨hm.typeIs, fun b z => (by cases z; obtain ⟨o', h1, h2, _⟩ := hm; exact ⟨o', h1, h2.2.1⟩), ?_⟩
    have fin : wpAny (model X.prog X.w) X.A (pyIter (.ref s1.heap.objs.size)) (PIE X pins σ (.Tuple elts kk tpos) R) X.xe { s1 with heap := s1.heap.push { cls := .type "dict_items", data := .fields #[.ref d] } } := by
      refine wpAny_pyIter_items_raw (d := d) ⟨_, Heap.get?_push_size _ rfl, rfl, rfl⟩ (hm.at fun o e => Heap.get?_push_of_some _ e) (pi_one (tk := s1.toks) I2 _ (turn_itemsT _ hdt hv) ⟨.none, .none, ?_⟩ q)
      rw [← hsz]
      exact Heap.get?_push_size _ rfl
    show wpAny _ _ (callWith cpos (.builtin "dict.items") [.ref d] [] []) _ X.xe s1
    exact method_meetsIn PySem.F.slot_dict_items PySem.F.entry_dict_items rfl (PySem.evalArgs_none ⟨rfl, hm.typeIs, PySem.F.args_dict_items_1 _, _, meets_dict_items_raw d hs, ⟨es, ep, hm⟩, fin⟩)
theorem newPr {K : PySem.W.Frag} {F H : Hp} {T : Addr} {y x : V} {e z : D} (s2 : Sub F H) (hT : H T = none) (g0 : Dp K F y e) (g : Dp K F x z) :
    Same H (upd H T (.tup [y, x])) ∧ ∃ F' d, Sub F F' ∧ Sub F' (upd H T (.tup [y, x])) ∧ New F F' H ∧ d = .tuple [e, z] ∧ Dp K F' (.ref T) d := by
  have sb : Sub F (upd F T (.tup [y, x])) := sub_updF (s2.none hT)
  exact ⟨same_upd hT, upd F T _, _, sb, s2.upd2, .add hT, rfl, Dp.tup (.inl (.inl upd_same)) (.cons (dpSub sb g0) (.cons (dpSub sb g) .nil))⟩
section
variable {K : PySem.W.Frag} {F1 : Hp}
theorem itItI {d : Addr} {o : Obj} {vs : List (Key × V)} {kvs : List (Int × D)} (h : KvI K F1 vs kvs) (hd : F1 d = some (.frz o (.dK vs))) : ItOk K (Iti d o vs) F1 (itemsD (.dI kvs)) where
  go := fun i H hi s => ⟨s _ _ hd, by rw [h.len]; simpa [itemsD] using hi⟩
  stop := fun H s => ⟨s _ _ hd, by rw [h.len]; simp [itemsD]⟩
  yld := fun i H x H' F hi s1 s2 y => by
    obtain ⟨T, k, v, e, rfl, hT, rfl⟩ := y
    obtain ⟨j, dd, rfl, e2, dv⟩ := h.at_ e
    obtain ⟨p1, F', e', p2, p3, p4, rfl, p5⟩ := newPr s2 hT (.int j) (dpSub s1 dv)
    exact ⟨p1, F', _, p2, p3, p4, by simp [itemsD, e2], p5⟩
theorem itItT {d : Addr} {o : Obj} {xs : List (List Int × Addr × Value)} {vs : List V} {kvs : List (List Int × D)} (h : KvT K F1 xs kvs)
    (hv : ∀ (i : Nat) (k : List Int) (a : Addr) (u : Value) (v : V), xs[i]? = some (k, a, u) → vs[i]? = some v → ∃ dd, kvs[i]? = some (k, dd) ∧ Dp K F1 (.ref a) (.tuple (k.map .int)) ∧ Dp K F1 v dd) (hd : F1 d = some (.frz o (.ext (TbAt d xs)))) : ItOk K (ItiT d o xs vs) F1 (itemsD (.dT kvs)) where
  go := fun i H hi s => ⟨s _ _ hd, by rw [h.len]; simpa [itemsD] using hi⟩
  stop := fun H s => ⟨s _ _ hd, by rw [h.len]; simp [itemsD]⟩
  yld := fun i H x H' F hi s1 s2 y => by
    obtain ⟨T, k, a, u, v, e, ev, rfl, hT, rfl⟩ := y
    obtain ⟨dd, e2, dk, dv⟩ := hv i k a u v e ev
    obtain ⟨p1, F', e', p2, p3, p4, rfl, p5⟩ := newPr s2 hT (dpSub s1 dk) (dpSub s1 dv)
    exact ⟨p1, F', _, p2, p3, p4, by simp [itemsD, e2], p5⟩
end
theorem KvT.vals {K : PySem.W.Frag} {F : Hp} {xs : List (List Int × Addr × Value)} {kvs : List (List Int × D)} (h : KvT K F xs kvs) : ∃ vs : List V,
    (∀ (i : Nat) (k : List Int) (a : Addr) (u : Value), xs[i]? = some (k, a, u) → ∃ v, vs[i]? = some v ∧ RelV v u) ∧
    ∀ (i : Nat) (k : List Int) (a : Addr) (u : Value) (v : V), xs[i]? = some (k, a, u) → vs[i]? = some v → ∃ dd, kvs[i]? = some (k, dd) ∧ Dp K F (.ref a) (.tuple (k.map .int)) ∧ Dp K F v dd := by
  induction h with
  | nil => exact ⟨[], fun i k a u e => by simp at e, fun i k a u v e => by simp at e⟩
  | @cons j b w u' e r t a1 a2 a3 _ ih =>
    obtain ⟨vs, g1, g2⟩ := ih
    refine ⟨w :: vs, fun i k a u e => ?_, fun i k a u v e ev => ?_⟩
    · cases i with
      | zero =>
        simp only [List.getElem?_cons_zero, Option.some.injEq, Prod.mk.injEq] at e
        obtain ⟨rfl, rfl, rfl⟩ := e
        exact ⟨w, rfl, a2⟩
      | succ i => simp only [List.getElem?_cons_succ] at e ⊢; exact g1 i k a u e
    · cases i with
      | zero =>
        simp only [List.getElem?_cons_zero, Option.some.injEq, Prod.mk.injEq] at e ev
        obtain ⟨rfl, rfl, rfl⟩ := e
        subst ev
        exact ⟨_, rfl, a1, a3⟩
      | succ i => simp only [List.getElem?_cons_succ] at e ev ⊢; exact g2 i k a u v e ev
/-! ### the ground with a locked dict in it -/
section
variable {K : PySem.W.Frag} {F : Hp} {p : Addr}
/-- what stands at p is no list, no tuple -/
def NoSq (F : Hp) (p : Addr) : Prop := (∀ xs, ¬ Rd F p (.lst xs) ∧ ¬ Rd F p (.tup xs)) ∧ F p ≠ some (.dK [])
theorem rdHole {a : Addr} {u : HO} (h : Rd F a u) (ne : a ≠ p) : Rd (hole F p) a u := by
  have e : hole F p a = F a := by unfold hole; rw [if_neg ne]
  rcases h with h | ⟨o, h⟩
  · exact .inl (by rw [e]; exact h)
  · exact .inr ⟨o, by rw [e]; exact h⟩
mutual
theorem dpHole (n : NoSq F p) : ∀ {v : V} {d : D}, Dp K F v d → Dp K (hole F p) v d
  | _, _, .non => .non
  | _, _, .bl b => .bl b
  | _, _, .int i => .int i
  | _, _, .str x => .str x
  | _, _, .lst (a := a) q r => .lst (q.elim (fun q => .inl (rdHole q fun z => (n.1 _).1 (z ▸ q))) .inr) (daHole n r)
  | _, _, .dct (a := a) q => .dct (by unfold hole; rw [if_neg (fun z : a = p => n.2 (z ▸ q))]; exact q)
  | _, _, .tup (a := a) q r => .tup (q.elim (fun q => .inl (rdHole q fun z => (n.1 _).2 (z ▸ q))) .inr) (daHole n r)
theorem daHole (n : NoSq F p) : ∀ {vs : List V} {ds : List D}, DpAll K F vs ds → DpAll K (hole F p) vs ds
  | _, _, .nil => .nil
  | _, _, .cons a b => .cons (dpHole n a) (daHole n b)
end
theorem kvIHole (n : NoSq F p) {a : List (Key × V)} {c : List (Int × D)} (h : KvI K F a c) : KvI K (hole F p) a c := by
  induction h with
  | nil => exact .nil
  | cons d _ ih => exact .cons (dpHole n d) ih
theorem kvTHole (n : NoSq F p) {a : List (List Int × Addr × Value)} {c : List (List Int × D)} (h : KvT K F a c) : KvT K (hole F p) a c := by
  induction h with
  | nil => exact .nil
  | cons k r d _ ih => exact .cons (dpHole n k) r (dpHole n d) ih
theorem hole_le {a : Addr} {o : HO} (h : hole F p a = some o) : F a = some o ∧ a ≠ p := by
  unfold hole at h
  split at h
  · cases h
  · rename_i ne; exact ⟨h, ne⟩
theorem hole_ne {a : Addr} (ne : a ≠ p) : hole F p a = F a := by unfold hole; rw [if_neg ne]
end
section
variable {K : PySem.W.Frag} {H0 : Zn} {F0 F H : Hp} {σ : St} {ε : Ev}
/-- what stands at p is out of the ground -/
theorem Rep.narrow (R : Rep K H0 F0 F H σ ε) {p : Addr} (n : NoSq F p) (f0 : F0 p = none) : Rep K H0 F0 (hole F p) H σ ε where
  fh := fun a o h => R.fh a o (hole_le h).1
  ff := fun a o h => by rw [hole_ne (fun z => by rw [z, f0] at h; cases h)]; exact R.ff a o h
  h0 := R.h0
  fr := fun a o h => R.fr a o (hole_le h).1
  len := R.len
  dat := fun j x h => let ⟨v, e, d⟩ := R.dat j x h; ⟨v, e, dpHole n d⟩
  own := fun j xs h => let ⟨q, vs, e, h1, h2, h3, h4⟩ := R.own j xs h; ⟨q, vs, e, h1, daHole n h2, by
    cases z : hole F p q with
    | none => rfl
    | some o => exact absurd (hole_le z).1 (by rw [h3]; exact fun w => nomatch w), h4⟩
  uni := R.uni
  lnt := fun j xs h => let ⟨q, vs, e, h1, h2, h3, h4⟩ := R.lnt j xs h; ⟨q, vs, e, h1, daHole n h2, by
    cases z : hole F p q with
    | none => rfl
    | some o => exact absurd (hole_le z).1 (by rw [h3]; exact fun w => nomatch w), h4⟩
  one := R.one
  ll := fun a h => ⟨(R.ll a h).1, by
    cases z : hole F p a with
    | none => rfl
    | some o => exact absurd (hole_le z).1 (by rw [(R.ll a h).2]; exact fun w => nomatch w)⟩
  dcs := ⟨fun j v h c => by
    obtain ⟨q, a1, a2, a3, a4⟩ := R.dcs.at_ j v h c
    refine ⟨q, a1, ?_, ?_, a4⟩
    · cases v with
      | dI kvs => obtain ⟨vs, e1, e2⟩ := a2; exact ⟨vs, e1, kvIHole n e2⟩
      | dT kvs => obtain ⟨vs, e1, e2⟩ := a2; exact ⟨vs, e1, kvTHole n e2⟩
      | _ => exact a2.elim
    · cases z : hole F p q with
      | none => rfl
      | some o => exact absurd (hole_le z).1 (by rw [a3]; exact fun w => nomatch w), R.dcs.uni⟩
/-- a dict is locked: it is out of sight, and stands still -/
theorem Rep.lockD (R : Rep K H0 F0 F H σ ε) {j : Nat} {p : Addr} {v : Val} {u : HO} {od : Obj} (h : gv ε j = some v) (c : isDc v = true) (e : σ[j]? = some (some (.ref p))) (fp : F p = none) (np : H0.no p) (hp : H p = some u) (nl : ∀ vs, u ≠ .lst vs) :
    Rep K H0 F0 (upd F p (.frz od u)) (upd H p (.frz od u)) σ (pv ε j none) := by
  have R1 := R.forget j
  have sb : Sub F (upd F p (.frz od u)) := sub_updF fp
  have ne : ∀ {q : Addr} {vs : List V}, H q = some (.lst vs) → q ≠ p := fun {q vs} e z => nl vs (by rw [z, hp] at e; exact Option.some.inj e)
  refine ⟨R.fh.upd2, R.ff.trans sb, R.h0.upd np.1, fun a o q => ?_, R1.len, fun i x q => ?_, fun i xs q => ?_, R1.uni, fun i xs q => ?_, R1.one, fun a q => ?_, ⟨fun i w q cw => ?_, R1.dcs.uni⟩⟩
  · by_cases z : a = p
    · subst z; exact .inr np.1
    · rw [upd_ne z] at q; exact R.fr a o q
  · obtain ⟨x', e1, d1⟩ := R1.dat i x q
    exact ⟨x', e1, dpSub sb d1⟩
  · obtain ⟨q', vs, e1, h1, h2, h3, h4⟩ := R1.own i xs q
    exact ⟨q', vs, e1, by rw [upd_ne (ne h1)]; exact h1, daSub sb h2, by rw [upd_ne (ne h1)]; exact h3, h4⟩
  · obtain ⟨q', vs, e1, h1, h2, h3, h4⟩ := R1.lnt i xs q
    exact ⟨q', vs, e1, by rw [upd_ne (ne h1)]; exact h1, daSub sb h2, by rw [upd_ne (ne h1)]; exact h3, h4⟩
  · obtain ⟨⟨o, g1⟩, g2⟩ := R.ll a q
    have z : a ≠ p := fun z => np.2 (z ▸ q)
    exact ⟨⟨o, by rw [upd_ne z]; exact g1⟩, by rw [upd_ne z]; exact g2⟩
  · obtain ⟨q', a1, a2, a3, a4⟩ := R1.dcs.at_ i w q cw
    obtain ⟨q2, hi⟩ := dcGv (fun _ z => by cases z) i w q cw
    have z : q' ≠ p := fun z => hi (R.dcs.uni i j w v p q2 cw h c (by rw [← z]; exact a1) e)
    exact ⟨q', a1, a2.mono sb (fun o g => by rw [upd_ne z]; exact g), by rw [upd_ne z]; exact a3, a4⟩
end
theorem pv_back : ∀ {ε : Ev} {j : Nat} {v : Val}, gv ε j = some v → pv (pv ε j none) j (some v) = ε
  | [], _, _, h => by cases h
  | x :: r, 0, v, h => by
    have : x = some v := h
    subst this; rfl
  | x :: r, j + 1, v, h => by
    show x :: pv (pv r j none) j (some v) = _
    rw [pv_back (ε := r) (j := j) h]
theorem blind_dc : ∀ {ε : Ev} {j : Nat} {v : Val}, gv ε j = some v → isDc v = true → blind (pv ε j none) = blind ε
  | [], _, _, h, _ => by cases h
  | x :: r, 0, v, h, c => by
    have : x = some v := h
    subst this
    cases v with
    | dI _ => rfl
    | dT _ => rfl
    | _ => cases c
  | x :: r, j + 1, v, h, c => by
    have ih := blind_dc (ε := r) (j := j) h c
    cases x with
    | none => show none :: blind (pv r j none) = none :: blind r; rw [ih]
    | some w =>
      cases w with
      | d y => show some (.d y) :: blind (pv r j none) = some (.d y) :: blind r; rw [ih]
      | _ => show none :: blind (pv r j none) = none :: blind r; rw [ih]
theorem lcW_blind {t : Tg} {ε ε' : Ev} {C : Ev → (Bool → Ev → Prop) → Prop} {E : Ev → (D → Ev → Prop) → Prop} (h : blind ε' = blind ε) : ∀ (xs acc : List D) (K : List D → Prop), lcW t ε C E xs acc K = lcW t ε' C E xs acc K
  | [], _, _ => rfl
  | x :: r, acc, K => by
    unfold lcW
    rw [h]
    have ih := fun acc => lcW_blind (t := t) (C := C) (E := E) h r acc K
    congr 1
    funext ε1
    congr 1
    funext b ε2
    cases b with
    | true =>
      rw [if_pos rfl, if_pos rfl]
      congr 1
      funext y _
      rw [ih]
    | false => rw [if_neg Bool.false_ne_true, if_neg Bool.false_ne_true, ih]
section
variable {fns : List FnI} {cls : List Str} {N : List Str} {C : Nat → Addr} {Φ : Fs} {k : Nat} {X : Cx} {b : Bd} {sc : Scope}
/-- [.. for t in d.items() if c] -/
theorem dlcGo {t : Tg} {cE eE : IE} {j : Nat} {σ : St} {H : Hp} {Q : VK} {K : PySem.W.Frag} (h : rdE K b (wE Φ (.dlc t cE eE j)) σ H Q) :
    tLockE (tLc (iItemsD (tVar j)) (gTg K t) (fun σ H q => ∃ H0 F0, rdT K ⟨b.C, fun _ _ _ _ => False, H0, F0⟩ (fun ε Xp r => if isNil cE = true then r (.d (.bool true)) ε else wE Φ cE ε Xp r) σ H q)
      (fun σ H q => ∃ H0 F0, rdD K ⟨b.C, fun _ _ _ _ => False, H0, F0⟩ (wE Φ eE) σ H q) (tgs t)) σ H Q := by
  obtain ⟨ε, F, Xp, Qp, R, w, ex, kk⟩ := h
  obtain ⟨v, p, g0, gd, g2, g3, g5, g6, w⟩ := dictGo R w
  obtain ⟨u, hu, nl, nt, mu⟩ := g3.there
  refine ⟨p, u, hu, mu, fun od => ?_⟩
  have R1 := R.lockD (od := od) g0 gd g2 g5 g6 hu nl
  have sb : Sub F (upd F p (.frz od u)) := sub_updF g5
  have w1 := (lcW_blind (blind_dc g0 gd) _ _ _).mp w
  have fin : ∀ ys H' F' x, Same (upd H p (.frz od u)) H' → Sub (upd F p (.frz od u)) F' → Rep K b.H0 b.F0 F' H' σ (pv ε j none) → VAt K b.H0 F' H' σ (pv ε j none) x (.own ys) → Qp (.own ys) ε → H' p = some (.frz od u) ∧ Q x (upd H' p u) := fun ys H' F' x sm sf R2 a q => by
    have hp' : H' p = some (.frz od u) := sm _ _ upd_same
    have fp' : F' p = some (.frz od u) := sf _ _ upd_same
    have ns : NoSq F' p := ⟨fun xs => ⟨fun z => by
      rcases z with z | ⟨o, z⟩
      · rw [fp'] at z; cases z
      · rw [fp'] at z
        have := Option.some.inj z
        injection this with _ e
        exact nl xs e, fun z => by
      rcases z with z | ⟨o, z⟩
      · rw [fp'] at z; cases z
      · rw [fp'] at z
        have := Option.some.inj z
        injection this with _ e
        exact nt xs e⟩, fun z => by rw [fp'] at z; cases z⟩
    have f0 : b.F0 p = none := by
      cases z : b.F0 p with
      | none => rfl
      | some o => rw [R.ff _ _ z] at g5; cases g5
    have sb2 : Sub F (hole F' p) := fun a o z => by
      have ne : a ≠ p := fun e => by rw [e, g5] at z; cases z
      rw [hole_ne ne]
      exact sf _ _ (by rw [upd_ne ne]; exact z)
    have R3 := R2.narrow ns f0
    have hn : hole F' p p = none := by unfold hole; rw [if_pos rfl]
    have R4 : Rep K b.H0 b.F0 (hole F' p) (upd H' p u) σ ε := by
      have := R3.dcAny (σ' := σ) (j := j) (p := p) (o := u) (v := v) gd (g3.mono sb2 (fun o z => by rw [hu] at z; cases z; exact upd_same)) hn g6 (fun vs z => by rw [hp'] at z; cases z)
        (fun i w hi q cw z => by
          obtain ⟨r, a1, a2, _⟩ := R3.dcs.at_ i w q cw
          rw [z] at a1
          have : p = r := by simpa using a1
          subst this
          cases w with
          | dI _ => obtain ⟨_, e, _⟩ := a2; rw [hp'] at e; cases e
          | dT _ => obtain ⟨_, e, _⟩ := a2; rw [hp'] at e; cases e
          | _ => exact a2.elim) rfl (fun _ _ => rfl) (fun _ => g2)
      rw [pv_back g0] at this
      exact this
    refine ⟨hp', kk (.own ys) ε _ (hole F' p) x (fun a o n z => ?_) sb2 R4 ?_ q⟩
    · by_cases e : a = p
      · subst e; rw [hu] at z; cases z; exact upd_same
      · rw [upd_ne e]
        exact sm _ _ (by rw [upd_ne e]; exact z)
    · obtain ⟨r, vs, rfl, h1, h2, h3, h4, h5⟩ := a
      have ne : r ≠ p := fun z => by rw [z, hp'] at h1; cases h1
      refine ⟨r, vs, rfl, by rw [upd_ne ne]; exact h1, daHole ns h2, by rw [hole_ne ne]; exact h3, h4, fun i zs q z => ?_⟩
      have hi : i ≠ j := fun e => by rw [e, g0] at q; cases q; cases gd
      exact h5 i zs (by rw [gv_pv, if_neg hi]; exact q) z
  refine ⟨.ref p, g2, p, od, rfl, ?_⟩
  cases v with
  | dI kvs =>
    obtain ⟨vs, e, q⟩ := g3
    rw [e] at hu
    cases hu
    exact .inl ⟨vs, upd_same, lcBody (b := b) R1 (itItI (q.mono sb) upd_same) w1 fin⟩
  | dT kvs =>
    obtain ⟨xs, e, q⟩ := g3
    rw [e] at hu
    cases hu
    obtain ⟨vs, v1, v2⟩ := (q.mono sb).vals
    exact .inr ⟨xs, vs, upd_same, v1, lcBody (b := b) R1 (itItT (q.mono sb) v2 upd_same) w1 fin⟩
  | _ => cases gd
end
end Rc

/-! A comprehension that looks at a dict. -/
namespace Rc
open PySem PySem.Spec PyProof.Rows L2
theorem Rep.turnD {K : PySem.W.Frag} {H0 : Zn} {F0 F1 F2 H H' : Hp} {σ : St} {ε : Ev} {js : List Nat} {j : Nat} {p : Addr} {v : Val} (R : Rep K H0 F0 F1 H σ ε) (s : Sub F1 F2) (g : Sub F2 H') (hj : j ∉ js) (e : σ[j]? = some (some (.ref p)))
    (c : isDc v = true) (d : DcAt K F2 H' p v) (fp : F2 p = none) : Rep K (Zn.of (hole H' p)) F2 F2 H' (wipe σ js) (pv (wipeE (blind ε) js) j (some v)) := by
  have R0 := R.turn s g (js := js)
  have ej : (wipe σ js)[j]? = some (some (.ref p)) := by rw [wipe_get, if_neg hj]; exact e
  have nd : ∀ x, v ≠ .d x := fun x z => by subst z; cases c
  have no : ∀ {i : Nat} {w : Val}, gv (pv (wipeE (blind ε) js) j (some v)) i = some w → (i = j ∧ w = v) ∨ ∃ x, w = .d x ∧ gv (wipeE (blind ε) js) i = some (.d x) := fun {i w} h => by
    rw [gv_pv] at h
    split at h
    · rename_i hi
      split at h
      · cases h; exact .inl ⟨hi, rfl⟩
      · cases h
    · obtain ⟨g1, g2⟩ := wipeE_gv h
      obtain ⟨y, e, g3⟩ := blind_d g1
      cases e
      exact .inr ⟨y, rfl, h⟩
  refine ⟨g, .refl _, fun a o _ q => ?_, fun a o h => .inl h, by rw [pv_len]; exact R0.len, fun i x h => ?_, fun i ys h => ?_, fun i k xs ys r h h' => ?_, fun i ys h => ?_, fun i k xs ys r h => ?_, fun a h => h.elim, ⟨fun i w h cw => ?_, fun i k u w r h cu h' cw => ?_⟩⟩
  · have q : hole H' p a = some o := q
    exact (hole_le q).1
  · rcases no h with ⟨_, z⟩ | ⟨y, z, h2⟩
    · exact absurd z.symm (nd x)
    · cases z; exact R0.dat i x h2
  · rcases no h with ⟨_, z⟩ | ⟨y, z, h2⟩
    · subst z; cases c
    · cases z
  · rcases no h with ⟨_, z⟩ | ⟨y, z, h2⟩
    · subst z; cases c
    · cases z
  · rcases no h with ⟨_, z⟩ | ⟨y, z, h2⟩
    · subst z; cases c
    · cases z
  · rcases no h with ⟨_, z⟩ | ⟨y, z, h2⟩
    · subst z; cases c
    · cases z
  · rcases no h with ⟨hi, z⟩ | ⟨y, z, h2⟩
    · subst hi
      subst z
      exact ⟨p, ej, d, fp, by show hole H' p p = none; unfold hole; rw [if_pos rfl], fun z => z⟩
    · rw [z] at cw; cases cw
  · rcases no h with ⟨hi, z⟩ | ⟨y, z, h2⟩
    · rcases no h' with ⟨hk, z'⟩ | ⟨y, z', h2⟩
      · exact fun _ _ => by rw [hi, hk]
      · rw [z'] at cw; cases cw
    · rw [z] at cu; cases cu
section
variable {Φ : Fs} {b : Bd}
theorem lcdGo {K : PySem.W.Frag} {t : Tg} {itE cE eE : IE} {j : Nat} {σ : St} {H : Hp} {Q : VK} (h : rdE K b (wE Φ (.lcD t itE cE eE j)) σ H Q) (hj : j ∉ tgs t) :
    tLc (rdI K b (wE Φ itE)) (gTg K t)
      (fun σ H q => ∃ H0 F0, rdT K ⟨b.C, fun _ _ _ _ => False, H0, F0⟩ (fun ε Xp r => if isNil cE = true then r (.d (.bool true)) ε else wE Φ cE ε Xp r) σ H q)
      (fun σ H q => ∃ H0 F0, rdD K ⟨b.C, fun _ _ _ _ => False, H0, F0⟩ (wE Φ eE) σ H q) (tgs t) σ H Q := by
  obtain ⟨ε, F, Xp, Qp, R, w, ex, kk⟩ := h
  refine ⟨ε, F, Xp, _, R, w, ex, fun ds ε1 H1 F1 J s1 f1 R1 J1 q1 D hD => ?_⟩
  obtain ⟨v, p, g1, gc, g2, g3, g5, g6, q1⟩ := dictGo R1 q1
  obtain ⟨u, hu, nl, nt, mu⟩ := g3.there
  have pD : p ≠ D := fun z => by subst z; rw [hu] at hD; cases hD
  let L := fun (xs acc : List PyData) => lcdW t ε1 j v (fun ε2 k => if isNil cE = true then k true ε2 else wE Φ cE ε2 (fun _ _ => False) (kB k)) (fun ε2 k => wE Φ eE ε2 (fun _ _ => False) (kD k)) xs acc fun ys => Qp (.own ys) ε1
  refine ⟨fun i m H' => m = ds.length - i ∧ i ≤ ds.length ∧ ∃ F' acc vs, Sub F1 F' ∧ Same H1 H' ∧ Sub F' H' ∧ New F1 F' H1 ∧ H' D = some (.lst vs) ∧ DpAll K F' vs acc ∧ F' D = none ∧ L (ds.drop i) acc,
    ⟨ds.length, by simp, Nat.zero_le _, F1, [], [], .refl _, same_upd hD, R1.fh.upd (R1.fh.none hD), .refl, upd_same, .nil, R1.fh.none hD, q1⟩, ?_⟩
  rintro i m H' ⟨rfl, hi, F', acc, vs, a1, a2, a3, a4, a5, a6, a7, wl⟩
  by_cases hlt : i < ds.length
  · refine .inr ⟨J1.go i H' hlt (a1.trans a3), fun H'' => ∃ F'' acc vs, Sub F1 F'' ∧ Same H1 H'' ∧ Sub F'' H'' ∧ New F1 F'' H1 ∧ H'' D = some (.lst vs) ∧ DpAll K F'' vs acc ∧ F'' D = none ∧ L (ds.drop (i + 1)) acc,
      fun H'' q => ⟨ds.length - (i + 1), by omega, rfl, hlt, q⟩, fun x H2 y => ?_⟩
    obtain ⟨b1, F2, d, b2, b3, b4, b5, b6⟩ := J1.yld i H' x H2 F' hlt a1 a3 y
    have ed : ds.drop i = d :: ds.drop (i + 1) := by
      rw [List.drop_eq_getElem_cons hlt]
      have : ds[i] = d := by
        rw [List.getElem?_eq_getElem hlt] at b5
        exact Option.some.inj b5
      rw [this]
    rw [ed] at wl
    have c0 : H2 D = some (.lst vs) := b1 _ _ a5
    have c1 : H2 p = some u := b1 _ _ (a2 _ _ hu)
    have np : F2 p = none := by
      cases z : F2 p with
      | none => rfl
      | some u' =>
        rcases b4 p u' z with q | q
        · rcases a4 p u' q with q | q
          · rw [g5] at q; cases q
          · rw [hu] at q; cases q
        · rw [a2 _ _ hu] at q; cases q
    have dd : DcAt K F2 H2 p v := g3.mono (a1.trans b2) fun o z => b1 _ _ (a2 _ _ z)
    have R2 := R1.turnD (js := tgs t) (j := j) (a1.trans b2) b3 hj g2 gc dd np
    refine tgGo R2 b6 wl fun σ2 ε2 R3 ew w2 => ⟨by rw [ew, wipe_wipe], ?_⟩
    have pj : σ2[j]? = some (some (.ref p)) := by
      have e1 : (wipe σ2 (tgs t))[j]? = σ2[j]? := by rw [wipe_get, if_neg hj]
      have e2 : (wipe (wipe σ (tgs t)) (tgs t))[j]? = σ[j]? := by rw [wipe_get, if_neg hj, wipe_get, if_neg hj]
      rw [ew, e2, g2] at e1
      exact e1.symm
    have n2 : F2 D = none := by
      cases z : F2 D with
      | none => rfl
      | some u' =>
        rcases b4 D u' z with q | q
        · rw [a7] at q; cases q
        · rw [a5] at q; cases q
    -- what holds behind the test and behind the element
    have aft : ∀ {F4 H4 : Hp} {ε4 : Ev}, Rep K (Zn.of (hole H2 p)) F2 F4 H4 σ2 ε4 → F4 p = none → F4 D = none ∧ New F1 F4 H1 := fun {F4 H4 ε4} R5 k5 => by
      have fr5 : ∀ {a : Addr} {o : HO}, F4 a = some o → F2 a = some o ∨ H2 a = none := fun {a o} h => by
        rcases R5.fr a o h with q | q
        · exact .inl q
        · have q : hole H2 p a = none := q
          unfold hole at q
          split at q
          · rename_i e
            rw [e, k5] at h; cases h
          · exact .inr q
      refine ⟨?_, fun a o h => ?_⟩
      · cases z : F4 D with
        | none => rfl
        | some u' =>
          rcases fr5 z with q | q
          · rw [n2] at q; cases q
          · rw [c0] at q; cases q
      · rcases fr5 h with q | q
        · rcases b4 a o q with q | q
          · exact a4 a o q
          · exact .inr (Same.free a2 q)
        · exact .inr (Same.free (a2.trans b1) q)
    have dk : ∀ {F4 H4 : Hp} {ε4 : Ev} {k : Val → Prop}, Rep K (Zn.of (hole H2 p)) F2 F4 H4 σ2 ε4 → dictAt ε4 j k → F4 p = none ∧ ∃ v, k v := fun {F4 H4 ε4 k} R5 q5 => by
      obtain ⟨v', p', k0, k1, k2, k3, k5, k6, q5⟩ := dictGo R5 q5
      rw [k2] at pj
      have ep : p' = p := by simpa using pj
      rw [← ep]
      exact ⟨k5, v', q5⟩
    refine ⟨Zn.of (hole H2 p), F2, ε2, F2, fun _ _ => False, _, R3, cGo w2, (fun _ _ _ _ _ _ z => z.elim), fun c ε3 H3 F3 s3' f3 R4 q3 => ?_⟩
    have s3 : Same H2 H3 := fun a o q => s3' a o (fun z => z) q
    cases c with
    | false =>
      have q3 : dictAt ε3 j fun _ => L (ds.drop (i + 1)) acc := q3
      show (if (false : Bool) = true then _ else _)
      rw [if_neg Bool.false_ne_true]
      obtain ⟨k5, _, q3⟩ := dk R4 q3
      obtain ⟨m1, m2⟩ := aft R4 k5
      exact ⟨F3, acc, vs, (a1.trans b2).trans f3, (a2.trans b1).trans s3, R4.fh, m2, s3 _ _ c0, daSub (b2.trans f3) a6, m1, q3⟩
    | true =>
      rw [if_pos rfl] at q3
      show (if (true : Bool) = true then _ else _)
      rw [if_pos rfl]
      refine ⟨Zn.of (hole H2 p), F2, ε3, F3, fun _ _ => False, _, R4, q3, (fun _ _ _ _ _ _ z => z.elim), fun z ε4 H4 F4 v4 s4' f4 R5 d5 q5 => ?_⟩
      have s4 : Same H3 H4 := fun a o q => s4' a o (fun z => z) q
      obtain ⟨k5, _, q5⟩ := dk R5 q5
      obtain ⟨m1, m2⟩ := aft R5 k5
      have c4 : H4 D = some (.lst vs) := s4 _ _ (s3 _ _ c0)
      have da : DpAll K F4 vs acc := daSub ((b2.trans f3).trans f4) a6
      refine ⟨vs, c4, by rw [line24, daLen da]; exact q5.1, F4, acc ++ [z], vs ++ [v4], ((a1.trans b2).trans f3).trans f4, fun a o h => ?_, R5.fh.upd m1, m2, upd_same, daApp da (.cons d5 .nil), m1, q5.2⟩
      rw [upd_ne (ne_of_none h hD)]
      exact s4 _ _ (s3 _ _ (b1 _ _ (a2 _ _ h)))
  · have e : i = ds.length := by omega
    subst e
    refine .inl ⟨J1.stop H' (a1.trans a3), ?_⟩
    have wl : L [] acc := by rw [List.drop_length] at wl; exact wl
    exact kk (.own acc) ε1 H' F' (.ref D) (s1.trans (.of a2)) (f1.trans a1) (R1.grow a2 a1 a3 a4) ⟨D, vs, rfl, a5, a6, a7, R1.no hD, R1.offNew hD⟩ wl
end
end Rc

/-! All expressions. -/
namespace Rc
open PySem PySem.Spec PyProof.Rows L2
section
variable {fns : List FnI} {cls : List Str} {N : List Str} {C : Nat → Addr} {Φ : Fs} {k : Nat} {X : Cx} {b : Bd} {sc : Scope}
theorem ptEx {α : Type} {e : Expr} {t : α → TT} (h : ∀ a, PT X e (t a)) : PT X e (fun σ H q => ∃ a, t a σ H q) := ⟨fun pins s σ H Q I ⟨a, w⟩ => (h a).run pins s σ H Q I w⟩
theorem peEx {α : Type} {e : Expr} {t : α → TE} (h : ∀ a, PE X e (t a)) : PE X e (fun σ H q => ∃ a, t a σ H q) := ⟨fun pins s σ H Q I ⟨a, w⟩ => (h a).run pins s σ H Q I w⟩
theorem ptsImp {es : List Expr} {t t' : TT} (h : PTs X es t) (f : ∀ σ H Q, t' σ H Q → t σ H Q) : PTs X es t' := ⟨fun pins s σ H Q I w => h.run pins s σ H Q I (f _ _ _ w)⟩
theorem relS_cell {scope sc : Scope} {x : Str} (h : scope.names.lookup x = some .cell) : (relS scope sc).names.lookup x = some .cell := by
  have go : ∀ names : List (Str × NameKind), names.lookup x = some .cell → (names.map fun (n, k) => if (k == NameKind.free && sc.kind == .function && sc.names.lookup n == some .cell) then (n, NameKind.cell) else (n, k)).lookup x = some .cell := by
    intro names
    induction names with
    | nil => intro h; cases h
    | cons p r ih =>
      obtain ⟨n, k⟩ := p
      intro h
      show List.lookup x ((if (k == NameKind.free && sc.kind == .function && sc.names.lookup n == some .cell) = true then (n, NameKind.cell) else (n, k)) :: _) = _
      cases hx : x == n with
      | true =>
        simp only [List.lookup_cons, hx] at h
        cases h
        simp [List.lookup_cons, hx]
      | false =>
        simp only [List.lookup_cons, hx] at h
        by_cases hc : (k == NameKind.free && sc.kind == .function && sc.names.lookup n == some .cell) = true
        · rw [if_pos hc]; simp only [List.lookup_cons, hx]; exact ih h
        · rw [if_neg hc]; simp only [List.lookup_cons, hx]; exact ih h
  exact go scope.names h
theorem lcParts0 (ok : Cok fns cls N C Φ k X sc b.W) (hC : b.C = C) {t : Tg} {cE eE : IE} (s2 : Sn fns cls N C Φ k cE) (s3 : Sn fns cls N C Φ k eE)
    {tg e : Expr} {ifs : List Expr} {scope : Scope} (h3 : tgB (blB scope sc) N t tg = true) (h4 : blkC N sc scope (tgOwn t tg) = true)
    (h5 : ifsB (isNil cE) ifs (fun f => chk fns N cE (relS scope sc) [f]) = true) (h6 : chk fns N eE (relS scope sc) [e] = true) :
    BlkOk X.N X.env.scope scope (tgOwn t tg) ∧
    (∀ (s : Shared) (H : Hp) (D : Addr) (cl : List (Str × Addr)) (fp : List Addr), PG (X.blk s H scope (compEnvC scope cl D X.env) fp) tg (gTg X.K t)) ∧
    (∀ (s : Shared) (H : Hp) (D : Addr) (cl : List (Str × Addr)) (fp : List Addr), PTs (X.blk s H scope (compEnvC scope cl D X.env) fp) ifs
      (fun σ H q => ∃ H0 F0, rdT X.K ⟨b.C, fun _ _ _ _ => False, H0, F0⟩ (fun ε Xp r => if isNil cE = true then r (.d (.bool true)) ε else wE Φ cE ε Xp r) σ H q)) ∧
    (∀ (s : Shared) (H : Hp) (D : Addr) (cl : List (Str × Addr)) (fp : List Addr), PE (X.blk s H scope (compEnvC scope cl D X.env) fp) e
      (fun σ H q => ∃ H0 F0, rdD X.K ⟨b.C, fun _ _ _ _ => False, H0, F0⟩ (wE Φ eE) σ H q)) := by
  have blk := fun (s : Shared) (H : Hp) (D : Addr) (cl : List (Str × Addr)) (fp : List Addr) => ok.blk s H scope D cl fp
  have hlc : ∀ (X' : Cx), X'.env.scope = relS scope sc → (∀ x, X'.fn x = (scope.names.lookup x == some .cell)) → ∀ x, blB scope sc x = true → Loc X'.env.scope x ∧ (X'.fn x = true ∨ X'.env.scope.names.lookup x = some .local) := fun X' he hf x hx => by
    unfold blB at hx
    rw [Bool.or_eq_true] at hx
    rcases hx with hx | hx
    · have q := lclB_of hx
      rw [he]
      exact ⟨.inl q, .inr q⟩
    · have q : (relS scope sc).names.lookup x = some .cell := relS_cell (by simpa using hx)
      rw [he]
      exact ⟨.inr q, .inl (by rw [hf]; exact hx)⟩
  refine ⟨blkOk_by (by rw [ok.eN, ok.esc]; exact h4), fun s H D cl fp => ?_, fun s H D cl fp => ?_, fun s H D cl fp => ?_⟩
  · refine pgTg (X := X.blk s H scope (compEnvC scope cl D X.env) fp) ok.nd ok.calm (hlc _ (blk s H D cl fp).esc fun _ => rfl) ?_
    show tgB _ X.N t tg = true
    rw [ok.eN]; exact h3
  · cases ifs with
    | nil =>
      refine ptsImp pts_nil fun σ H Q ⟨H0, F0, ε, F, Xp, Qp, R, w, ex, kk⟩ => ?_
      have e0 : isNil cE = true := h5
      have w' : (if isNil cE = true then kB Qp (.d (.bool true)) ε else wE Φ cE ε Xp (kB Qp)) := w
      rw [if_pos e0] at w'
      exact kk true ε H F (.refl _) (.refl _) R w'
    | cons f r =>
      cases r with
      | nil =>
        have h5' : (!isNil cE && chk fns N cE (relS scope sc) [f]) = true := h5
        rw [Bool.and_eq_true, Bool.not_eq_true'] at h5'
        refine ptsImp (pts_one (ptEx fun H0 => ptEx fun F0 => s2.t ⟨b.C, fun _ _ _ _ => False, H0, F0⟩ _ (relS scope sc) hC (blk s H D cl fp) f h5'.2)) fun σ H Q ⟨H0, F0, ε, F, Xp, Qp, R, w, ex, kk⟩ => ?_
        have w' : (if isNil cE = true then kB Qp (.d (.bool true)) ε else wE Φ cE ε Xp (kB Qp)) := w
        rw [if_neg (by rw [h5'.1]; exact Bool.false_ne_true)] at w'
        exact ⟨H0, F0, ε, F, Xp, Qp, R, w', ex, kk⟩
      | cons _ _ => exact absurd h5 Bool.false_ne_true
  · exact peEx fun H0 => peEx fun F0 => peD (s3.e ⟨b.C, fun _ _ _ _ => False, H0, F0⟩ _ (relS scope sc) hC (blk s H D cl fp) e h6)

theorem lcParts (ok : Cok fns cls N C Φ k X sc b.W) (hC : b.C = C) {t : Tg} {itE cE eE : IE} (s1 : Sn fns cls N C Φ k itE) (s2 : Sn fns cls N C Φ k cE) (s3 : Sn fns cls N C Φ k eE)
    {tg iter e : Expr} {ifs : List Expr} {scope : Scope} (h1 : isIt itE = true) (h2 : chk fns N itE sc [iter, tg] = true) (h3 : tgB (blB scope sc) N t tg = true) (h4 : blkC N sc scope (tgOwn t tg) = true)
    (h5 : ifsB (isNil cE) ifs (fun f => chk fns N cE (relS scope sc) [f]) = true) (h6 : chk fns N eE (relS scope sc) [e] = true) :
    PI X tg iter (rdI X.K b (wE Φ itE)) ∧ BlkOk X.N X.env.scope scope (tgOwn t tg) ∧
    (∀ (s : Shared) (H : Hp) (D : Addr) (cl : List (Str × Addr)) (fp : List Addr), PG (X.blk s H scope (compEnvC scope cl D X.env) fp) tg (gTg X.K t)) ∧
    (∀ (s : Shared) (H : Hp) (D : Addr) (cl : List (Str × Addr)) (fp : List Addr), PTs (X.blk s H scope (compEnvC scope cl D X.env) fp) ifs
      (fun σ H q => ∃ H0 F0, rdT X.K ⟨b.C, fun _ _ _ _ => False, H0, F0⟩ (fun ε Xp r => if isNil cE = true then r (.d (.bool true)) ε else wE Φ cE ε Xp r) σ H q)) ∧
    (∀ (s : Shared) (H : Hp) (D : Addr) (cl : List (Str × Addr)) (fp : List Addr), PE (X.blk s H scope (compEnvC scope cl D X.env) fp) e
      (fun σ H q => ∃ H0 F0, rdD X.K ⟨b.C, fun _ _ _ _ => False, H0, F0⟩ (wE Φ eE) σ H q)) := ⟨s1.i b X sc hC ok h1 iter tg h2, lcParts0 ok hC s2 s3 h3 h4 h5 h6⟩
theorem eLc (ok : Cok fns cls N C Φ k X sc b.W) (hC : b.C = C) {t : Tg} {itE cE eE : IE} (s1 : Sn fns cls N C Φ k itE) (s2 : Sn fns cls N C Φ k cE) (s3 : Sn fns cls N C Φ k eE)
    {tg iter e : Expr} {ifs : List Expr} {scope : Scope} {p : Pos} (h1 : isIt itE = true) (h2 : chk fns N itE sc [iter, tg] = true) (h3 : tgB (blB scope sc) N t tg = true) (h4 : blkC N sc scope (tgOwn t tg) = true)
    (h5 : ifsB (isNil cE) ifs (fun f => chk fns N cE (relS scope sc) [f]) = true) (h6 : chk fns N eE (relS scope sc) [e] = true) (h7 : plainE iter = true) :
    PE X (.ListComp e [⟨tg, iter, ifs, 0⟩] scope p) (rdE X.K b (wE Φ (.lc t itE cE eE))) := by
  refine peImp ?_ fun σ H Q h => lcGo h
  rw [← tgOwn_ix h3]
  obtain ⟨q1, q2, q3, q4, q5⟩ := lcParts ok hC s1 s2 s3 h1 h2 h3 h4 h5 h6
  exact pe_lc ok.calm ok.nd q1 q2 q3 q4 q5 (fun x => noFold h7)

/-! ### iterables -/
theorem iSeqGo (h : PE X e (rdE X.K b (wE Φ i))) {tg : Expr} : PI X tg e (rdI X.K b (wE Φ (.itv i))) :=
  piImp (pi_seq (peD h)) fun σ H R ⟨ε, F, Xp, Qp, RR, w, ex, kk⟩ => by
    refine ⟨ε, F, Xp, _, RR, w, ex, fun d ε1 H1 F1 x s1 f1 R1 d1 q1 => ?_⟩
    cases d with
    | list xs =>
      obtain ⟨a, vs, rfl, r1, a1⟩ := dpLst d1
      exact ⟨a, vs, rfl, .inl ⟨sqlSub R1.fh r1, kk xs ε1 H1 F1 _ s1 f1 R1 (itList r1 a1) q1⟩⟩
    | tuple xs =>
      obtain ⟨a, vs, rfl, r1, a1⟩ := dpTup d1
      exact ⟨a, vs, rfl, .inr ⟨(sqtSub R1.fh r1), kk xs ε1 H1 F1 _ s1 f1 R1 (itTup r1 a1) q1⟩⟩
    | _ => exact q1.elim
theorem eLcO (ok : Cok fns cls N C Φ k X sc b.W) (hC : b.C = C) {t : Tg} {j : Nat} {cE eE : IE} (s2 : Sn fns cls N C Φ k cE) (s3 : Sn fns cls N C Φ k eE)
    {tg e : Expr} {ifs : List Expr} {scope : Scope} {p q : Pos} {y : Str} (h1 : (nmB N j y && visB sc y) = true) (h3 : tgB (blB scope sc) N t tg = true) (h4 : blkC N sc scope (tgOwn t tg) = true)
    (h5 : ifsB (isNil cE) ifs (fun f => chk fns N cE (relS scope sc) [f]) = true) (h6 : chk fns N eE (relS scope sc) [e] = true) :
    PE X (.ListComp e [⟨tg, .Name y q, ifs, 0⟩] scope p) (rdE X.K b (wE Φ (.lcO t j cE eE))) := by
  have base : PE X (.ListComp e [⟨tg, .Name y q, ifs, 0⟩] scope p) (rdE X.K b (wE Φ (.lc t (.itv (.var j)) cE eE))) := by
    refine peImp ?_ fun σ H Q h => lcGo h
    rw [← tgOwn_ix h3]
    obtain ⟨q2, q3, q4, q5⟩ := lcParts0 ok hC s2 s3 h3 h4 h5 h6
    exact pe_lc ok.calm ok.nd (iSeqGo (eVar ok h1)) q2 q3 q4 q5 (fun x => noFold rfl)
  refine peImp base fun σ H Q ⟨ε, F, Xp, Qp, R, w, ex, kk⟩ => ?_
  have w : ownAt ε j fun L => lcW t (pv ε j (some (.d (.list L)))) (fun ε2 k => if isNil cE = true then k true ε2 else wE Φ cE ε2 (fun _ _ => False) (kB k)) (fun ε2 k => wE Φ eE ε2 (fun _ _ => False) (kD k)) L [] fun ys => noLs ys = true ∧ ntF ε ∧ Qp (.own ys) ε := w
  obtain ⟨L, r0, vs0, g, e0, h1', h2', h3', h4', w⟩ := ownGoK R w
  obtain ⟨v, F1, e1, f1, R1, d1, r, vs, rfl, hF1⟩ := R.stillX g
  obtain rfl := refEq e0 e1
  have gl := gv_lt g
  have g1 : gv (pv ε j (some (.d (.list L)))) j = some (.d (.list L)) := by rw [gv_pv, if_pos rfl, if_pos gl]
  have pp : pv (pv ε j (some (.d (.list L)))) j (some (.d (.list L))) = pv ε j (some (.d (.list L))) := by
    have go : ∀ (ε : Ev) (j : Nat) (o : Option Val), pv (pv ε j o) j o = pv ε j o := by
      intro ε
      induction ε with
      | nil => intro j o; rfl
      | cons x r ih =>
        intro j o
        cases j with
        | zero => rfl
        | succ j => show x :: pv (pv r j o) j o = x :: pv r j o; rw [ih]
    exact go _ _ _
  refine ⟨pv ε j (some (.d (.list L))), F1, Xp, fun v ε' => ∃ ys, v = .own ys ∧ ε' = pv ε j (some (.d (.list L))) ∧ noLs ys = true ∧ ntF ε ∧ Qp (.own ys) ε, R1, ?_, ex, fun v ε' H' F' x s f R' a q => ?_⟩
  · show (match gv (pv ε j (some (.d (.list L)))) j with
      | some (.d x) => _
      | some (.own xs) => _
      | _ => False)
    rw [g1]
    have eK : (fun ys => ∃ ys', Val.own ys = .own ys' ∧ pv ε j (some (.d (.list L))) = pv ε j (some (.d (.list L))) ∧ noLs ys' = true ∧ ntF ε ∧ Qp (.own ys') ε) = fun ys => noLs ys = true ∧ ntF ε ∧ Qp (.own ys) ε := by
      funext ys
      refine propext ⟨fun ⟨ys', e, _, z⟩ => ?_, fun z => ⟨ys, rfl, rfl, z⟩⟩
      cases e
      exact z
    rw [← eK] at w
    exact w
  · obtain ⟨ys, rfl, rfl, nl, nt, qq⟩ := q
    have fp := f _ _ hF1
    obtain ⟨R2, f2⟩ := R.thaw nt g e1 s (f1.trans f) R'
    obtain ⟨D, us, rfl, k1, k2, k3, k4, k5⟩ := a
    refine kk (.own ys) ε H' _ (.ref D) s f2 R2 ⟨D, us, rfl, k1, (noLHole fp).2 nl k2, ?_, k4, fun i zs q z => ?_⟩ qq
    · unfold hole
      split
      · rfl
      · exact k3
    · by_cases ij : i = j
      · subst ij
        obtain rfl := refEq e1 z
        rw [fp] at k3; cases k3
      · exact k5 i zs (by rw [gv_pv, if_neg ij]; exact q) z
theorem iEnmGo (ok : Cok fns cls N C Φ k X sc b.W) {i : IE} {e tg : Expr} {x : Str} {p pos : Pos} (h : PE X e (rdE X.K b (wE Φ i))) (hx : x = "enumerate") (hg : glB sc x = true) (he : plainE e = true) (ht : isTup tg = true) :
    PI X tg (.Call (.Name x p) [e] [] pos) (rdI X.K b (wE Φ (.enm i))) := by
  subst hx
  cases tg with
  | Tuple es n q =>
    refine piImp (pi_enumA (glB_of ok hg) (ok.blt _ (by decide)) (peD h) he) fun σ H R ⟨ε, F, Xp, Qp, RR, w, ex, kk⟩ => ?_
    refine ⟨ε, F, Xp, _, RR, w, ex, fun d ε1 H1 F1 x s1 f1 R1 d1 q1 => ?_⟩
    cases d with
    | list xs =>
      obtain ⟨a, vs, rfl, r1, a1⟩ := dpLst d1
      exact ⟨a, vs, rfl, .inl ⟨sqlSub R1.fh r1, kk _ ε1 H1 F1 _ s1 f1 R1 (itEnum r1 a1) q1⟩⟩
    | tuple xs =>
      obtain ⟨a, vs, rfl, r1, a1⟩ := dpTup d1
      exact ⟨a, vs, rfl, .inr ⟨(sqtSub R1.fh r1), kk _ ε1 H1 F1 _ s1 f1 R1 (itEnumT r1 a1) q1⟩⟩
    | _ => exact q1.elim
  | _ => exact absurd ht Bool.false_ne_true
theorem iRevGo (ok : Cok fns cls N C Φ k X sc b.W) {i : IE} {e tg : Expr} {x : Str} {p pos : Pos} (h : PE X e (rdE X.K b (wE Φ i))) (hx : x = "reversed") (hg : glB sc x = true) (he : plainE e = true) :
    PI X tg (.Call (.Name x p) [e] [] pos) (rdI X.K b (wE Φ (.rvd i))) := by
  subst hx
  refine piImp (RT.pi_revA (glB_of ok hg) (ok.blt _ (by decide)) (peD h) (starOf he)) fun σ H R ⟨ε, F, Xp, Qp, RR, w, ex, kk⟩ => ?_
  refine ⟨ε, F, Xp, _, RR, w, ex, fun d ε1 H1 F1 x s1 f1 R1 d1 q1 => ?_⟩
  cases d with
  | list xs =>
    obtain ⟨a, vs, rfl, r1, a1⟩ := dpLst d1
    exact ⟨a, vs, rfl, .inl ⟨sqlSub R1.fh r1, kk _ ε1 H1 F1 _ s1 f1 R1 (itRev r1 a1) q1⟩⟩
  | tuple xs =>
    obtain ⟨a, vs, rfl, r1, a1⟩ := dpTup d1
    exact ⟨a, vs, rfl, .inr ⟨(sqtSub R1.fh r1), kk _ ε1 H1 F1 _ s1 f1 R1 (itRevT r1 a1) q1⟩⟩
  | _ => exact q1.elim
theorem iRng1Go (ok : Cok fns cls N C Φ k X sc b.W) {i : IE} {tg e : Expr} {x : Str} {p pos : Pos} (h : PE X e (rdE X.K b (wE Φ i))) (hx : x = "range") (hg : glB sc x = true) (he : plainE e = true) :
    PI X tg (.Call (.Name x p) [e] [] pos) (rdI X.K b (wE Φ (.rng1 i))) := by
  subst hx
  have z := starOf (es := []) (env := X.env) he
  refine piImp (pi_range1 (glB_of ok hg) (ok.blt _ (by decide)) (pa_cons (peD h) pa_nil z) z) fun σ H R ⟨ε, F, Xp, Qp, RR, w, ex, kk⟩ => ?_
  refine ⟨ε, F, Xp, _, RR, w, ex, fun d ε1 H1 F1 v s1 f1 R1 d1 q1 => ?_⟩
  cases d with
  | int n =>
    cases dpInt d1
    refine ⟨n, rfl, q1.1.2, q1.1.1, kk _ ε1 H1 F1 _ s1 f1 R1 ?_ q1.2⟩
    simpa using itRng1 (K := X.K) (F1 := F1) (lo := 0) (n := n.toNat)
  | _ => exact q1.elim
theorem iRng2Go (ok : Cok fns cls N C Φ k X sc b.W) {i j : IE} {tg e f : Expr} {x : Str} {p pos : Pos} (h : PE X e (rdE X.K b (wE Φ i))) (h2 : PE X f (rdE X.K b (wE Φ j))) (hx : x = "range") (hg : glB sc x = true) (he : plainE e = true) (hf : plainE f = true) :
    PI X tg (.Call (.Name x p) [e, f] [] pos) (rdI X.K b (wE Φ (.rng2 i j))) := by
  subst hx
  have z := starOf (es := [f]) (env := X.env) he
  have z2 := starOf (es := []) (env := X.env) hf
  refine piImp (pi_range2 (glB_of ok hg) (ok.blt _ (by decide)) (pa_cons (peD h) (pa_cons (peD h2) pa_nil z2) z) (by rw [z, z2]; rfl) z2) fun σ H R ⟨ε, F, Xp, Qp, RR, w, ex, kk⟩ => ?_
  refine ⟨ε, F, Xp, _, RR, w, ex, fun d ε1 H1 F1 v s1 f1 R1 d1 q1 => ⟨ε1, F1, Xp, _, R1, q1, ex.mono s1, fun e ε2 H2 F2 u s2 f2 R2 d2 q2 => ?_⟩⟩
  cases d with
  | int n =>
    cases e with
    | int m =>
      cases dpInt d1; cases dpInt d2
      exact ⟨n, m, rfl, q2.1, kk _ ε2 H2 F2 _ (s1.trans s2) (f1.trans f2) R2 itRng1 q2.2⟩
    | _ => exact q2.elim
  | _ => exact q2.elim
theorem iRngdGo (ok : Cok fns cls N C Φ k X sc b.W) {i j : IE} {tg e f : Expr} {x : Str} {n : Nat} {p pos p1 p2 : Pos} (h : PE X e (rdE X.K b (wE Φ i))) (h2 : PE X f (rdE X.K b (wE Φ j))) (hx : x = "range") (hg : glB sc x = true) (he : plainE e = true) (hf : plainE f = true) :
    PI X tg (.Call (.Name x p) [e, f, .UnaryOp .USub (.Constant (.int 1) n p1) p2] [] pos) (rdI X.K b (wE Φ (.rngd i j))) := by
  subst hx
  have z := starOf (es := [f, .UnaryOp .USub (.Constant (.int 1) n p1) p2]) (env := X.env) he
  have z2 := starOf (es := [.UnaryOp .USub (.Constant (.int 1) n p1) p2]) (env := X.env) hf
  have hm : PE X (.UnaryOp .USub (.Constant (.int 1) n p1) p2) (tC (.int (-1))) := peImp (pe_un un_neg pe_int) fun σ H Q q => ⟨1, rfl, q⟩
  refine piImp (pi_range3 (glB_of ok hg) (ok.blt _ (by decide)) (pa_cons (peD h) (pa_cons (peD h2) (pa_cons hm pa_nil) z2) z) z (by rw [z2]; rfl)) fun σ H R ⟨ε, F, Xp, Qp, RR, w, ex, kk⟩ => ?_
  refine ⟨ε, F, Xp, _, RR, w, ex, fun d ε1 H1 F1 v s1 f1 R1 d1 q1 => ⟨ε1, F1, Xp, _, R1, q1, ex.mono s1, fun e ε2 H2 F2 u s2 f2 R2 d2 q2 => ?_⟩⟩
  cases d with
  | int a =>
    cases e with
    | int m =>
      cases dpInt d1; cases dpInt d2
      obtain ⟨⟨g1, g2, g3, g4⟩, q3⟩ := q2
      refine ⟨a, m, -1, (a - m).toNat, rfl, RgC.neg g1 g2 g3 g4, kk _ ε2 H2 F2 _ (s1.trans s2) (f1.trans f2) R2 ?_ q3⟩
      have q := itRng (K := X.K) (F1 := F2) (lo := a) (c := -1) (n := (a - m).toNat)
      have e1 : (fun (i : Nat) => (PyData.int (a + (i : Int) * (-1)) : D)) = fun (i : Nat) => .int (a - i) := by
        funext i
        congr 1
        omega
      rw [e1] at q
      exact q
    | _ => exact q2.elim
  | _ => exact q2.elim
/-! ### all -/
theorem tIte {c i j : IE} {t x y : Expr} {p : Pos} (h0 : PT X t (rdT X.K b (wE Φ c))) (h1 : PT X x (rdT X.K b (wE Φ i))) (h2 : PT X y (rdT X.K b (wE Φ j))) :
    PT X (.IfExp t x y p) (rdT X.K b (wE Φ (.ite c i j))) := by
  refine ⟨fun pins s σ H Q I ⟨ε, F, Xp, Qp, R, w, ex, kk⟩ => isTrue_IfExp ?_⟩
  have go : rdT X.K b (wE Φ c) σ H fun d H1 => if d = true then rdT X.K b (wE Φ i) σ H1 Q else rdT X.K b (wE Φ j) σ H1 Q := by
    refine ⟨ε, F, Xp, _, R, w, ex, fun d ε1 H1 F1 s1 f1 R1 q1 => ?_⟩
    cases d with
    | false => exact ⟨ε1, F1, Xp, Qp, R1, q1, ex.mono s1, fun v ε2 H2 F2 s2 f2 R2 q => kk v ε2 H2 F2 (s1.trans s2) (f1.trans f2) R2 q⟩
    | true => exact ⟨ε1, F1, Xp, Qp, R1, q1, ex.mono s1, fun v ε2 H2 F2 s2 f2 R2 q => kk v ε2 H2 F2 (s1.trans s2) (f1.trans f2) R2 q⟩
  refine thn (h0.run pins s σ H _ I go) fun d s1 ⟨H1, I1, q1⟩ => ?_
  cases d with
  | true => exact h1.run pins s1 σ H1 Q I1 q1
  | false => exact h2.run pins s1 σ H1 Q I1 q1
theorem plnName {x : Str} {p : Pos} : Pln X (.Name x p) := fun _ => rfl
theorem aNil (X : Cx) : PA X [] (rdA X.K b (wE Φ .nil)) := paImp pa_nil fun σ H Q ⟨ε, F, Xp, Qp, R, w, ex, kk⟩ => kk [] ε H F [] (.refl _) (.refl _) R .nil w
theorem aNilP (X : Cx) : PA X [] (rdAP X.K b (wE Φ .nil)) := paImp pa_nil fun σ H Q ⟨ε, F, Xp, Qp, R, w, ex, kk⟩ => kk [] ε H F F [] (.refl _) (.refl _) R ⟨.refl _, R.fh, fun _ _ h => .inl h⟩ .nil w
theorem aCons {i j : IE} {e : Expr} {es : List Expr} (h : PE X e (rdE X.K b (wE Φ i))) (hr : PA X es (rdA X.K b (wE Φ j))) (he : plainE e = true) : PA X (e :: es) (rdA X.K b (wE Φ (.cons i j))) :=
  paImp (pa_cons (peD h) hr (starOf he)) fun σ H Q ⟨ε, F, Xp, Qp, R, w, ex, kk⟩ =>
    ⟨ε, F, Xp, _, R, w, ex, fun d ε1 H1 F1 x s1 f1 R1 d1 q1 => ⟨ε1, F1, Xp, _, R1, q1, ex.mono s1, fun ds ε2 H2 F2 xs s2 f2 R2 d2 q2 =>
      kk (d :: ds) ε2 H2 F2 (x :: xs) (s1.trans s2) (f1.trans f2) R2 (.cons (dpSub f2 d1) d2) q2⟩⟩
theorem patL {K : PySem.W.Frag} {Z : Zn} {F F1 H : Hp} {v : V} {x : D} (l : Lsts Z F F1 H) (h : PAt K Z F H v x) : ∃ F2, Lsts Z F F2 H ∧ Sub F1 F2 ∧ Dp K F2 v x := by
  rcases h with h | ⟨p, vs, xs, rfl, rfl, h1, h2, h3⟩
  · exact ⟨F1, l, .refl _, dpSub l.1 h⟩
  · have sb : Sub F1 (upd F1 p (.lst vs)) := fun a o q => by
      by_cases e : a = p
      · subst e
        rw [l.2.1 _ _ q] at h1
        cases h1
        exact upd_same
      · rw [upd_ne e]; exact q
    refine ⟨upd F1 p (.lst vs), ⟨l.1.trans sb, fun a o q => ?_, fun a o q => ?_⟩, sb, .lst (.inl (.inl upd_same)) (daSub (l.1.trans sb) h2)⟩
    · by_cases e : a = p
      · subst e; rw [upd_same] at q; rw [← q]; exact h1
      · rw [upd_ne e] at q; exact l.2.1 _ _ q
    · by_cases e : a = p
      · subst e; rw [upd_same] at q; cases q; exact .inr ⟨⟨vs, rfl⟩, h3⟩
      · rw [upd_ne e] at q; exact l.2.2 _ _ q
theorem aConsP {i j : IE} {e : Expr} {es : List Expr} (h : PE X e (rdP X.K b (fun ε Xp q => pkW i ε (fun T => wE Φ i ε Xp T) q))) (hr : PA X es (rdAP X.K b (wE Φ j))) (he : plainE e = true) : PA X (e :: es) (rdAP X.K b (wE Φ (.consP i j))) :=
  paImp (pa_cons h hr (starOf he)) fun σ H Q ⟨ε, F, Xp, Qp, R, w, ex, kk⟩ =>
    ⟨ε, F, Xp, _, R, w, ex, fun d ε1 H1 F1 x s1 f1 R1 d1 q1 => ⟨ε1, F1, Xp, _, R1, q1, ex.mono s1, fun ds ε2 H2 F2 G2 xs s2 f2 R2 l2 d2 q2 =>
      let ⟨G3, l3, g3, d3⟩ := patL l2 (PAt.mono f2 s2 d1)
      kk (d :: ds) ε2 H2 F2 G3 (x :: xs) (s1.trans s2) (f1.trans f2) R2 l3 (.cons d3 (daSub g3 d2)) q2⟩⟩
theorem snNil : Sn fns cls N C Φ k .nil := by
  refine ⟨fun b X sc hC ok e hc => ?_, fun b X sc hC ok e hc => ?_, fun b X sc hC ok op es pos hc => ?_, fun b X sc hC ok hl es hc => ?_, fun b X sc hC ok hl es hc => ?_, fun b X sc hC ok hl => ?_⟩
  · exact absurd hc Bool.false_ne_true
  · exact absurd hc Bool.false_ne_true
  · exact absurd hc Bool.false_ne_true
  · cases es with
    | nil => exact aNil X
    | cons _ _ => exact absurd hc Bool.false_ne_true
  · cases es with
    | nil => exact aNilP X
    | cons _ _ => exact absurd hc Bool.false_ne_true
  · exact absurd hl Bool.false_ne_true
theorem lclParts (ok : Cok fns cls N C Φ k X sc b.W) (hC : b.C = C) {t : Tg} {itE eE : IE} (s1 : Sn fns cls N C Φ k itE) (s3 : Sn fns cls N C Φ k eE)
    {tg iter e : Expr} {scope : Scope} (h1 : isIt itE = true) (h2 : chk fns N itE sc [iter, tg] = true) (h3 : tgB (blB scope sc) N t tg = true) (h4 : blkC N sc scope (tgOwn t tg) = true) (h6 : chk fns N eE (relS scope sc) [e] = true) :
    PI X tg iter (rdI X.K b (wE Φ itE)) ∧ BlkOk X.N X.env.scope scope (tgOwn t tg) ∧
    (∀ (s : Shared) (H : Hp) (D : Addr) (cl : List (Str × Addr)) (fp : List Addr), PG (X.blk s H scope (compEnvC scope cl D X.env) fp) tg (gTg X.K t)) ∧
    (∀ (s : Shared) (H : Hp) (D : Addr) (cl : List (Str × Addr)) (fp : List Addr), PTs (X.blk s H scope (compEnvC scope cl D X.env) fp) [] (fun σ H q => q true H)) ∧
    (∀ (s : Shared) (H : Hp) (D : Addr) (cl : List (Str × Addr)) (fp : List Addr), PE (X.blk s H scope (compEnvC scope cl D X.env) fp) e
      (fun σ H q => ∃ H0 F0, rdD X.K ⟨b.C, fun _ _ _ _ => False, H0, F0⟩ (wE Φ eE) σ H q)) := by
  obtain ⟨q1, q2, q3, _, q5⟩ := lcParts (cE := .nil) (ifs := []) ok hC s1 snNil s3 h1 h2 h3 h4 rfl h6
  exact ⟨q1, q2, q3, fun s H D cl fp => pts_nil, q5⟩
theorem eLcL (ok : Cok fns cls N C Φ k X sc b.W) (hC : b.C = C) {t : Tg} {itE eE : IE} {j : Nat} (s1 : Sn fns cls N C Φ k itE) (s3 : Sn fns cls N C Φ k eE)
    {tg iter e : Expr} {scope : Scope} {p : Pos} (h1 : isIt itE = true) (h2 : chk fns N itE sc [iter, tg] = true) (h3 : tgB (blB scope sc) N t tg = true) (h4 : blkC N sc scope (tgOwn t tg) = true)
    (hj : (tgs t).contains j = false) (h6 : chk fns N eE (relS scope sc) [e] = true) (h7 : plainE iter = true) :
    PE X (.ListComp e [⟨tg, iter, [], 0⟩] scope p) (rdE X.K b (wE Φ (.lcL t itE eE j))) := by
  refine peImp ?_ fun σ H Q h => lclGo h (fun z => by rw [List.contains_iff_mem.mpr z] at hj; cases hj)
  rw [← tgOwn_ix h3]
  obtain ⟨q1, q2, q3, q4, q5⟩ := lclParts ok hC s1 s3 h1 h2 h3 h4 h6
  exact pe_lc ok.calm ok.nd q1 q2 q3 q4 q5 (fun x => noFold h7)
theorem eLcK (ok : Cok fns cls N C Φ k X sc b.W) (hC : b.C = C) {t : Tg} {itE eE : IE} {j : Nat} (s1 : Sn fns cls N C Φ k itE) (s3 : Sn fns cls N C Φ k eE)
    {tg iter e : Expr} {scope : Scope} {p : Pos} (h1 : isIt itE = true) (h2 : chk fns N itE sc [iter, tg] = true) (h3 : tgB (blB scope sc) N t tg = true) (h4 : blkC N sc scope (tgOwn t tg) = true)
    (hj : (tgs t).contains j = false) (h6 : chk fns N eE (relS scope sc) [e] = true) (h7 : plainE iter = true) :
    PE X (.ListComp e [⟨tg, iter, [], 0⟩] scope p) (rdE X.K b (wE Φ (.lcK t itE eE j))) := by
  refine peImp ?_ fun σ H Q h => lckGo h (fun z => by rw [List.contains_iff_mem.mpr z] at hj; cases hj)
  rw [← tgOwn_ix h3]
  obtain ⟨q1, q2, q3, q4, q5⟩ := lclParts ok hC s1 s3 h1 h2 h3 h4 h6
  exact pe_lc ok.calm ok.nd q1 q2 q3 q4 q5 (fun x => noFold h7)

theorem eLcD (ok : Cok fns cls N C Φ k X sc b.W) (hC : b.C = C) {t : Tg} {itE cE eE : IE} {j : Nat} (s1 : Sn fns cls N C Φ k itE) (s2 : Sn fns cls N C Φ k cE) (s3 : Sn fns cls N C Φ k eE)
    {tg iter e : Expr} {ifs : List Expr} {scope : Scope} {p : Pos} (h1 : isIt itE = true) (h2 : chk fns N itE sc [iter, tg] = true) (h3 : tgB (blB scope sc) N t tg = true) (h4 : blkC N sc scope (tgOwn t tg) = true)
    (hj : (tgs t).contains j = false) (h5 : ifsB (isNil cE) ifs (fun f => chk fns N cE (relS scope sc) [f]) = true) (h6 : chk fns N eE (relS scope sc) [e] = true) (h7 : plainE iter = true) :
    PE X (.ListComp e [⟨tg, iter, ifs, 0⟩] scope p) (rdE X.K b (wE Φ (.lcD t itE cE eE j))) := by
  refine peImp ?_ fun σ H Q h => lcdGo h (fun z => by rw [List.contains_iff_mem.mpr z] at hj; cases hj)
  rw [← tgOwn_ix h3]
  obtain ⟨q1, q2, q3, q4, q5⟩ := lcParts ok hC s1 s2 s3 h1 h2 h3 h4 h5 h6
  exact pe_lc ok.calm ok.nd q1 q2 q3 q4 q5 (fun x => noFold h7)
theorem eDlc (ok : Cok fns cls N C Φ k X sc b.W) (hC : b.C = C) {t : Tg} {cE eE : IE} {j : Nat} (s2 : Sn fns cls N C Φ k cE) (s3 : Sn fns cls N C Φ k eE)
    {tg e : Expr} {ifs : List Expr} {scope : Scope} {y : Str} {p p2 p3 q : Pos} (h1 : (nmB N j y && visB sc y) = true) (hl : (q.endLine == p3.line) = true) (ht : isTup tg = true) (h3 : tgB (blB scope sc) N t tg = true) (h4 : blkC N sc scope (tgOwn t tg) = true)
    (h5 : ifsB (isNil cE) ifs (fun f => chk fns N cE (relS scope sc) [f]) = true) (h6 : chk fns N eE (relS scope sc) [e] = true) :
    PE X (.ListComp e [⟨tg, .Call (.Attribute (.Name y p2) "items" q) [] [] p3, ifs, 0⟩] scope p) (rdE X.K b (wE Φ (.dlc t cE eE j))) := by
  cases tg with
  | Tuple elts kk tpos =>
    refine peImp ?_ fun σ H Q h => dlcGo h
    rw [← tgOwn_ix h3]
    obtain ⟨q2, q3, q4, q5⟩ := lcParts0 ok hC s2 s3 h3 h4 h5 h6
    exact pe_lock (pe_lc ok.calm ok.nd (pi_itemsD (peVar (p := p2) ok h1) rfl hl) q2 q3 q4 q5 (fun x => noFold rfl))
  | _ => exact absurd ht Bool.false_ne_true

/-- a term that is neither a list of arguments, nor a walk, nor a test of several parts -/
theorem Sn.mk0 {i : IE} (h1 : isL i = false) (h2 : isLP i = false) (h3 : isIt i = false) (h4 : ∀ sc op es pos, chk fns N i sc [.BoolOp op es pos] = false)
    (h : ∀ (b : Bd) (X : Cx) (sc : Scope), b.C = C → Cok fns cls N C Φ k X sc b.W → ∀ e, chk fns N i sc [e] = true → PE X e (rdE X.K b (wE Φ i)) ∧ PT X e (rdT X.K b (wE Φ i))) : Sn fns cls N C Φ k i where
  e := fun b X sc hC ok e hc => (h b X sc hC ok e hc).1
  t := fun b X sc hC ok e hc => (h b X sc hC ok e hc).2
  w := fun b X sc hC ok op es pos hc => by rw [h4] at hc; cases hc
  a := fun b X sc hC ok hl => by rw [h1] at hl; cases hl
  ap := fun b X sc hC ok hl => by rw [h2] at hl; cases hl
  i := fun b X sc hC ok hl => by rw [h3] at hl; cases hl
/-- a walk -/
theorem Sn.mkI {i : IE} (h1 : isL i = false) (h2 : isLP i = false) (h4 : ∀ sc e, chk fns N i sc [e] = false)
    (h : ∀ (b : Bd) (X : Cx) (sc : Scope), b.C = C → Cok fns cls N C Φ k X sc b.W → ∀ e tg, chk fns N i sc [e, tg] = true → PI X tg e (rdI X.K b (wE Φ i))) : Sn fns cls N C Φ k i where
  e := fun b X sc hC ok e hc => by rw [h4] at hc; cases hc
  t := fun b X sc hC ok e hc => by rw [h4] at hc; cases hc
  w := fun b X sc hC ok op es pos hc => by rw [h4] at hc; cases hc
  a := fun b X sc hC ok hl => by rw [h1] at hl; cases hl
  ap := fun b X sc hC ok hl => by rw [h2] at hl; cases hl
  i := fun b X sc hC ok hl => h b X sc hC ok
theorem snAll (i : IE) : Sn fns cls N C Φ k i := by
  induction i with
  | nil =>
    refine ⟨fun b X sc hC ok e hc => ?_, fun b X sc hC ok e hc => ?_, fun b X sc hC ok op es pos hc => ?_, fun b X sc hC ok hl es hc => ?_, fun b X sc hC ok hl es hc => ?_, fun b X sc hC ok hl => ?_⟩
    · exact absurd hc Bool.false_ne_true
    · exact absurd hc Bool.false_ne_true
    · exact absurd hc Bool.false_ne_true
    · cases es with
      | nil => exact aNil X
      | cons _ _ => exact absurd hc Bool.false_ne_true
    · cases es with
      | nil => exact aNilP X
      | cons _ _ => exact absurd hc Bool.false_ne_true
    · exact absurd hl Bool.false_ne_true
  | cons a r iha ihr =>
    refine ⟨fun b X sc hC ok e hc => ?_, fun b X sc hC ok e hc => ?_, fun b X sc hC ok op es pos hc => ?_, fun b X sc hC ok hl es hc => ?_, fun b X sc hC ok hl => ?_, fun b X sc hC ok hl => ?_⟩
    · exact absurd hc Bool.false_ne_true
    · exact absurd hc Bool.false_ne_true
    · exact absurd hc Bool.false_ne_true
    · cases es with
      | nil => exact absurd hc Bool.false_ne_true
      | cons e es =>
        have h : (plainE e && chk fns N a sc [e] && isL r && chk fns N r sc (dm :: dm :: es)) = true := hc
        simp only [Bool.and_eq_true] at h
        exact aCons (iha.e b X sc hC ok e h.1.1.2) (ihr.a b X sc hC ok h.1.2 es h.2) h.1.1.1
    · exact absurd hl Bool.false_ne_true
    · exact absurd hl Bool.false_ne_true
  | consP a r iha ihr =>
    refine ⟨fun b X sc hC ok e hc => ?_, fun b X sc hC ok e hc => ?_, fun b X sc hC ok op es pos hc => ?_, fun b X sc hC ok hl => ?_, fun b X sc hC ok hl es hc => ?_, fun b X sc hC ok hl => ?_⟩
    · exact absurd hc Bool.false_ne_true
    · exact absurd hc Bool.false_ne_true
    · exact absurd hc Bool.false_ne_true
    · exact absurd hl Bool.false_ne_true
    · cases es with
      | nil => exact absurd hc Bool.false_ne_true
      | cons e es =>
        have h : (plainE e && chk fns N a sc [e] && isLP r && chk fns N r sc (dm :: dm :: es)) = true := hc
        simp only [Bool.and_eq_true] at h
        exact aConsP (pkE ok hC iha h.1.1.2) (ihr.ap b X sc hC ok h.1.2 es h.2) h.1.1.1
    · exact absurd hl Bool.false_ne_true
  | var j =>
    refine Sn.mk0 rfl rfl rfl (fun _ _ _ _ => rfl) fun b X sc hC ok e hc => ?_
    cases e with
    | Name x p => exact ⟨eVar ok hc, ptOf (eVar ok hc) fun _ => rfl⟩
    | _ => exact absurd hc Bool.false_ne_true
  | mov j =>
    refine Sn.mk0 rfl rfl rfl (fun _ _ _ _ => rfl) fun b X sc hC ok e hc => ?_
    cases e with
    | Name x p => exact ⟨eMov ok hc, ptOf (eMov ok hc) fun _ => rfl⟩
    | _ => exact absurd hc Bool.false_ne_true
  | cst c =>
    refine Sn.mk0 rfl rfl rfl (fun _ _ _ _ => rfl) fun b X sc hC ok e hc => ?_
    cases e with
    | Constant q n p => exact ⟨eCst hc, ptOf (eCst hc) fun _ => rfl⟩
    | _ => exact absurd hc Bool.false_ne_true
  | tup a ih =>
    refine Sn.mk0 rfl rfl rfl (fun _ _ _ _ => rfl) fun b X sc hC ok e hc => ?_
    cases e with
    | Tuple es n p =>
      have h : (isL a && chk fns N a sc (dm :: dm :: es)) = true := hc
      rw [Bool.and_eq_true] at h
      have q := eTup (n := n) (p := p) (ih.a b X sc hC ok h.1 es h.2)
      exact ⟨q, ptOf q fun _ => rfl⟩
    | _ => exact absurd hc Bool.false_ne_true
  | lst a ih =>
    refine Sn.mk0 rfl rfl rfl (fun _ _ _ _ => rfl) fun b X sc hC ok e hc => ?_
    cases e with
    | List es p =>
      have h : (isL a && chk fns N a sc (dm :: dm :: es)) = true := hc
      rw [Bool.and_eq_true] at h
      have q := eLst (p := p) (ih.a b X sc hC ok h.1 es h.2)
      exact ⟨q, ptOf q fun _ => rfl⟩
    | _ => exact absurd hc Bool.false_ne_true
  | bin o a c iha ihb =>
    refine Sn.mk0 rfl rfl rfl (fun _ _ _ _ => rfl) fun b X sc hC ok e hc => ?_
    cases e with
    | BinOp l o' r p =>
      have h : (decide (o = o') && chk fns N a sc [l] && chk fns N c sc [r]) = true := hc
      simp only [Bool.and_eq_true, decide_eq_true_eq] at h
      obtain ⟨⟨rfl, h1⟩, h2⟩ := h
      have q := eBin ok (p := p) (o := o) (iha.e b X sc hC ok l h1) (ihb.e b X sc hC ok r h2)
      exact ⟨q, ptOf q fun _ => rfl⟩
    | _ => exact absurd hc Bool.false_ne_true
  | cmp o a c iha ihb =>
    refine Sn.mk0 rfl rfl rfl (fun _ _ _ _ => rfl) fun b X sc hC ok e hc => ?_
    cases e with
    | Compare l os rs p =>
      cases os with
      | nil => exact absurd hc Bool.false_ne_true
      | cons o' os =>
        cases os with
        | cons _ _ => exact absurd hc Bool.false_ne_true
        | nil =>
          cases rs with
          | nil => exact absurd hc Bool.false_ne_true
          | cons r rs =>
            cases rs with
            | cons _ _ => exact absurd hc Bool.false_ne_true
            | nil =>
              have h : (decide (o = o') && decide (o ≠ .In) && decide (o ≠ .NotIn) && chk fns N a sc [l] && chk fns N c sc [r]) = true := hc
              simp only [Bool.and_eq_true, decide_eq_true_eq] at h
              obtain ⟨⟨⟨⟨rfl, h3⟩, h4⟩, h1⟩, h2⟩ := h
              exact eCmp ok h3 h4 (pkE ok hC iha h1) (pkE ok hC ihb h2)
    | _ => exact absurd hc Bool.false_ne_true
  | neg a ih =>
    refine Sn.mk0 rfl rfl rfl (fun _ _ _ _ => rfl) fun b X sc hC ok e hc => ?_
    cases e with
    | UnaryOp o x p =>
      cases o with
      | USub =>
        have q := eNeg (p := p) (ih.e b X sc hC ok x hc)
        exact ⟨q, ptOf q fun _ => rfl⟩
      | _ => exact absurd hc Bool.false_ne_true
    | _ => exact absurd hc Bool.false_ne_true
  | bnot a ih =>
    refine Sn.mk0 rfl rfl rfl (fun _ _ _ _ => rfl) fun b X sc hC ok e hc => ?_
    cases e with
    | UnaryOp o x p =>
      cases o with
      | Not => exact eNot (ih.e b X sc hC ok x hc) (ih.t b X sc hC ok x hc)
      | _ => exact absurd hc Bool.false_ne_true
    | _ => exact absurd hc Bool.false_ne_true
  | band a r iha ihr =>
    have key : ∀ (b : Bd) (X : Cx) (sc : Scope), b.C = C → Cok fns cls N C Φ k X sc b.W → ∀ op es pos, chk fns N (.band a r) sc [.BoolOp op es pos] = true →
        PE X (.BoolOp op es pos) (rdE X.K b (wE Φ (.band a r))) ∧ PW X (.BoolOp op es pos) (rdT X.K b (wE Φ (.band a r))) := fun b X sc hC ok op es pos hc => by
      cases op with
      | Or => exact absurd hc (by cases es with
        | nil => exact Bool.false_ne_true
        | cons _ es => cases es <;> exact Bool.false_ne_true)
      | And =>
        cases es with
        | nil => exact absurd hc Bool.false_ne_true
        | cons x es =>
          cases es with
          | nil => exact absurd hc Bool.false_ne_true
          | cons y rest =>
            have h : (chk fns N a sc [x] && chk fns N r sc [.BoolOp .And (y :: rest) pos]) = true := hc
            rw [Bool.and_eq_true] at h
            exact eAnd (iha.e b X sc hC ok x h.1) (iha.t b X sc hC ok x h.1) (ihr.e b X sc hC ok _ h.2) (ihr.w b X sc hC ok _ _ _ h.2)
    refine ⟨fun b X sc hC ok e hc => ?_, fun b X sc hC ok e hc => ?_, fun b X sc hC ok op es pos hc => (key b X sc hC ok op es pos hc).2, fun b X sc hC ok hl => absurd hl Bool.false_ne_true, fun b X sc hC ok hl => absurd hl Bool.false_ne_true, fun b X sc hC ok hl => absurd hl Bool.false_ne_true⟩
    · cases e with
      | BoolOp op es pos => exact (key b X sc hC ok op es pos hc).1
      | _ => exact absurd hc Bool.false_ne_true
    · cases e with
      | BoolOp op es pos => exact (key b X sc hC ok op es pos hc).2.pt
      | _ => exact absurd hc Bool.false_ne_true
  | bor a r iha ihr =>
    have key : ∀ (b : Bd) (X : Cx) (sc : Scope), b.C = C → Cok fns cls N C Φ k X sc b.W → ∀ op es pos, chk fns N (.bor a r) sc [.BoolOp op es pos] = true →
        PE X (.BoolOp op es pos) (rdE X.K b (wE Φ (.bor a r))) ∧ PW X (.BoolOp op es pos) (rdT X.K b (wE Φ (.bor a r))) := fun b X sc hC ok op es pos hc => by
      cases op with
      | And => exact absurd hc (by cases es with
        | nil => exact Bool.false_ne_true
        | cons _ es => cases es <;> exact Bool.false_ne_true)
      | Or =>
        cases es with
        | nil => exact absurd hc Bool.false_ne_true
        | cons x es =>
          cases es with
          | nil => exact absurd hc Bool.false_ne_true
          | cons y rest =>
            have h : (chk fns N a sc [x] && chk fns N r sc [.BoolOp .Or (y :: rest) pos]) = true := hc
            rw [Bool.and_eq_true] at h
            exact eOr (iha.e b X sc hC ok x h.1) (iha.t b X sc hC ok x h.1) (ihr.e b X sc hC ok _ h.2) (ihr.w b X sc hC ok _ _ _ h.2)
    refine ⟨fun b X sc hC ok e hc => ?_, fun b X sc hC ok e hc => ?_, fun b X sc hC ok op es pos hc => (key b X sc hC ok op es pos hc).2, fun b X sc hC ok hl => absurd hl Bool.false_ne_true, fun b X sc hC ok hl => absurd hl Bool.false_ne_true, fun b X sc hC ok hl => absurd hl Bool.false_ne_true⟩
    · cases e with
      | BoolOp op es pos => exact (key b X sc hC ok op es pos hc).1
      | _ => exact absurd hc Bool.false_ne_true
    · cases e with
      | BoolOp op es pos => exact (key b X sc hC ok op es pos hc).2.pt
      | _ => exact absurd hc Bool.false_ne_true
  | bone a ih =>
    have key : ∀ (b : Bd) (X : Cx) (sc : Scope), b.C = C → Cok fns cls N C Φ k X sc b.W → ∀ op es pos, chk fns N (.bone a) sc [.BoolOp op es pos] = true →
        PE X (.BoolOp op es pos) (rdE X.K b (wE Φ (.bone a))) ∧ PW X (.BoolOp op es pos) (rdT X.K b (wE Φ (.bone a))) := fun b X sc hC ok op es pos hc => by
      cases es with
      | nil => exact absurd hc Bool.false_ne_true
      | cons x es =>
        cases es with
        | cons _ _ => exact absurd hc Bool.false_ne_true
        | nil => exact eOne (ih.e b X sc hC ok x hc) (ih.t b X sc hC ok x hc)
    refine ⟨fun b X sc hC ok e hc => ?_, fun b X sc hC ok e hc => ?_, fun b X sc hC ok op es pos hc => (key b X sc hC ok op es pos hc).2, fun b X sc hC ok hl => absurd hl Bool.false_ne_true, fun b X sc hC ok hl => absurd hl Bool.false_ne_true, fun b X sc hC ok hl => absurd hl Bool.false_ne_true⟩
    · cases e with
      | BoolOp op es pos => exact (key b X sc hC ok op es pos hc).1
      | _ => exact absurd hc Bool.false_ne_true
    · cases e with
      | BoolOp op es pos => exact (key b X sc hC ok op es pos hc).2.pt
      | _ => exact absurd hc Bool.false_ne_true
  | ite c a d ihc iha ihb =>
    refine Sn.mk0 rfl rfl rfl (fun _ _ _ _ => rfl) fun b X sc hC ok e hc => ?_
    cases e with
    | IfExp t x y p =>
      have h : (chk fns N c sc [t] && chk fns N a sc [x] && chk fns N d sc [y]) = true := hc
      simp only [Bool.and_eq_true] at h
      exact ⟨eIte (p := p) (ihc.t b X sc hC ok t h.1.1) (iha.e b X sc hC ok x h.1.2) (ihb.e b X sc hC ok y h.2), tIte (p := p) (ihc.t b X sc hC ok t h.1.1) (iha.t b X sc hC ok x h.1.2) (ihb.t b X sc hC ok y h.2)⟩
    | _ => exact absurd hc Bool.false_ne_true
  | ix a c iha ihb =>
    refine Sn.mk0 rfl rfl rfl (fun _ _ _ _ => rfl) fun b X sc hC ok e hc => ?_
    cases e with
    | Subscript x y p =>
      have h : (plainE y && chk fns N a sc [x] && chk fns N c sc [y]) = true := hc
      simp only [Bool.and_eq_true] at h
      have q := eIx (p := p) h.1.1 (pkE ok hC iha h.1.2) (ihb.e b X sc hC ok y h.2)
      exact ⟨q, ptOf q fun _ => rfl⟩
    | _ => exact absurd hc Bool.false_ne_true
  | sl a lo hi iha ihl ihh =>
    refine Sn.mk0 rfl rfl rfl (fun _ _ _ _ => rfl) fun b X sc hC ok e hc => ?_
    cases e with
    | Subscript x y p =>
      cases y with
      | Slice l g st p2 =>
        cases st with
        | some _ => exact absurd hc Bool.false_ne_true
        | none =>
          have h : (chk fns N a sc [x] && optB (isNil lo) l (fun e => chk fns N lo sc [e]) && optB (isNil hi) g (fun e => chk fns N hi sc [e])) = true := hc
          rw [Bool.and_eq_true, Bool.and_eq_true] at h
          obtain ⟨⟨h1, h2⟩, h3⟩ := h
          have q := eSl (p := p) (p2 := p2) (pkE ok hC iha h1)
            (poOf (i := lo) (l := l) (fun e => by subst e; exact h2) fun e he => by
              subst he
              have h2' : (!isNil lo && chk fns N lo sc [e]) = true := h2
              rw [Bool.and_eq_true, Bool.not_eq_true'] at h2'
              exact ⟨h2'.1, ihl.e b X sc hC ok e h2'.2⟩)
            (poOf (i := hi) (l := g) (fun e => by subst e; exact h3) fun e he => by
              subst he
              have h2' : (!isNil hi && chk fns N hi sc [e]) = true := h3
              rw [Bool.and_eq_true, Bool.not_eq_true'] at h2'
              exact ⟨h2'.1, ihh.e b X sc hC ok e h2'.2⟩)
          exact ⟨q, ptOf q fun _ => rfl⟩
      | _ => exact absurd hc Bool.false_ne_true
    | _ => exact absurd hc Bool.false_ne_true
  | rev a ih =>
    refine Sn.mk0 rfl rfl rfl (fun _ _ _ _ => rfl) fun b X sc hC ok e hc => ?_
    cases e with
    | Subscript x y p =>
      cases y with
      | Slice l g st p2 =>
        cases l with
        | some _ => exact absurd hc Bool.false_ne_true
        | none =>
          cases g with
          | some _ => exact absurd hc Bool.false_ne_true
          | none =>
            cases st with
            | none => exact absurd hc Bool.false_ne_true
            | some st =>
              cases st with
              | UnaryOp o z p3 =>
                cases o with
                | USub =>
                  cases z with
                  | Constant v n p4 =>
                    cases v with
                    | int z =>
                      have h : (decide (z = 1) && chk fns N a sc [x]) = true := hc
                      rw [Bool.and_eq_true, decide_eq_true_eq] at h
                      obtain ⟨rfl, h⟩ := h
                      have q := eRev (n := n) (p := p) (p1 := p4) (p2 := p3) (p3 := p2) (pkE ok hC ih h)
                      exact ⟨q, ptOf q fun _ => rfl⟩
                    | _ => exact absurd hc Bool.false_ne_true
                  | _ => exact absurd hc Bool.false_ne_true
                | _ => exact absurd hc Bool.false_ne_true
              | _ => exact absurd hc Bool.false_ne_true
      | _ => exact absurd hc Bool.false_ne_true
    | _ => exact absurd hc Bool.false_ne_true
  | call f a ih =>
    refine Sn.mk0 rfl rfl rfl (fun _ _ _ _ => rfl) fun b X sc hC ok e hc => ?_
    cases e with
    | Call fn es ks p =>
      cases fn with
      | Name x p2 =>
        cases ks with
        | cons _ _ => exact absurd hc Bool.false_ne_true
        | nil =>
          have q := eCall (p := p2) (pos := p) ok hC ih hc
          exact ⟨q, ptOf q fun _ => rfl⟩
      | _ => exact absurd hc Bool.false_ne_true
    | _ => exact absurd hc Bool.false_ne_true
  | callP f a ih =>
    refine Sn.mk0 rfl rfl rfl (fun _ _ _ _ => rfl) fun b X sc hC ok e hc => ?_
    cases e with
    | Call fn es ks p =>
      cases fn with
      | Name x p2 =>
        cases ks with
        | cons _ _ => exact absurd hc Bool.false_ne_true
        | nil =>
          have q := eCallP (p := p2) (pos := p) ok hC ih hc
          exact ⟨q, ptOf q fun _ => rfl⟩
      | _ => exact absurd hc Bool.false_ne_true
    | _ => exact absurd hc Bool.false_ne_true
  | bi c a ih =>
    refine Sn.mk0 rfl rfl rfl (fun _ _ _ _ => rfl) fun b X sc hC ok e hc => ?_
    cases e with
    | Call fn es ks p =>
      cases fn with
      | Name x p2 =>
        cases es with
        | nil => exact absurd hc Bool.false_ne_true
        | cons e es =>
          cases ks with
          | cons _ _ => exact absurd hc Bool.false_ne_true
          | nil =>
            have q := eBi (p := p2) (pos := p) ok hC ih hc
            exact ⟨q, ptOf q fun _ => rfl⟩
      | _ => exact absurd hc Bool.false_ne_true
    | _ => exact absurd hc Bool.false_ne_true
  | len a ih =>
    refine Sn.mk0 rfl rfl rfl (fun _ _ _ _ => rfl) fun b X sc hC ok e hc => ?_
    cases e with
    | Call fn es ks p =>
      cases fn with
      | Name x p2 =>
        cases es with
        | nil => exact absurd hc Bool.false_ne_true
        | cons e es =>
          cases es with
          | cons _ _ => exact absurd hc Bool.false_ne_true
          | nil =>
            cases ks with
            | cons _ _ => exact absurd hc Bool.false_ne_true
            | nil =>
              have h : (decide (x = "len") && glB sc x && plainE e && chk fns N a sc [e]) = true := hc
              simp only [Bool.and_eq_true, decide_eq_true_eq] at h
              have q := eLen (p := p2) (pos := p) ok h.1.1.1 h.1.1.2 h.1.2 (pkE ok hC ih h.2)
              exact ⟨q, ptOf q fun _ => rfl⟩
      | _ => exact absurd hc Bool.false_ne_true
    | _ => exact absurd hc Bool.false_ne_true
  | callF f g a ds ih =>
    refine Sn.mk0 rfl rfl rfl (fun _ _ _ _ => rfl) fun b X sc hC ok e hc => ?_
    cases e with
    | Call fn es ks p =>
      cases fn with
      | Name x p2 =>
        cases es with
        | nil => exact absurd hc Bool.false_ne_true
        | cons e es =>
          cases e with
          | Call fn2 es2 ks2 p3 =>
            cases fn2 with
            | Name y p4 =>
              cases ks2 with
              | cons _ _ => exact absurd hc (by cases ks <;> exact Bool.false_ne_true)
              | nil =>
                cases ks with
                | cons _ _ => exact absurd hc Bool.false_ne_true
                | nil =>
                  have q := eCallF (p := p2) (pos := p) (p2 := p4) (pos2 := p3) ok hC ih hc
                  exact ⟨q, ptOf q fun _ => rfl⟩
            | _ => exact absurd hc (by cases ks <;> exact Bool.false_ne_true)
          | _ => exact absurd hc (by cases ks <;> exact Bool.false_ne_true)
      | _ => exact absurd hc Bool.false_ne_true
    | _ => exact absurd hc Bool.false_ne_true
  | rvl a ih =>
    refine Sn.mk0 rfl rfl rfl (fun _ _ _ _ => rfl) fun b X sc hC ok e hc => ?_
    cases e with
    | Call fn es ks p =>
      cases fn with
      | Name x p2 =>
        cases es with
        | nil => exact absurd hc Bool.false_ne_true
        | cons e es =>
          cases e with
          | Call fn2 es2 ks2 p3 =>
            cases fn2 with
            | Name y p4 =>
              rcases es2 with _ | ⟨e, _ | ⟨_, _⟩⟩
              · exact absurd hc (by cases ks2 <;> cases es <;> cases ks <;> exact Bool.false_ne_true)
              · cases ks2 with
                | cons _ _ => exact absurd hc (by cases es <;> cases ks <;> exact Bool.false_ne_true)
                | nil =>
                  cases es with
                  | cons _ _ => exact absurd hc (by cases ks <;> exact Bool.false_ne_true)
                  | nil =>
                    cases ks with
                    | cons _ _ => exact absurd hc Bool.false_ne_true
                    | nil =>
                      have h : (decide (x = "list") && glB sc x && decide (y = "reversed") && glB sc y && plainE e && chk fns N a sc [e]) = true := hc
                      simp only [Bool.and_eq_true, decide_eq_true_eq] at h
                      have q := eRvl (p := p2) (pos := p) (p2 := p4) (pos2 := p3) ok h.1.1.1.1.1 h.1.1.1.1.2 h.1.1.1.2 h.1.1.2 h.1.2 (ih.e b X sc hC ok e h.2)
                      exact ⟨q, ptOf q fun _ => rfl⟩
              · exact absurd hc (by cases ks2 <;> cases es <;> cases ks <;> exact Bool.false_ne_true)
            | _ => exact absurd hc (by cases es <;> cases ks <;> exact Bool.false_ne_true)
          | _ => exact absurd hc (by cases es <;> cases ks <;> exact Bool.false_ne_true)
      | _ => exact absurd hc Bool.false_ne_true
    | _ => exact absurd hc Bool.false_ne_true
  | lset a ih =>
    refine Sn.mk0 rfl rfl rfl (fun _ _ _ _ => rfl) fun b X sc hC ok e hc => ?_
    cases e with
    | Call fn es ks p =>
      cases fn with
      | Name x p2 =>
        cases es with
        | nil => exact absurd hc Bool.false_ne_true
        | cons e es =>
          cases e with
          | Call fn2 es2 ks2 p3 =>
            cases fn2 with
            | Name y p4 =>
              rcases es2 with _ | ⟨e, _ | ⟨_, _⟩⟩
              · exact absurd hc (by cases ks2 <;> cases es <;> cases ks <;> exact Bool.false_ne_true)
              · cases ks2 with
                | cons _ _ => exact absurd hc (by cases es <;> cases ks <;> exact Bool.false_ne_true)
                | nil =>
                  cases es with
                  | cons _ _ => exact absurd hc (by cases ks <;> exact Bool.false_ne_true)
                  | nil =>
                    cases ks with
                    | cons _ _ => exact absurd hc Bool.false_ne_true
                    | nil =>
                      have h : (decide (x = "len") && glB sc x && decide (y = "set") && glB sc y && plainE e && chk fns N a sc [e]) = true := hc
                      simp only [Bool.and_eq_true, decide_eq_true_eq] at h
                      have q := eLset (p := p2) (pos := p) (p2 := p4) (pos2 := p3) ok h.1.1.1.1.1 h.1.1.1.1.2 h.1.1.1.2 h.1.1.2 h.1.2 (ih.e b X sc hC ok e h.2)
                      exact ⟨q, ptOf q fun _ => rfl⟩
              · exact absurd hc (by cases ks2 <;> cases es <;> cases ks <;> exact Bool.false_ne_true)
            | _ => exact absurd hc (by cases es <;> cases ks <;> exact Bool.false_ne_true)
          | _ => exact absurd hc (by cases es <;> cases ks <;> exact Bool.false_ne_true)
      | _ => exact absurd hc Bool.false_ne_true
    | _ => exact absurd hc Bool.false_ne_true
  | lcO t j c elt ih2 ih3 =>
    refine Sn.mk0 rfl rfl rfl (fun _ _ _ _ => rfl) fun b X sc hC ok e hc => ?_
    cases e with
    | ListComp e gs scope p =>
      cases gs with
      | nil => exact absurd hc Bool.false_ne_true
      | cons g gs =>
        obtain ⟨tg, iter, ifs, as⟩ := g
        cases gs with
        | cons _ _ => exact absurd hc (by cases iter <;> exact Bool.false_ne_true)
        | nil =>
          cases iter with
          | Name y q =>
            have h : (decide (as = 0) && nmB N j y && visB sc y && tgB (blB scope sc) N t tg && blkC N sc scope (tgOwn t tg) && ifsB (isNil c) ifs (fun f => chk fns N c (relS scope sc) [f]) && chk fns N elt (relS scope sc) [e]) = true := hc
            simp only [Bool.and_eq_true, decide_eq_true_eq] at h
            obtain ⟨⟨⟨⟨⟨⟨rfl, g1⟩, g2⟩, g4⟩, g5⟩, g6⟩, g7⟩ := h
            have z := eLcO (p := p) (q := q) ok hC ih2 ih3 (j := j) (y := y) (by rw [g1, g2]; rfl) g4 g5 g6 g7
            exact ⟨z, ptOf z fun _ => rfl⟩
          | _ => exact absurd hc Bool.false_ne_true
    | _ => exact absurd hc Bool.false_ne_true
  | emp =>
    refine Sn.mk0 rfl rfl rfl (fun _ _ _ _ => rfl) fun b X sc hC ok e hc => ?_
    cases e with
    | Dict ks vs p =>
      cases ks with
      | cons _ _ => exact absurd hc Bool.false_ne_true
      | nil =>
        cases vs with
        | cons _ _ => exact absurd hc Bool.false_ne_true
        | nil => exact ⟨eEmp, ptOf eEmp fun _ => rfl⟩
    | _ => exact absurd hc Bool.false_ne_true
  | lsc a ih =>
    refine Sn.mk0 rfl rfl rfl (fun _ _ _ _ => rfl) fun b X sc hC ok e hc => ?_
    cases e with
    | Call fn es ks p =>
      cases fn with
      | Name x p2 =>
        cases es with
        | nil => exact absurd hc Bool.false_ne_true
        | cons e es =>
          cases es with
          | cons _ _ => exact absurd hc Bool.false_ne_true
          | nil =>
            cases ks with
            | cons _ _ => exact absurd hc Bool.false_ne_true
            | nil =>
              have h : (decide (x = "list") && glB sc x && plainE e && chk fns N a sc [e]) = true := hc
              simp only [Bool.and_eq_true, decide_eq_true_eq] at h
              have q := eLsc (p := p2) (pos := p) ok h.1.1.1 h.1.1.2 h.1.2 (pkE ok hC ih h.2)
              exact ⟨q, ptOf q fun _ => rfl⟩
      | _ => exact absurd hc Bool.false_ne_true
    | _ => exact absurd hc Bool.false_ne_true
  | isi t a ih =>
    refine Sn.mk0 rfl rfl rfl (fun _ _ _ _ => rfl) fun b X sc hC ok e hc => ?_
    cases e with
    | Call fn es ks p =>
      cases fn with
      | Name x p2 =>
        cases es with
        | nil => exact absurd hc Bool.false_ne_true
        | cons e es =>
          cases es with
          | nil => exact absurd hc Bool.false_ne_true
          | cons g es =>
            cases es with
            | cons _ _ => cases g <;> exact absurd hc Bool.false_ne_true
            | nil =>
              cases g with
              | Name y p3 =>
                cases ks with
                | cons _ _ => exact absurd hc Bool.false_ne_true
                | nil =>
                  have h : (decide (x = "isinstance") && glB sc x && decide (tyName t = y) && glB sc y && plainE e && chk fns N a sc [e]) = true := hc
                  simp only [Bool.and_eq_true, decide_eq_true_eq] at h
                  obtain ⟨⟨⟨⟨⟨g1, g2⟩, g3⟩, g4⟩, g5⟩, g6⟩ := h
                  have q := eIsi (p := p2) (p2 := p3) (pos := p) ok g1 g2 g3 g4 g5 (pkE ok hC ih g6)
                  exact ⟨q, ptOf q fun _ => rfl⟩
              | _ => exact absurd hc Bool.false_ne_true
      | _ => exact absurd hc Bool.false_ne_true
    | _ => exact absurd hc Bool.false_ne_true
  | isx c j => exact Sn.mk0 rfl rfl rfl (fun _ _ _ _ => rfl) fun b X sc hC ok e hc => absurd hc Bool.false_ne_true
  | itv a ih =>
    refine Sn.mkI rfl rfl (fun _ _ => rfl) fun b X sc hC ok e tg hc => ?_
    have h : (plainE e && chk fns N a sc [e]) = true := hc
    rw [Bool.and_eq_true] at h
    exact iSeqGo (ih.e b X sc hC ok e h.2)
  | rng1 a ih =>
    refine Sn.mkI rfl rfl (fun _ _ => rfl) fun b X sc hC ok e tg hc => ?_
    cases e with
    | Call fn es ks p =>
      cases fn with
      | Name x p2 =>
        cases es with
        | nil => exact absurd hc Bool.false_ne_true
        | cons e es =>
          cases es with
          | cons _ _ => exact absurd hc Bool.false_ne_true
          | nil =>
            cases ks with
            | cons _ _ => exact absurd hc Bool.false_ne_true
            | nil =>
              have h : (decide (x = "range") && glB sc x && plainE e && chk fns N a sc [e]) = true := hc
              simp only [Bool.and_eq_true, decide_eq_true_eq] at h
              exact iRng1Go ok (ih.e b X sc hC ok e h.2) h.1.1.1 h.1.1.2 h.1.2
      | _ => exact absurd hc Bool.false_ne_true
    | _ => exact absurd hc Bool.false_ne_true
  | rng2 a c iha ihb =>
    refine Sn.mkI rfl rfl (fun _ _ => rfl) fun b X sc hC ok e tg hc => ?_
    cases e with
    | Call fn es ks p =>
      cases fn with
      | Name x p2 =>
        cases es with
        | nil => exact absurd hc Bool.false_ne_true
        | cons e es =>
          cases es with
          | nil => exact absurd hc Bool.false_ne_true
          | cons f es =>
            cases es with
            | cons _ _ => exact absurd hc Bool.false_ne_true
            | nil =>
              cases ks with
              | cons _ _ => exact absurd hc Bool.false_ne_true
              | nil =>
                have h : (decide (x = "range") && glB sc x && plainE e && plainE f && chk fns N a sc [e] && chk fns N c sc [f]) = true := hc
                simp only [Bool.and_eq_true, decide_eq_true_eq] at h
                obtain ⟨⟨⟨⟨⟨g1, g2⟩, g3⟩, g4⟩, g5⟩, g6⟩ := h
                exact iRng2Go ok (iha.e b X sc hC ok e g5) (ihb.e b X sc hC ok f g6) g1 g2 g3 g4
      | _ => exact absurd hc Bool.false_ne_true
    | _ => exact absurd hc Bool.false_ne_true
  | rngd a c iha ihb =>
    refine Sn.mkI rfl rfl (fun _ _ => rfl) fun b X sc hC ok e tg hc => ?_
    cases e with
    | Call fn es ks p =>
      cases fn with
      | Name x p2 =>
        cases es with
        | nil => exact absurd hc Bool.false_ne_true
        | cons e es =>
          cases es with
          | nil => exact absurd hc Bool.false_ne_true
          | cons f es =>
            cases es with
            | nil => exact absurd hc Bool.false_ne_true
            | cons g es =>
              cases es with
              | cons _ _ =>
                cases g with
                | UnaryOp o v p3 =>
                  cases o with
                  | USub =>
                    cases v with
                    | Constant q n p4 => cases q <;> exact absurd hc Bool.false_ne_true
                    | _ => exact absurd hc Bool.false_ne_true
                  | _ => exact absurd hc Bool.false_ne_true
                | _ => exact absurd hc Bool.false_ne_true
              | nil =>
                cases g with
                | UnaryOp o v p3 =>
                  cases o with
                  | USub =>
                    cases v with
                    | Constant q n p4 =>
                      cases q with
                      | int z =>
                        cases ks with
                        | cons _ _ => exact absurd hc Bool.false_ne_true
                        | nil =>
                          have h : (decide (x = "range") && glB sc x && plainE e && plainE f && decide (z = 1) && chk fns N a sc [e] && chk fns N c sc [f]) = true := hc
                          simp only [Bool.and_eq_true, decide_eq_true_eq] at h
                          obtain ⟨⟨⟨⟨⟨⟨g1, g2⟩, g3⟩, g4⟩, rfl⟩, g5⟩, g6⟩ := h
                          exact iRngdGo ok (iha.e b X sc hC ok e g5) (ihb.e b X sc hC ok f g6) g1 g2 g3 g4
                      | _ => exact absurd hc Bool.false_ne_true
                    | _ => exact absurd hc Bool.false_ne_true
                  | _ => exact absurd hc Bool.false_ne_true
                | _ => exact absurd hc Bool.false_ne_true
      | _ => exact absurd hc Bool.false_ne_true
    | _ => exact absurd hc Bool.false_ne_true
  | enm a ih =>
    refine Sn.mkI rfl rfl (fun _ _ => rfl) fun b X sc hC ok e tg hc => ?_
    cases e with
    | Call fn es ks p =>
      cases fn with
      | Name x p2 =>
        cases es with
        | nil => exact absurd hc Bool.false_ne_true
        | cons e es =>
          cases es with
          | cons _ _ => exact absurd hc Bool.false_ne_true
          | nil =>
            cases ks with
            | cons _ _ => exact absurd hc Bool.false_ne_true
            | nil =>
              have h : (decide (x = "enumerate") && glB sc x && plainE e && isTup tg && chk fns N a sc [e]) = true := hc
              simp only [Bool.and_eq_true, decide_eq_true_eq] at h
              exact iEnmGo ok (ih.e b X sc hC ok e h.2) h.1.1.1.1 h.1.1.1.2 h.1.1.2 h.1.2
      | _ => exact absurd hc Bool.false_ne_true
    | _ => exact absurd hc Bool.false_ne_true
  | rvd a ih =>
    refine Sn.mkI rfl rfl (fun _ _ => rfl) fun b X sc hC ok e tg hc => ?_
    cases e with
    | Call fn es ks p =>
      cases fn with
      | Name x p2 =>
        cases es with
        | nil => exact absurd hc Bool.false_ne_true
        | cons e es =>
          cases es with
          | cons _ _ => exact absurd hc Bool.false_ne_true
          | nil =>
            cases ks with
            | cons _ _ => exact absurd hc Bool.false_ne_true
            | nil =>
              have h : (decide (x = "reversed") && glB sc x && plainE e && chk fns N a sc [e]) = true := hc
              simp only [Bool.and_eq_true, decide_eq_true_eq] at h
              exact iRevGo ok (ih.e b X sc hC ok e h.2) h.1.1.1 h.1.1.2 h.1.2
      | _ => exact absurd hc Bool.false_ne_true
    | _ => exact absurd hc Bool.false_ne_true
  | zip a c iha ihb =>
    refine Sn.mkI rfl rfl (fun _ _ => rfl) fun b X sc hC ok e tg hc => ?_
    cases e with
    | Call fn es ks p =>
      cases fn with
      | Name x p2 =>
        rcases es with _ | ⟨e, _ | ⟨f, _ | ⟨_, _⟩⟩⟩
        · exact absurd hc Bool.false_ne_true
        · exact absurd hc Bool.false_ne_true
        · cases ks with
          | cons _ _ => exact absurd hc Bool.false_ne_true
          | nil =>
            have h : (decide (x = "zip") && glB sc x && plainE e && plainE f && isTup tg && chk fns N a sc [e] && chk fns N c sc [f]) = true := hc
            simp only [Bool.and_eq_true, decide_eq_true_eq] at h
            obtain ⟨⟨⟨⟨⟨⟨h1, h2⟩, h3⟩, h4⟩, h5⟩, h6⟩, h7⟩ := h
            exact iZipGo ok (iha.e b X sc hC ok e h6) (ihb.e b X sc hC ok f h7) h1 h2 h3 h4 h5
        · exact absurd hc Bool.false_ne_true
      | _ => exact absurd hc Bool.false_ne_true
    | _ => exact absurd hc Bool.false_ne_true
  | lc t it c elt ih1 ih2 ih3 =>
    refine Sn.mk0 rfl rfl rfl (fun _ _ _ _ => rfl) fun b X sc hC ok e hc => ?_
    cases e with
    | ListComp e gs scope p =>
      cases gs with
      | nil => exact absurd hc Bool.false_ne_true
      | cons g gs =>
        obtain ⟨tg, iter, ifs, as⟩ := g
        cases gs with
        | cons _ _ => exact absurd hc Bool.false_ne_true
        | nil =>
          have h : (decide (as = 0) && plainE iter && isIt it && chk fns N it sc [iter, tg] && tgB (blB scope sc) N t tg && blkC N sc scope (tgOwn t tg) && ifsB (isNil c) ifs (fun f => chk fns N c (relS scope sc) [f]) && chk fns N elt (relS scope sc) [e]) = true := hc
          simp only [Bool.and_eq_true, decide_eq_true_eq] at h
          obtain ⟨⟨⟨⟨⟨⟨⟨rfl, g1⟩, g2⟩, g3⟩, g4⟩, g5⟩, g6⟩, g7⟩ := h
          have q := eLc (p := p) ok hC ih1 ih2 ih3 g2 g3 g4 g5 g6 g7 g1
          exact ⟨q, ptOf q fun _ => rfl⟩
    | _ => exact absurd hc Bool.false_ne_true
  | inn neg a c iha ihb =>
    refine Sn.mk0 rfl rfl rfl (fun _ _ _ _ => rfl) fun b X sc hC ok e hc => ?_
    cases e with
    | Compare l os rs p =>
      rcases os with _ | ⟨o, _ | ⟨_, _⟩⟩
      · exact absurd hc Bool.false_ne_true
      · rcases rs with _ | ⟨r, _ | ⟨_, _⟩⟩
        · exact absurd hc Bool.false_ne_true
        · have h : (decide (o = (if neg = true then .NotIn else .In)) && noSet r && chk fns N a sc [l] && chk fns N c sc [r]) = true := hc
          simp only [Bool.and_eq_true, decide_eq_true_eq] at h
          obtain ⟨⟨⟨rfl, h1⟩, h2⟩, h3⟩ := h
          exact eInn ok h1 (pkE ok hC iha h2) (pkE ok hC ihb h3)
        · exact absurd hc Bool.false_ne_true
      · exact absurd hc Bool.false_ne_true
    | _ => exact absurd hc Bool.false_ne_true
  | cmp2 o o' a c d iha ihb ihc =>
    refine Sn.mk0 rfl rfl rfl (fun _ _ _ _ => rfl) fun b X sc hC ok e hc => ?_
    cases e with
    | Compare l os rs p =>
      rcases os with _ | ⟨q, _ | ⟨q', _ | ⟨_, _⟩⟩⟩
      · exact absurd hc Bool.false_ne_true
      · exact absurd hc Bool.false_ne_true
      · rcases rs with _ | ⟨m, _ | ⟨r, _ | ⟨_, _⟩⟩⟩
        · exact absurd hc Bool.false_ne_true
        · exact absurd hc Bool.false_ne_true
        · have h : (decide (o = q) && decide (o' = q') && decide (o' ≠ .In) && decide (o' ≠ .NotIn) && chk fns N a sc [l] && chk fns N c sc [m] && chk fns N d sc [r]) = true := hc
          simp only [Bool.and_eq_true, decide_eq_true_eq] at h
          obtain ⟨⟨⟨⟨⟨⟨rfl, rfl⟩, h1⟩, h2⟩, h3⟩, h4⟩, h5⟩ := h
          exact eCmp2 ok h1 h2 (iha.e b X sc hC ok l h3) (ihb.e b X sc hC ok m h4) (ihc.e b X sc hC ok r h5)
        · exact absurd hc Bool.false_ne_true
      · exact absurd hc Bool.false_ne_true
    | _ => exact absurd hc Bool.false_ne_true
  | cnt a c iha ihb =>
    refine Sn.mk0 rfl rfl rfl (fun _ _ _ _ => rfl) fun b X sc hC ok e hc => ?_
    cases e with
    | Call fn es ks p =>
      cases fn with
      | Attribute o m q =>
        rcases es with _ | ⟨e, _ | ⟨_, _⟩⟩
        · exact absurd hc Bool.false_ne_true
        · cases ks with
          | cons _ _ => exact absurd hc Bool.false_ne_true
          | nil =>
            have h : (decide (m = "count") && (q.endLine == p.line) && plainE e && noAttr o && chk fns N a sc [o] && chk fns N c sc [e]) = true := hc
            simp only [Bool.and_eq_true, decide_eq_true_eq] at h
            obtain ⟨⟨⟨⟨⟨rfl, h1⟩, h2⟩, h3⟩, h4⟩, h5⟩ := h
            have z := eCnt (p := p) (q := q) h3 h1 h2 (pkE ok hC iha h4) (ihb.e b X sc hC ok e h5)
            exact ⟨z, ptOf z fun _ => rfl⟩
        · exact absurd hc Bool.false_ne_true
      | _ => exact absurd hc Bool.false_ne_true
    | _ => exact absurd hc Bool.false_ne_true
  | idx a c iha ihb =>
    refine Sn.mk0 rfl rfl rfl (fun _ _ _ _ => rfl) fun b X sc hC ok e hc => ?_
    cases e with
    | Call fn es ks p =>
      cases fn with
      | Attribute o m q =>
        rcases es with _ | ⟨e, _ | ⟨_, _⟩⟩
        · exact absurd hc Bool.false_ne_true
        · cases ks with
          | cons _ _ => exact absurd hc Bool.false_ne_true
          | nil =>
            have h : (decide (m = "index") && (q.endLine == p.line) && plainE e && noAttr o && chk fns N a sc [o] && chk fns N c sc [e]) = true := hc
            simp only [Bool.and_eq_true, decide_eq_true_eq] at h
            obtain ⟨⟨⟨⟨⟨rfl, h1⟩, h2⟩, h3⟩, h4⟩, h5⟩ := h
            have z := eIdx ok (p := p) (q := q) h3 h1 h2 (pkE ok hC iha h4) (ihb.e b X sc hC ok e h5)
            exact ⟨z, ptOf z fun _ => rfl⟩
        · exact absurd hc Bool.false_ne_true
      | _ => exact absurd hc Bool.false_ne_true
    | _ => exact absurd hc Bool.false_ne_true
  | dsp kvs a iha =>
    refine Sn.mk0 rfl rfl rfl (fun _ _ _ _ => rfl) fun b X sc hC ok e hc => ?_
    cases e with
    | Subscript o e p =>
      cases o with
      | Dict ks vs p2 =>
        have h : (dspB kvs ks vs && ndB (kvs.map (·.1)) && decide (kvs.length ≤ 15) && !kvs.isEmpty && plainE e && chk fns N a sc [e]) = true := hc
        simp only [Bool.and_eq_true, decide_eq_true_eq, Bool.not_eq_true'] at h
        obtain ⟨⟨⟨⟨⟨h1, h2⟩, h3⟩, h4⟩, h5⟩, h6⟩ := h
        have z := eDsp ok (p := p) (p2 := p2) h1 h2 h3 (fun z => by rw [z] at h4; cases h4) h5 (iha.e b X sc hC ok e h6)
        exact ⟨z, ptOf z fun _ => rfl⟩
      | _ => exact absurd hc Bool.false_ne_true
    | _ => exact absurd hc Bool.false_ne_true
  | rvr a ih =>
    refine Sn.mkI rfl rfl (fun _ _ => rfl) fun b X sc hC ok e tg hc => ?_
    cases e with
    | Call fn es ks p =>
      cases fn with
      | Name x p2 =>
        rcases es with _ | ⟨e, _ | ⟨_, _⟩⟩
        · exact absurd hc Bool.false_ne_true
        · cases e with
          | Call fn2 es2 ks2 p3 =>
            cases fn2 with
            | Name y p4 =>
              rcases es2 with _ | ⟨e2, _ | ⟨_, _⟩⟩
              · exact absurd hc (by cases ks2 <;> cases ks <;> exact Bool.false_ne_true)
              · cases ks2 with
                | cons _ _ => exact absurd hc (by cases ks <;> exact Bool.false_ne_true)
                | nil =>
                  cases ks with
                  | cons _ _ => exact absurd hc Bool.false_ne_true
                  | nil =>
                    have h : (decide (x = "reversed") && glB sc x && decide (y = "range") && glB sc y && plainE e2 && chk fns N a sc [e2]) = true := hc
                    simp only [Bool.and_eq_true, decide_eq_true_eq] at h
                    obtain ⟨⟨⟨⟨⟨h1, h2⟩, h3⟩, h4⟩, h5⟩, h6⟩ := h
                    exact iRvrGo ok (ih.e b X sc hC ok e2 h6) h1 h2 h3 h4 h5
              · exact absurd hc (by cases ks2 <;> cases ks <;> exact Bool.false_ne_true)
            | _ => exact absurd hc (by cases ks <;> exact Bool.false_ne_true)
          | _ => exact absurd hc (by cases ks <;> exact Bool.false_ne_true)
        · exact absurd hc (by
            cases e with
            | Call f2 e2 k2 p3 => cases f2 <;> rcases e2 with _ | ⟨_, _ | ⟨_, _⟩⟩ <;> cases k2 <;> cases ks <;> exact Bool.false_ne_true
            | _ => cases ks <;> exact Bool.false_ne_true)
      | _ => exact absurd hc Bool.false_ne_true
    | _ => exact absurd hc Bool.false_ne_true
  | callL f j a iha =>
    refine Sn.mk0 rfl rfl rfl (fun _ _ _ _ => rfl) fun b X sc hC ok e hc => ?_
    cases e with
    | Call fn es ks p =>
      cases fn with
      | Name x p2 =>
        cases es with
        | nil => exact absurd hc Bool.false_ne_true
        | cons e es =>
          cases e with
          | Name y p3 =>
            cases ks with
            | cons _ _ => exact absurd hc Bool.false_ne_true
            | nil =>
              have z := eCallL (p := p2) (p2 := p3) (pos := p) ok hC iha hc
              exact ⟨z, ptOf z fun _ => rfl⟩
          | _ => exact absurd hc Bool.false_ne_true
      | _ => exact absurd hc Bool.false_ne_true
    | _ => exact absurd hc Bool.false_ne_true
  | lemp j =>
    refine Sn.mk0 rfl rfl rfl (fun _ _ _ _ => rfl) fun b X sc hC ok e hc => ?_
    cases e with
    | Compare l os rs p =>
      cases l with
      | Name x p2 =>
        rcases os with _ | ⟨o, _ | ⟨_, _⟩⟩
        · exact absurd hc Bool.false_ne_true
        · rcases rs with _ | ⟨r, _ | ⟨_, _⟩⟩
          · exact absurd hc (by cases o <;> exact Bool.false_ne_true)
          · cases r with
            | List es p3 =>
              cases es with
              | cons _ _ => exact absurd hc (by cases o <;> exact Bool.false_ne_true)
              | nil =>
                cases o with
                | Eq =>
                  have h : (nmB N j x && visB sc x) = true := hc
                  exact eLemp ok h
                | _ => exact absurd hc Bool.false_ne_true
            | _ => exact absurd hc (by cases o <;> exact Bool.false_ne_true)
          · exact absurd hc (by
              cases r with
              | List es p3 => cases o <;> cases es <;> exact Bool.false_ne_true
              | _ => cases o <;> exact Bool.false_ne_true)
        · exact absurd hc (by
            rcases rs with _ | ⟨r, _ | ⟨_, _⟩⟩
            · cases o <;> exact Bool.false_ne_true
            · cases r with
              | List es p3 => cases o <;> cases es <;> exact Bool.false_ne_true
              | _ => cases o <;> exact Bool.false_ne_true
            · cases r with
              | List es p3 => cases o <;> cases es <;> exact Bool.false_ne_true
              | _ => cases o <;> exact Bool.false_ne_true)
      | _ => exact absurd hc Bool.false_ne_true
    | _ => exact absurd hc Bool.false_ne_true
  | lix j n =>
    refine Sn.mk0 rfl rfl rfl (fun _ _ _ _ => rfl) fun b X sc hC ok e hc => ?_
    cases e with
    | Subscript o ke p =>
      cases o with
      | Name x p2 =>
        cases ke with
        | Constant c m p3 =>
          cases c with
          | int i =>
            have h : (nmB N j x && visB sc x && decide (i = (n : Int))) = true := hc
            rw [Bool.and_eq_true, decide_eq_true_eq] at h
            obtain ⟨h1, rfl⟩ := h
            have z := eLix (X := X) (b := b) (Φ := Φ) (p := p2) (p2 := p3) (p3 := p) (n := m) (m := n) ok h1
            exact ⟨z, ptOf z fun _ => rfl⟩
          | _ => exact absurd hc Bool.false_ne_true
        | _ => exact absurd hc Bool.false_ne_true
      | _ => exact absurd hc Bool.false_ne_true
    | _ => exact absurd hc Bool.false_ne_true
  | callLP f j a iha =>
    refine Sn.mk0 rfl rfl rfl (fun _ _ _ _ => rfl) fun b X sc hC ok e hc => ?_
    cases e with
    | Call fn es ks p =>
      cases fn with
      | Name x p2 =>
        cases es with
        | nil => exact absurd hc Bool.false_ne_true
        | cons e es =>
          cases e with
          | Name y p3 =>
            cases ks with
            | cons _ _ => exact absurd hc Bool.false_ne_true
            | nil =>
              have z := eCallLP (p := p2) (p2 := p3) (pos := p) ok hC iha hc
              exact ⟨z, ptOf z fun _ => rfl⟩
          | _ => exact absurd hc Bool.false_ne_true
      | _ => exact absurd hc Bool.false_ne_true
    | _ => exact absurd hc Bool.false_ne_true
  | lcL t it elt j ih1 ih2 =>
    refine Sn.mk0 rfl rfl rfl (fun _ _ _ _ => rfl) fun b X sc hC ok e hc => ?_
    cases e with
    | ListComp e gs scope p =>
      rcases gs with _ | ⟨⟨tg, iter, ifs, as⟩, _ | ⟨_, _⟩⟩
      · exact absurd hc Bool.false_ne_true
      · cases ifs with
        | cons _ _ => exact absurd hc Bool.false_ne_true
        | nil =>
          have h : (decide (as = 0) && plainE iter && isIt it && chk fns N it sc [iter, tg] && tgB (blB scope sc) N t tg && blkC N sc scope (tgOwn t tg) && !(tgs t).contains j && chk fns N elt (relS scope sc) [e]) = true := hc
          simp only [Bool.and_eq_true, decide_eq_true_eq, Bool.not_eq_true'] at h
          obtain ⟨⟨⟨⟨⟨⟨⟨rfl, g1⟩, g2⟩, g3⟩, g4⟩, g5⟩, g6⟩, g7⟩ := h
          have z := eLcL (p := p) ok hC ih1 ih2 g2 g3 g4 g5 g6 g7 g1
          exact ⟨z, ptOf z fun _ => rfl⟩
      · exact absurd hc (by cases ifs <;> exact Bool.false_ne_true)
    | _ => exact absurd hc Bool.false_ne_true
  | lcK t it elt j ih1 ih2 =>
    refine Sn.mk0 rfl rfl rfl (fun _ _ _ _ => rfl) fun b X sc hC ok e hc => ?_
    cases e with
    | ListComp e gs scope p =>
      rcases gs with _ | ⟨⟨tg, iter, ifs, as⟩, _ | ⟨_, _⟩⟩
      · exact absurd hc Bool.false_ne_true
      · cases ifs with
        | cons _ _ => exact absurd hc Bool.false_ne_true
        | nil =>
          have h : (decide (as = 0) && plainE iter && isIt it && chk fns N it sc [iter, tg] && tgB (blB scope sc) N t tg && blkC N sc scope (tgOwn t tg) && !(tgs t).contains j && chk fns N elt (relS scope sc) [e]) = true := hc
          simp only [Bool.and_eq_true, decide_eq_true_eq, Bool.not_eq_true'] at h
          obtain ⟨⟨⟨⟨⟨⟨⟨rfl, g1⟩, g2⟩, g3⟩, g4⟩, g5⟩, g6⟩, g7⟩ := h
          have z := eLcK (p := p) ok hC ih1 ih2 g2 g3 g4 g5 g6 g7 g1
          exact ⟨z, ptOf z fun _ => rfl⟩
      · exact absurd hc (by cases ifs <;> exact Bool.false_ne_true)
    | _ => exact absurd hc Bool.false_ne_true
  | lpop0 j =>
    refine Sn.mk0 rfl rfl rfl (fun _ _ _ _ => rfl) fun b X sc hC ok e hc => ?_
    cases e with
    | Call fn es ks p =>
      cases fn with
      | Attribute o m q =>
        cases o with
        | Name x p2 =>
          rcases es with _ | ⟨e, _ | ⟨_, _⟩⟩
          · exact absurd hc Bool.false_ne_true
          · cases e with
            | Constant c n p3 =>
              cases c with
              | int i =>
                cases ks with
                | cons _ _ => exact absurd hc Bool.false_ne_true
                | nil =>
                  have h : (decide (m = "pop") && nmB N j x && visB sc x && decide (i = 0) && (q.endLine == p.line)) = true := hc
                  simp only [Bool.and_eq_true, decide_eq_true_eq] at h
                  obtain ⟨⟨⟨⟨rfl, h1⟩, h2⟩, rfl⟩, h3⟩ := h
                  have z := eLpop0 (X := X) (b := b) (Φ := Φ) (p := p2) (p2 := q) (p3 := p) (p4 := p3) (n := n) ok (by rw [h1, h2]; rfl) h3
                  exact ⟨z, ptOf z fun _ => rfl⟩
              | _ => exact absurd hc (by cases ks <;> exact Bool.false_ne_true)
            | _ => exact absurd hc (by cases ks <;> exact Bool.false_ne_true)
          · exact absurd hc (by
              cases e with
              | Constant c n p3 => cases c <;> cases ks <;> exact Bool.false_ne_true
              | _ => cases ks <;> exact Bool.false_ne_true)
        | _ => exact absurd hc Bool.false_ne_true
      | _ => exact absurd hc Bool.false_ne_true
    | _ => exact absurd hc Bool.false_ne_true
  | dget j ki xi ih1 ih2 =>
    refine Sn.mk0 rfl rfl rfl (fun _ _ _ _ => rfl) fun b X sc hC ok e hc => ?_
    cases e with
    | Call fn es ks p =>
      cases fn with
      | Attribute o m q =>
        cases o with
        | Name x p2 =>
          rcases es with _ | ⟨e, _ | ⟨f, _ | ⟨_, _⟩⟩⟩
          · exact absurd hc Bool.false_ne_true
          · exact absurd hc (by cases ks <;> exact Bool.false_ne_true)
          · cases ks with
            | cons _ _ => exact absurd hc Bool.false_ne_true
            | nil =>
              have h : (decide (m = "get") && nmB N j x && visB sc x && (q.endLine == p.line) && plainE e && plainE f && chk fns N ki sc [e] && chk fns N xi sc [f]) = true := hc
              simp only [Bool.and_eq_true, decide_eq_true_eq] at h
              obtain ⟨⟨⟨⟨⟨⟨⟨rfl, h1⟩, h2⟩, h3⟩, h4⟩, h5⟩, h6⟩, h7⟩ := h
              have z := eDget (X := X) (b := b) (Φ := Φ) (p := p) (q := q) (p2 := p2) ok (by rw [h1, h2]; rfl) h3 h4 h5 (ih1.e b X sc hC ok e h6) (ih2.e b X sc hC ok f h7)
              exact ⟨z, ptOf z fun _ => rfl⟩
          · exact absurd hc (by cases ks <;> exact Bool.false_ne_true)
        | _ => exact absurd hc Bool.false_ne_true
      | _ => exact absurd hc Bool.false_ne_true
    | _ => exact absurd hc Bool.false_ne_true
  | dix j ki ih =>
    refine Sn.mk0 rfl rfl rfl (fun _ _ _ _ => rfl) fun b X sc hC ok e hc => ?_
    cases e with
    | Subscript o e p =>
      cases o with
      | Name x p2 =>
        have h : (nmB N j x && visB sc x && plainE e && chk fns N ki sc [e]) = true := hc
        rw [Bool.and_eq_true, Bool.and_eq_true] at h
        obtain ⟨⟨h1, h2⟩, h3⟩ := h
        have z := eDix (X := X) (b := b) (Φ := Φ) (p := p) (p2 := p2) ok h1 h2 (ih.e b X sc hC ok e h3)
        exact ⟨z, ptOf z fun _ => rfl⟩
      | _ => exact absurd hc Bool.false_ne_true
    | _ => exact absurd hc Bool.false_ne_true
  | dsrt j =>
    refine Sn.mk0 rfl rfl rfl (fun _ _ _ _ => rfl) fun b X sc hC ok e hc => ?_
    cases e with
    | Call fn es ks p =>
      cases fn with
      | Name x p2 =>
        rcases es with _ | ⟨e, _ | ⟨_, _⟩⟩
        · exact absurd hc Bool.false_ne_true
        · cases e with
          | Name y p3 =>
            cases ks with
            | cons _ _ => exact absurd hc Bool.false_ne_true
            | nil =>
              have h : (decide (x = "sorted") && glB sc x && nmB N j y && visB sc y) = true := hc
              simp only [Bool.and_eq_true, decide_eq_true_eq] at h
              obtain ⟨⟨⟨rfl, h1⟩, h2⟩, h3⟩ := h
              have z := eDsrt (X := X) (b := b) (Φ := Φ) (p := p2) (p2 := p3) (pos := p) ok rfl h1 (j := j) (y := y) (by rw [h2, h3]; rfl)
              exact ⟨z, ptOf z fun _ => rfl⟩
          | _ => exact absurd hc Bool.false_ne_true
        · exact absurd hc (by cases e <;> exact Bool.false_ne_true)
      | _ => exact absurd hc Bool.false_ne_true
    | _ => exact absurd hc Bool.false_ne_true
  | lit d =>
    refine Sn.mk0 rfl rfl rfl (fun _ _ _ _ => rfl) fun b X sc hC ok e hc => ?_
    have h : (isTup e && litX d e) = true := hc
    rw [Bool.and_eq_true] at h
    have z : PE X e (rdE X.K b (wE Φ (.lit d))) := eLitX d e h.2
    cases e with
    | Tuple es n p => exact ⟨z, ptOf z fun _ => rfl⟩
    | _ => exact absurd h.1 Bool.false_ne_true
  | srt a ih =>
    refine Sn.mk0 rfl rfl rfl (fun _ _ _ _ => rfl) fun b X sc hC ok e hc => ?_
    cases e with
    | Call fn es ks p =>
      cases fn with
      | Name x p2 =>
        rcases es with _ | ⟨e, _ | ⟨_, _⟩⟩
        · exact absurd hc Bool.false_ne_true
        · cases ks with
          | cons _ _ => exact absurd hc Bool.false_ne_true
          | nil =>
            have h : (decide (x = "sorted") && glB sc x && plainE e && chk fns N a sc [e]) = true := hc
            simp only [Bool.and_eq_true, decide_eq_true_eq] at h
            obtain ⟨⟨⟨rfl, h1⟩, h2⟩, h3⟩ := h
            have z := eSrt (X := X) (b := b) (Φ := Φ) (p := p2) (pos := p) ok rfl h1 h2 (ih.e b X sc hC ok e h3)
            exact ⟨z, ptOf z fun _ => rfl⟩
        · exact absurd hc (by cases ks <;> exact Bool.false_ne_true)
      | _ => exact absurd hc Bool.false_ne_true
    | _ => exact absurd hc Bool.false_ne_true
  | lcD t it c elt j ih1 ih2 ih3 =>
    refine Sn.mk0 rfl rfl rfl (fun _ _ _ _ => rfl) fun b X sc hC ok e hc => ?_
    cases e with
    | ListComp e gs scope p =>
      rcases gs with _ | ⟨⟨tg, iter, ifs, as⟩, _ | ⟨_, _⟩⟩
      · exact absurd hc Bool.false_ne_true
      · have h : (decide (as = 0) && plainE iter && isIt it && chk fns N it sc [iter, tg] && tgB (blB scope sc) N t tg && blkC N sc scope (tgOwn t tg) && !(tgs t).contains j && ifsB (isNil c) ifs (fun f => chk fns N c (relS scope sc) [f]) && chk fns N elt (relS scope sc) [e]) = true := hc
        simp only [Bool.and_eq_true, decide_eq_true_eq, Bool.not_eq_true'] at h
        obtain ⟨⟨⟨⟨⟨⟨⟨⟨rfl, g1⟩, g2⟩, g3⟩, g4⟩, g5⟩, g6⟩, g7⟩, g8⟩ := h
        have z := eLcD (p := p) ok hC ih1 ih2 ih3 g2 g3 g4 g5 g6 g7 g8 g1
        exact ⟨z, ptOf z fun _ => rfl⟩
      · exact absurd hc Bool.false_ne_true
    | _ => exact absurd hc Bool.false_ne_true
  | dlc t c elt j ih2 ih3 =>
    refine Sn.mk0 rfl rfl rfl (fun _ _ _ _ => rfl) fun b X sc hC ok e hc => ?_
    cases e with
    | ListComp e gs scope p =>
      rcases gs with _ | ⟨⟨tg, iter, ifs, as⟩, _ | ⟨_, _⟩⟩
      · exact absurd hc Bool.false_ne_true
      · cases iter with
        | Call fn es ks p3 =>
          cases fn with
          | Attribute o m q =>
            cases o with
            | Name y p2 =>
              cases es with
              | cons _ _ => exact absurd hc (by cases ks <;> exact Bool.false_ne_true)
              | nil =>
                cases ks with
                | cons _ _ => exact absurd hc Bool.false_ne_true
                | nil =>
                  have h : (decide (as = 0) && decide (m = "items") && (q.endLine == p3.line) && nmB N j y && visB sc y && isTup tg && tgB (blB scope sc) N t tg && blkC N sc scope (tgOwn t tg) && ifsB (isNil c) ifs (fun f => chk fns N c (relS scope sc) [f]) && chk fns N elt (relS scope sc) [e]) = true := hc
                  simp only [Bool.and_eq_true, decide_eq_true_eq] at h
                  obtain ⟨⟨⟨⟨⟨⟨⟨⟨⟨rfl, rfl⟩, g1⟩, g2⟩, g3⟩, g4⟩, g5⟩, g6⟩, g7⟩, g8⟩ := h
                  have z := eDlc (p := p) (p2 := p2) (p3 := p3) (q := q) ok hC ih2 ih3 (j := j) (y := y) (by rw [g2, g3]; rfl) g1 g4 g5 g6 g7 g8
                  exact ⟨z, ptOf z fun _ => rfl⟩
            | _ => exact absurd hc Bool.false_ne_true
          | _ => exact absurd hc Bool.false_ne_true
        | _ => exact absurd hc Bool.false_ne_true
      · exact absurd hc (by
          cases iter with
          | Call fn es ks p3 =>
            cases fn with
            | Attribute o m q => cases o <;> cases es <;> cases ks <;> exact Bool.false_ne_true
            | _ => exact Bool.false_ne_true
          | _ => exact Bool.false_ne_true)
    | _ => exact absurd hc Bool.false_ne_true
  | gc f d =>
    refine Sn.mk0 rfl rfl rfl (fun _ _ _ _ => rfl) fun b X sc hC ok e hc => ?_
    cases e with
    | Name x p => exact ⟨eGc ok hc, ptOf (eGc ok hc) fun _ => rfl⟩
    | _ => exact absurd hc Bool.false_ne_true
end
end Rc

/-! Statements. -/
namespace Rc
open PySem PySem.Spec PyProof.Rows L2
/-! ### the look at the text -/
def isSq : IS → Bool
  | .nil => true
  | .seq _ _ => true
  | .still _ _ => true
  | .lend _ _ => true
  | _ => false
/-- the store of a comprehension is done within its frame -/
def swB (sc : Scope) (x : Str) (l : Nat) : Expr → Bool
  | .ListComp _ _ scope p => lclB sc x && (l == p.line) && !(scope.names.any fun (n, k) => n == x && (k == .local || k == .cell))
  | _ => false
def cellB (sc : Scope) (x : Str) : Bool := match sc.names.lookup x with
  | some .cell => true
  | _ => false
def isLC : Expr → Bool
  | .ListComp .. => true
  | _ => false
def notTup : Expr → Bool
  | .Tuple vs _ _ => !(vs.length == 2 || vs.length == 3) || vs.all (foldedForSure 8)
  | _ => true
theorem swN {es : List Expr} {v : Expr} {n : Nat} {p : Pos} {env : Env} (h : notTup v = true) : swappedStores [.Tuple es n p] v env = pure none := by
  cases v with
  | Tuple vs m q =>
    have h : (!(vs.length == 2 || vs.length == 3) || vs.all (foldedForSure 8)) = true := h
    unfold swappedStores
    dsimp only
    split
    · rfl
    · rename_i g
      split
      · rfl
      · split
        · rfl
        · split
          · rfl
          · rename_i g2
            exfalso
            rw [Bool.or_eq_true] at h
            rcases h with h | h
            · refine g ?_
              rw [Bool.or_eq_true, Bool.or_eq_true]
              by_cases e : vs.length = es.length
              · rw [e] at h
                exact .inl (.inl h)
              · exact .inl (.inr (by simpa using e))
            · exact g2 h
  | _ => rfl
def noStarB : Expr → Bool
  | .Starred .. => false
  | _ => true
/-- two or three names by as many values, stored from the right -/
def parB (sc : Scope) (xs : List (Str × Pos)) (vs : List Expr) : Bool :=
  (xs.all fun q => lclB sc q.1 && (q.2.line == ((xs.head?.map (·.2.line)).getD 0))) && vs.all noStarB && !(vs.all (foldedForSure 8)) && !(vs.all (constantsAlone 8))
def isDl : IE → Bool
  | .dlc .. => true
  | .lcD .. => true
  | .lcO .. => true
  | _ => false
def isStr : Expr → Bool
  | .Constant (.str _) _ _ => true
  | _ => false
def isBH : HE → Bool
  | .cst (.bool _) => true
  | .cst _ => false
  | _ => true
section
variable (cls : List Str) (N : List Str) (jo : Option Nat)
def isxB (sc : Scope) (x n : Str) : Bool := decide (x = "isinstance") && glB sc x && (match jo with
  | some j => nmB N j n && visB sc n
  | none => false)
def chkH : HE → Scope → List Expr → Bool
  | .cst c, _, [.Constant k _ _] => litB c k
  | .isx c, sc, [.Call (.Name x _) [.Name n _, .Name y _] [] _] => isxB N jo sc x n && decide (cls[c]? = some y) && glB sc y && !(y == ("__debug__" : Str))
  | .isv, sc, [.Call (.Name x _) [.Name n _, .Name y _] [] _] => isxB N jo sc x n && decide (y = "ValueError") && glB sc y && !cls.isEmpty
  | .bnot a, sc, [.UnaryOp .Not e _] => isBH a && chkH a sc [e]
  | .band a r, sc, [.BoolOp .And (x :: y :: rest) p] => isBH a && isBH r && chkH a sc [x] && chkH r sc [.BoolOp .And (y :: rest) p]
  | .bor a r, sc, [.BoolOp .Or (x :: y :: rest) p] => isBH a && isBH r && chkH a sc [x] && chkH r sc [.BoolOp .Or (y :: rest) p]
  | .bone a, sc, [.BoolOp _ [x] _] => isBH a && chkH a sc [x]
  | _, _, _ => false
/-- a text that is put behind -/
def chkHT : HT → Scope → Expr → Bool
  | .str s, _, .Constant (.str x) _ _ => decide (s = x)
  | .pick a b c, sc, .Subscript (.List [.Constant (.str x) _ _, .Constant (.str y) _ _] _) (.Call (.Name n _) [e] [] _) _ => decide (a = x) && decide (b = y) && decide (n = "int") && glB sc n && plainE e && isBH c && chkH cls N jo c sc [e]
  | _, _, _ => false
/-- the suite: the name of the clause is stored in no place of its own -/
def chkHS : HS → Scope → List Stmt → Bool
  | .nil, _, [] => true
  | .asg j e r, sc, .Assign [.Name x p] v _ :: sts => nmB N j x && locB sc x && noComp v && !(decide (jo = some j)) && chkH cls N jo e sc [v] && chkHS r sc sts
  | .ite c a b r, sc, .If t x y _ :: sts => isBH c && chkH cls N jo c sc [t] && chkHS a sc x && chkHS b sc y && chkHS r sc sts
  | .ret e, sc, [.Return (some v) _] => chkH cls N jo e sc [v]
  | .asgC j i t r, sc, .Assign [.Name x _] (.BinOp (.Name y _) .Add e _) _ :: sts => nmB N j x && locB sc x && nmB N i y && visB sc y && !(decide (jo = some j)) && chkHT cls N jo t sc e && chkHS r sc sts
  | _, _, _ => false
def excB (sc : Scope) (n : Option Str) : Bool := match jo, n with
  | some j, some n => nmB N j n && lclB sc n
  | none, none => true
  | _, _ => false
end
section
variable (fns : List FnI) (cls : List Str) (N : List Str)
def chkS : IS → Scope → List Stmt → Bool
  | .nil, _, [] => true
  | .seq s r, sc, st :: sts => !isSq s && chkS s sc [st] && isSq r && chkS r sc sts
  | .still j r, sc, sts => isSq r && chkS r sc sts
  | .asg j e, sc, [.Assign [.Name x p] v _] => nmB N j x && locB sc x && (if isLC v then (swB sc x p.line v || cellB sc x) && !isDl e else noComp v) && chk fns N e sc [v]
  | .asgT js e, sc, [.Assign [.Tuple es _ _] v _] => tgsB (locB sc) N js es && notTup v && noComp v && chk fns N e sc [v]
  | .par i j a b, sc, [.Assign [.Tuple [.Name x px, .Name y py] _ _] (.Tuple [ea, eb] _ _) _] => nmB N i x && nmB N j y && decide (i ≠ j) && parB sc [(x, px), (y, py)] [ea, eb] &&
      plainE ea && plainE eb && chk fns N a sc [ea] && chk fns N b sc [eb]
  | .setIx j k e, sc, [.Assign [.Subscript (.Name x _) ke _] v _] => nmB N j x && visB sc x && plainE ke && noComp v && chk fns N e sc [v] && chk fns N k sc [ke]
  | .app j e, sc, [.Expr (.Call (.Attribute (.Name x _) m q) [v] [] r) _] => decide (m = "append") && nmB N j x && visB sc x && plainE v && (q.endLine == r.line) && chk fns N e sc [v]
  | .pop j, sc, [.Expr (.Call (.Attribute (.Name x _) m q) [] [] r) _] => decide (m = "pop") && nmB N j x && visB sc x && (q.endLine == r.line)
  | .drop e, sc, [.Expr v _] => noComp v && chk fns N e sc [v]
  | .ret e, sc, [.Return (some v) _] => chk fns N e sc [v]
  | .retN, _, [.Return none _] => true
  | .ite c a b, sc, [.If t x y _] => chk fns N c sc [t] && isSq a && isSq b && chkS a sc x && chkS b sc y
  | .whl c b, sc, [.While t x [] _] => chk fns N c sc [t] && isSq b && chkS b sc x
  | .forr t it b, sc, [.For tg iter x [] _] => isIt it && plainE iter && chk fns N it sc [iter, tg] && tgB (locB sc) N t tg && isSq b && chkS b sc x
  | .raise c, sc, [.Raise (some (.Call (.Name x _) [e] [] _)) none _] => decide (cls[c]? = some x) && glB sc x && !(x == ("__debug__" : Str)) && isStr e
  | .try1 s c j h, sc, [.Try x [.ExceptHandler (some (.Name y _)) n (h0 :: hs) _] [] [] _] => isSq s && chkS s sc x && decide (cls[c]? = some y) && glB sc y && !(y == ("__debug__" : Str)) && excB N j sc n && chkHS cls N j h sc (h0 :: hs)
  | .brk, _, [.Break _] => true
  | .cont, _, [.Continue _] => true
  | .pass, _, [.Pass _] => true
  | .never, _, [_] => true
  | .ins j k e, sc, [.Expr (.Call (.Attribute (.Name x _) m q) [ke, v] [] r) _] => decide (m = "insert") && nmB N j x && visB sc x && plainE ke && plainE v && (q.endLine == r.line) && chk fns N k sc [ke] && chk fns N e sc [v]
  | .popT t j, sc, [.Assign [tg] (.Call (.Attribute (.Name x _) m q) [] [] r) _] => decide (m = "pop") && tgB (locB sc) N t tg && nmB N j x && visB sc x && (q.endLine == r.line)
  | .popI t j k, sc, [.Assign [tg] (.Call (.Attribute (.Name x _) m q) [ke] [] r) _] => decide (m = "pop") && tgB (locB sc) N t tg && nmB N j x && visB sc x && (q.endLine == r.line) && plainE ke && chk fns N k sc [ke]
  | .ext j e, sc, [.Expr (.Call (.Attribute (.Name x _) m q) [v] [] r) _] => decide (m = "extend") && nmB N j x && visB sc x && plainE v && (q.endLine == r.line) && chk fns N e sc [v]
  | .set2 j k l e, sc, [.Assign [.Tuple [.Subscript (.Name x _) ke _, .Subscript (.Name y _) le _] _ _] v _] => nmB N j x && visB sc x && (nmB N j y && visB sc y) && plainE ke && plainE le && noComp v && chk fns N e sc [v] && chk fns N k sc [ke] && chk fns N l sc [le]
  | .aug j o e, sc, [.AugAssign (.Name x _) o' v _] => decide (o = o') && nmB N j x && locB sc x && chk fns N e sc [v]
  | .clr j, sc, [.Expr (.Call (.Attribute (.Name x _) m q) [] [] r) _] => decide (m = "clear") && nmB N j x && visB sc x && (q.endLine == r.line)
  | .clrE e, sc, [.Expr (.Call (.Attribute (.Call f (e1 :: es) ks fp) m q) [] [] r) _] => decide (m = "clear") && (q.endLine == r.line) && chk fns N e sc [.Call f (e1 :: es) ks fp]
  | .lend j r, sc, sts => isSq r && chkS r sc sts
  | .retL e, sc, [.Return (some v) _] => chk fns N e sc [v]
  | .lset j n e, sc, [.Assign [.Subscript (.Name x _) (.Constant (.int i) _ _) _] v _] => nmB N j x && visB sc x && decide (i = (n : Int)) && noComp v && chk fns N e sc [v]
  | .asgN t e, sc, [.Assign [.Tuple es n p] v _] => tgB (locB sc) N t (.Tuple es n p) && notTup v && noComp v && chk fns N e sc [v]
  | .dnew j _, sc, [.Assign [.Name x _] (.Dict [] [] _) _] => nmB N j x && locB sc x
  | .dset j k e, sc, [.Assign [.Subscript (.Name x _) ke _] v _] => nmB N j x && visB sc x && plainE ke && noComp v && chk fns N e sc [v] && chk fns N k sc [ke]
  | .forP t j c e, sc, [.For tg (.Name x _) [.If ce [.Return (some v) _] [] _] [] _] => nmB N j x && visB sc x && !((tgs t).contains j) && tgB (locB sc) N t tg && chk fns N c sc [ce] && chk fns N e sc [v]
  | _, _, _ => false
end
theorem noSw2 {e t : Expr} {l : Nat} {env : Env} (h : noComp e = true) : swapsWithSole [t] e l env = pure false := by
  cases e <;> first | rfl | exact absurd h Bool.false_ne_true
/-! ### readings -/
structure EnOk (K : PySem.W.Frag) (b : Bd) (E : En) (D : Ends) : Prop where
  nx : ∀ σ ε H F, Rep K b.H0 b.F0 F H σ ε → E.nx ε → D.nx σ H
  rt : ∀ v σ ε H F x, Rep K b.H0 b.F0 F H σ ε → VAt K b.H0 F H σ ε x v → E.rt v → D.rt x H
  bk : ∀ σ ε H F, Rep K b.H0 b.F0 F H σ ε → E.bk ε → D.bk σ H
  ct : ∀ σ ε H F, Rep K b.H0 b.F0 F H σ ε → E.ct ε → D.ct σ H
  ex : ∀ c σ ε H F, Rep K b.H0 b.F0 F H σ ε → E.ex c ε → b.W (.ref (b.C c)) none σ H
def rdS (K : PySem.W.Frag) (b : Bd) (T : Ev → En → Prop) : TS := fun D σ H => ∃ ε F E, Rep K b.H0 b.F0 F H σ ε ∧ T ε E ∧ EnOk K b E D
theorem EnOk.toEx {K : PySem.W.Frag} {b : Bd} {E : En} {D : Ends} (h : EnOk K b E D) {σ : St} {H : Hp} : Ex K b E.ex σ H := fun c ε' H' F' _ R q => h.ex c σ ε' H' F' R q
section
variable {X : Cx} {K : PySem.W.Frag} {b : Bd} {E : En} {D : Ends}
theorem EnOk.nx' (h : EnOk K b E D) {nx : Ev → Prop} {nx' : St → Hp → Prop} (q : ∀ σ ε H F, Rep K b.H0 b.F0 F H σ ε → nx ε → nx' σ H) : EnOk K b { E with nx := nx } { D with nx := nx' } := ⟨q, h.rt, h.bk, h.ct, h.ex⟩
theorem psEx {α : Type} {st : Stmt} {t : α → TS} (h : ∀ a, PS X st (t a)) : PS X st (fun D σ H => ∃ a, t a D σ H) := ⟨fun pins s σ H D I ⟨a, w⟩ => (h a).run pins s σ H D I w⟩
theorem pssEx {α : Type} {sts : List Stmt} {t : α → TS} (h : ∀ a, PSs X sts (t a)) : PSs X sts (fun D σ H => ∃ a, t a D σ H) := ⟨fun pins s σ H D I ⟨a, w⟩ => (h a).run pins s σ H D I w⟩
/-- the ground moved up to what stands still now -/
theorem Rep.up {H0 : Zn} {F0 F H : Hp} {σ : St} {ε : Ev} (R : Rep K H0 F0 F H σ ε) : Rep K H0 F F H σ ε := ⟨R.fh, .refl _, R.h0, fun _ _ h => .inl h, R.len, R.dat, R.own, R.uni, R.lnt, R.one, R.ll, R.dcs⟩
theorem Rep.down {H0 : Zn} {F0 F1 F H H1 : Hp} {σ σ1 : St} {ε ε1 : Ev} (R1 : Rep K H0 F0 F1 H1 σ1 ε1) (R : Rep K H0 F1 F H σ ε) : Rep K H0 F0 F H σ ε :=
  ⟨R.fh, R1.ff.trans R.ff, R.h0, fun a o h => (R.fr a o h).elim (R1.fr a o) .inr, R.len, R.dat, R.own, R.uni, R.lnt, R.one, R.ll, R.dcs⟩
theorem EnOk.up {F1 H1 : Hp} {σ1 : St} {ε1 : Ev} (R1 : Rep K b.H0 b.F0 F1 H1 σ1 ε1) (h : EnOk K b E D) : EnOk K { b with F0 := F1 } E D where
  nx := fun σ ε H F R => h.nx σ ε H F (R1.down R)
  rt := fun v σ ε H F x R a => h.rt v σ ε H F x (R1.down R) a
  bk := fun σ ε H F R => h.bk σ ε H F (R1.down R)
  ct := fun σ ε H F R => h.ct σ ε H F (R1.down R)
  ex := fun c σ ε H F R => h.ex c σ ε H F (R1.down R)
end
section
variable {fns : List FnI} {cls : List Str} {N : List Str} {C : Nat → Addr} {Φ : Fs} {k : Nat} {X : Cx} {b : Bd} {sc : Scope}
structure Cks (X : Cx) : Prop where
  pas : PassesOwn (model X.prog X.w) X.A X.env X.xe
  fn : ∀ x, X.fn x = true
  kind : X.env.scope.kind = .function
  stack : X.stack = X.env :: X.outer
  frame : X.env.frame = some X.env.locals
theorem rdGo {e : IE} {Kk : Ev → En → KE} {D : Ends} {σ : St} {H : Hp} {Q : VK} (h : rdS X.K b (fun ε E => wE Φ e ε E.ex (Kk ε E)) D σ H)
    (q : ∀ ε F E, Rep X.K b.H0 b.F0 F H σ ε → EnOk X.K b E D → ∀ v ε' H' F' x, SubZ b.H0 H H' → Sub F F' → Rep X.K b.H0 b.F0 F' H' σ ε' → VAt X.K b.H0 F' H' σ ε' x v → Kk ε E v ε' → Q x H') : rdE X.K b (wE Φ e) σ H Q := by
  obtain ⟨ε, F, E, R, w, en⟩ := h
  exact ⟨ε, F, E.ex, _, R, w, en.toEx, q ε F E R en⟩
theorem sAsg (ok : Cok fns cls N C Φ k X sc b.W) (ks : Cks X) {j : Nat} {x : Str} {e : IE} {v : Expr} {p pos : Pos} (h1 : nmB N j x = true) (h2 : locB sc x = true) (h3 : noComp v = true) (he : PE X v (rdE X.K b (wE Φ e))) :
    PS X (.Assign [.Name x p] v pos) (rdS X.K b (wS Φ (.asg j e))) := by
  obtain ⟨g1, _, _⟩ := nmB_of h1
  refine psImp (ps_set ok.nd (by rw [ok.eN]; exact g1) (by rw [ok.esc]; exact locB_of h2) he (noSw h3) (.inl (ks.fn x))) fun D σ H h => ?_
  refine rdGo h fun ε F E R en v ε' H' F' z s f R' a q => ?_
  cases v with
  | d y => exact en.nx _ _ H' F' (R'.store a j) q
  | own ys => exact en.nx _ _ H' F' (R'.store a j) q
  | _ => exact q.elim
theorem sw_cell {elt : Expr} {gs : List Comprehension} {scope : Scope} {pos py : Pos} {y : Str} {l : Nat} {env : Env} (hy : env.scope.names.lookup y = some .cell) : swapsWith (.ListComp elt gs scope pos) (some (.Name y py)) l env = pure false := by
  have ky : env.kindOf y = some .cell := hy
  unfold swapsWith
  simp only [ky]
  cases env.blockKind == .function <;> rfl
/-- a comprehension that is stored in a cell -/
theorem sAsgC (ok : Cok fns cls N C Φ k X sc b.W) (ks : Cks X) {j : Nat} {x : Str} {e : IE} {v : Expr} {p pos : Pos} (h1 : nmB N j x = true) (h2 : locB sc x = true) (h3 : cellB sc x = true) (hl : isLC v = true) (he : PE X v (rdE X.K b (wE Φ e))) :
    PS X (.Assign [.Name x p] v pos) (rdS X.K b (wS Φ (.asg j e))) := by
  obtain ⟨g1, _, _⟩ := nmB_of h1
  have hc : X.env.scope.names.lookup x = some .cell := by
    rw [ok.esc]
    unfold cellB at h3
    split at h3
    · assumption
    · cases h3
  refine psImp (ps_set ok.nd (by rw [ok.eN]; exact g1) (by rw [ok.esc]; exact locB_of h2) he (by
    cases v with
    | ListComp e' gs scope p' => exact sw_cell hc
    | _ => exact absurd hl Bool.false_ne_true) (.inl (ks.fn x))) fun D σ H h => ?_
  refine rdGo h fun ε F E R en v ε' H' F' z s f R' a q => ?_
  cases v with
  | d y => exact en.nx _ _ H' F' (R'.store a j) q
  | own ys => exact en.nx _ _ H' F' (R'.store a j) q
  | _ => exact q.elim
theorem sAsgT (ok : Cok fns cls N C Φ k X sc b.W) (ks : Cks X) {js : List Nat} {es : List Expr} {e : IE} {v : Expr} {n : Nat} {p pos : Pos} (h1 : tgsB (locB sc) N js es = true) (h2 : notTup v = true) (h3 : noComp v = true) (he : PE X v (rdE X.K b (wE Φ e))) :
    PS X (.Assign [.Tuple es n p] v pos) (rdS X.K b (wS Φ (.asgT js e))) := by
  have hg : PG X (.Tuple es n p) (gTg X.K (.tup js)) := pgTg ok.nd ok.calm (p := locB sc) (fun x hx => ⟨by rw [ok.esc]; exact locB_of hx, .inl (ks.fn x)⟩) (by rw [ok.eN]; exact h1)
  refine psImp (ps_asg (peD he) hg (noSw2 h3) ?_ rfl) fun D σ H h => ?_
  · exact swN h2
  · obtain ⟨ε, F, E, R, w, en⟩ := h
    exact ⟨ε, F, E.ex, _, R, w, en.toEx, fun d ε' H' F' z s f R' a q => tgGo R' a q fun σ' ε2 R2 _ q2 => en.nx σ' ε2 H' F' R2 q2⟩
theorem sRet {e : IE} {v : Expr} {pos : Pos} (he : PE X v (rdE X.K b (wE Φ e))) : PS X (.Return (some v) pos) (rdS X.K b (wS Φ (.ret e))) := by
  refine psImp (ps_ret he) fun D σ H h => rdGo h fun ε F E R en v ε' H' F' z s f R' a q => ?_
  cases v with
  | d y => exact en.rt _ σ ε' H' F' z R' a q
  | own ys => exact en.rt _ σ ε' H' F' z R' a q
  | _ => exact q.elim
theorem sDrop {e : IE} {v : Expr} {pos : Pos} (h3 : noComp v = true) (he : PE X v (rdE X.K b (wE Φ e))) : PS X (.Expr v pos) (rdS X.K b (wS Φ (.drop e))) := by
  refine psImp (ps_expr he (noSw h3)) fun D σ H h => rdGo h fun ε F E R en v ε' H' F' z s f R' a q => ?_
  cases v with
  | d y => exact en.nx σ ε' H' F' R' q
  | own ys => exact en.nx σ ε' H' F' R' q
  | _ => exact q.elim
theorem sIf {c : IE} {s t : IS} {e : Expr} {x y : List Stmt} {pos : Pos} (hc : PT X e (rdT X.K b (wE Φ c))) (h1 : PSs X x (rdS X.K b (wS Φ s))) (h2 : PSs X y (rdS X.K b (wS Φ t))) :
    PS X (.If e x y pos) (rdS X.K b (wS Φ (.ite c s t))) :=
  psImp (ps_if hc h1 h2) fun D σ H ⟨ε, F, E, R, w, en⟩ => by
    refine ⟨ε, F, E.ex, _, R, w, en.toEx, fun d ε' H' F' s f R' q => ?_⟩
    cases d with
    | true => exact ⟨ε', F', E, R', q, en⟩
    | false => exact ⟨ε', F', E, R', q, en⟩
theorem sWhl (ks : Cks X) {c : IE} {s : IS} {e : Expr} {x : List Stmt} {pos : Pos} (hc : PT X e (rdT X.K b (wE Φ c))) (h1 : PSs X x (rdS X.K b (wS Φ s))) :
    PS X (.While e x [] pos) (rdS X.K b (wS Φ (.whl c s))) :=
  psImp (ps_while ks.pas hc h1) fun D σ H ⟨ε, F, E, R, ⟨I, ⟨m0, i0⟩, turn⟩, en⟩ => by
    refine ⟨fun m σ H => ∃ ε F, Rep X.K b.H0 b.F0 F H σ ε ∧ I m ε, ⟨m0, ε, F, R, i0⟩, ?_⟩
    rintro m σ H ⟨ε, F, R, i⟩
    refine ⟨ε, F, E.ex, _, R, turn m ε i, en.toEx, fun d ε' H' F' s f R' q => ?_⟩
    cases d with
    | false => exact en.nx σ ε' H' F' R' q
    | true =>
      refine ⟨fun σ' H' => ∃ ε F, Rep X.K b.H0 b.F0 F H' σ' ε ∧ ∃ m', m' < m ∧ I m' ε, ?_, ε', F', _, R', q, ?_⟩
      · rintro σ' H' ⟨ε, F, R, m', hm, i⟩
        exact ⟨m', hm, ε, F, R, i⟩
      · exact ⟨fun σ ε H F R q => ⟨ε, F, R, q⟩, en.rt, en.nx, fun σ ε H F R q => ⟨ε, F, R, q⟩, en.ex⟩
theorem sFor (ok : Cok fns cls N C Φ k X sc b.W) (ks : Cks X) {t : Tg} {it : IE} {s : IS} {tg iter : Expr} {x : List Stmt} {pos : Pos} (hp : plainE iter = true) (hi : PI X tg iter (rdI X.K b (wE Φ it))) (hg : tgB (locB sc) N t tg = true)
    (h1 : ∀ F0, PSs X x (rdS X.K { b with F0 := F0 } (wS Φ s))) : PS X (.For tg iter x [] pos) (rdS X.K b (wS Φ (.forr t it s))) := by
  have pg : PG X tg (gTg X.K t) := pgTg ok.nd ok.calm (p := locB sc) (fun x hx => ⟨by rw [ok.esc]; exact locB_of hx, .inl (ks.fn x)⟩) (by rw [ok.eN]; exact hg)
  refine psImp (ps_for ks.pas ok.calm hi pg (pssEx h1) (fun _ => noFold hp)) fun D σ H ⟨ε, F, E, R, w, en⟩ => ?_
  refine ⟨ε, F, E.ex, _, R, w, en.toEx, fun ds ε1 H1 F1 J s1 f1 R1 J1 q1 => ?_⟩
  have en1 := en.up R1
  refine ⟨fun i m σ H => m = ds.length - i ∧ i ≤ ds.length ∧ ∃ ε F, Rep X.K b.H0 F1 F H σ ε ∧ forW t (fun ε2 D' => wS Φ s ε2 D') (ds.drop i) ε E, ⟨ds.length, by simp, Nat.zero_le _, ε1, F1, R1.up, q1⟩, ?_⟩
  rintro i m σ H ⟨rfl, hi, ε, F, R, wl⟩
  by_cases hlt : i < ds.length
  · refine .inr ⟨J1.go i H hlt (R.ff.trans R.fh), fun σ H => ∃ ε F, Rep X.K b.H0 F1 F H σ ε ∧ forW t (fun ε2 D' => wS Φ s ε2 D') (ds.drop (i + 1)) ε E,
      fun σ' H' q => ⟨ds.length - (i + 1), by omega, rfl, hlt, q⟩, fun v H2 y => ?_⟩
    obtain ⟨b1, F2, d, b2, b3, b4, b5, b6⟩ := J1.yld i H v H2 F hlt R.ff R.fh y
    have ed : ds.drop i = d :: ds.drop (i + 1) := by
      rw [List.drop_eq_getElem_cons hlt]
      have : ds[i] = d := by
        rw [List.getElem?_eq_getElem hlt] at b5
        exact Option.some.inj b5
      rw [this]
    rw [ed] at wl
    have R2 := R.grow b1 b2 b3 b4
    refine tgGo R2 b6 wl fun σ' ε2 R3 _ q2 => ⟨F1, ε2, F2, _, R3, q2, ?_⟩
    exact ⟨fun σ ε H F R q => ⟨ε, F, R, q⟩, en1.rt, en1.nx, fun σ ε H F R q => ⟨ε, F, R, q⟩, en1.ex⟩
  · have e : i = ds.length := by omega
    subst e
    rw [List.drop_length] at wl
    exact .inl ⟨J1.stop H (R.ff.trans R.fh), en1.nx σ ε H F R wl⟩
/-- a list of the frame's own, by its name -/
theorem ownGo {K : PySem.W.Frag} {H0 : Zn} {F0 F H : Hp} {σ : St} {ε : Ev} {j : Nat} {k : List D → Prop} (R : Rep K H0 F0 F H σ ε) (w : ownAt ε j k) :
    ∃ xs p vs, gv ε j = some (.own xs) ∧ σ[j]? = some (some (.ref p)) ∧ H p = some (.lst vs) ∧ DpAll K F vs xs ∧ k xs := by
  unfold ownAt at w
  split at w
  · rename_i xs hx
    obtain ⟨p, vs, e, h1, h2, h3, h4⟩ := R.own j xs hx
    exact ⟨xs, p, vs, hx, e, h1, h2, w⟩
  · exact w.elim
theorem sSetIx (ok : Cok fns cls N C Φ k X sc b.W) {j : Nat} {x : Str} {kE e : IE} {ke v : Expr} {p p2 pos : Pos} (h1 : (nmB N j x && visB sc x) = true) (h2 : plainE ke = true) (h3 : noComp v = true)
    (he : PE X v (rdE X.K b (wE Φ e))) (hk : PE X ke (rdE X.K b (wE Φ kE))) : PS X (.Assign [.Subscript (.Name x p) ke p2] v pos) (rdS X.K b (wS Φ (.setIx j kE e))) := by
  have pg := pg_sub (pos := p2) (peVar (p := p) ok h1) (peD hk) set_list (by
    intro w
    cases ke <;> first | rfl | exact absurd h2 Bool.false_ne_true)
  refine psImp (ps_asg (peD he) pg (noSw2 h3) rfl rfl) fun D σ H h => ?_
  obtain ⟨ε, F, E, R, w, en⟩ := h
  refine ⟨ε, F, E.ex, _, R, w, en.toEx, fun d ε1 H1 F1 z s1 f1 R1 a1 q1 => ?_⟩
  obtain ⟨xs0, r, vs0, g1, g2, g3, g4, q1⟩ := ownGo R1 q1
  refine ⟨.ref r, g2, ε1, F1, E.ex, _, R1, q1, en.toEx, fun i ε2 H2 F2 y s2 f2 R2 a2 q2 => ?_⟩
  cases i with
  | int n =>
    obtain ⟨xs, r', vs, k1, k2, k3, k4, m, e1, q3⟩ := ownGo R2 q2
    have er : r' = r := by
      rw [k2] at g2
      simpa using g2
    subst er
    refine ⟨r', vs, n, m, rfl, dpInt a2, k3, by rw [daLen k4]; exact e1, ?_⟩
    exact en.nx _ _ _ F2 (R2.change k1 k2 (daSet (dpSub f2 a1) m k4)) q3
  | _ => exact q2.elim
theorem setGo {j : Nat} {kE : IE} {v : D} {z : V} {σ : St} {H F : Hp} {ε : Ev} {Xp : XP} {Kk : Ev → Prop} {P : St → Hp → Prop} (R : Rep X.K b.H0 b.F0 F H σ ε) (d : Dp X.K F z v) (ex : ∀ H' F' σ' ε', Rep X.K b.H0 b.F0 F' H' σ' ε' → Ex X.K b Xp σ' H')
    (w : setW Φ j kE v ε Xp Kk) (kk : ∀ ε' F' H' , Rep X.K b.H0 b.F0 F' H' σ ε' → Sub F F' → Kk ε' → P σ H') : gSub (tVar j) (rdD X.K b (wE Φ kE)) rSetL z σ H P := by
  unfold setW at w
  obtain ⟨xs0, r, vs0, g1, g2, g3, g4, q1⟩ := ownGo R w
  refine ⟨.ref r, g2, ε, F, Xp, _, R, q1, ex _ _ _ _ R, fun i ε2 H2 F2 y s2 f2 R2 a2 q2 => ?_⟩
  cases i with
  | int n =>
    obtain ⟨xs, r', vs, k1, k2, k3, k4, m, e1, q3⟩ := ownGo R2 q2
    have er : r' = r := by
      rw [k2] at g2
      simpa using g2
    subst er
    refine ⟨r', vs, n, m, rfl, dpInt a2, k3, by rw [daLen k4]; exact e1, ?_⟩
    exact kk _ F2 _ (R2.change k1 k2 (daSet (dpSub f2 d) m k4)) f2 q3
  | _ => exact q2.elim
theorem swN2 {a b c d : Expr} {v : Expr} {p1 p2 p3 : Pos} {n : Nat} {env : Env} (h : noComp v = true) : swappedStores [.Tuple [.Subscript a b p1, .Subscript c d p2] n p3] v env = pure none := by
  cases v with
  | Tuple vs m q =>
    unfold swappedStores
    dsimp only
    split
    · rfl
    · split <;> rfl
  | _ => first | rfl | exact absurd h Bool.false_ne_true
theorem sSet2 (ok : Cok fns cls N C Φ k X sc b.W) (ks : Cks X) {j : Nat} {x y : Str} {kE lE e : IE} {ke le v : Expr} {p p2 p3 p4 p5 pos : Pos} {n : Nat} (h1 : (nmB N j x && visB sc x) = true) (h1' : (nmB N j y && visB sc y) = true) (h2 : plainE ke = true) (h2' : plainE le = true) (h3 : noComp v = true)
    (he : PE X v (rdE X.K b (wE Φ e))) (hk : PE X ke (rdE X.K b (wE Φ kE))) (hl : PE X le (rdE X.K b (wE Φ lE))) : PS X (.Assign [.Tuple [.Subscript (.Name x p) ke p2, .Subscript (.Name y p3) le p4] n p5] v pos) (rdS X.K b (wS Φ (.set2 j kE lE e))) := by
  have pg := pg_sub (pos := p2) (peVar (p := p) ok h1) (peD hk) set_list (by
    intro w
    cases ke <;> first | rfl | exact absurd h2 Bool.false_ne_true)
  have pg' := pg_sub (pos := p4) (peVar (p := p3) ok h1') (peD hl) set_list (by
    intro w
    cases le <;> first | rfl | exact absurd h2' Bool.false_ne_true)
  have pt := pg_tup (pos := p5) (k := n) ok.calm (pgs_cons pg (pgs_cons pg' pgs_nil))
  refine psImp (ps_asg (peD he) pt (noSw2 h3) (swN2 h3) rfl) fun D σ H h => ?_
  obtain ⟨ε, F, E, R, w, en⟩ := h
  refine ⟨ε, F, E.ex, _, R, w, en.toEx, fun d ε1 H1 F1 z s1 f1 R1 a1 q1 => ?_⟩
  cases d with
  | tuple ds =>
    rcases ds with _ | ⟨v1, _ | ⟨v2, _ | ⟨_, _⟩⟩⟩
    · exact q1.elim
    · exact q1.elim
    · obtain ⟨a, vs, rfl, r, da⟩ := dpTup a1
      cases da with
      | cons d1 dr =>
        cases dr with
        | cons d2 dn =>
          cases dn
          refine ⟨a, _, rfl, sqtSub R1.fh r, rfl, _, _, rfl, ?_⟩
          refine setGo R1 d1 (fun H' F' σ' ε' R' => en.toEx) q1 fun ε2 F2 H2 R2 f2 q2 => ?_
          refine ⟨_, _, rfl, ?_⟩
          refine setGo R2 (dpSub f2 d2) (fun H' F' σ' ε' R' => en.toEx) q2 fun ε3 F3 H3 R3 f3 q3 => ?_
          exact ⟨rfl, en.nx _ _ _ F3 R3 q3⟩
    · exact q1.elim
  | _ => exact q1.elim
theorem tyLst {K : PySem.W.Frag} {p : Addr} {H : Hp} {vs : List V} (h : H p = some (.lst vs)) : tyV K "list" (.ref p) H := .inl ⟨rfl, _, .inl (.inl h)⟩
theorem sApp (ok : Cok fns cls N C Φ k X sc b.W) {j : Nat} {x : Str} {e : IE} {v : Expr} {p p2 p3 pos : Pos} (h1 : (nmB N j x && visB sc x) = true) (h2 : plainE v = true) (hl : (p2.endLine == p3.line) = true)
    (he : PE X v (rdE X.K b (wE Φ e))) : PS X (.Expr (.Call (.Attribute (.Name x p) "append" p2) [v] [] p3) pos) (rdS X.K b (wS Φ (.app j e))) := by
  have pe := pe_bm (apos := p2) (cpos := p3) PySem.F.plainAttrs_list PySem.F.slot_list_append PySem.F.type_list_append mt_append (peVar (p := p) ok h1) (pa_cons (peD he) pa_nil (starOf h2)) rfl (by rw [starOf h2]; rfl) hl (starOf h2) rfl
  refine psImp (ps_expr pe rfl) fun D σ H h => ?_
  obtain ⟨ε, F, E, R, w, en⟩ := h
  obtain ⟨xs0, r, vs0, g1, g2, g3, g4, w⟩ := ownGo R w
  refine ⟨.ref r, g2, tyLst g3, ε, F, E.ex, _, R, w, en.toEx, fun d ε1 H1 F1 z s1 f1 R1 a1 q1 => ?_⟩
  obtain ⟨xs, r', vs, k1, k2, k3, k4, q2, q3⟩ := ownGo R1 q1
  have er : r' = r := by
    rw [k2] at g2
    simpa using g2
  subst er
  exact ⟨r', vs, z, rfl, rfl, k3, by rw [daLen k4, line24]; exact q2, en.nx _ _ _ F1 (R1.change k1 k2 (daApp k4 (.cons a1 .nil))) q3⟩
theorem sPop (ok : Cok fns cls N C Φ k X sc b.W) {j : Nat} {x : Str} {p p2 p3 pos : Pos} (h1 : (nmB N j x && visB sc x) = true) (hl : (p2.endLine == p3.line) = true) :
    PS X (.Expr (.Call (.Attribute (.Name x p) "pop" p2) [] [] p3) pos) (rdS X.K b (wS Φ (.pop j))) := by
  have pe := pe_bm0 (apos := p2) (cpos := p3) PySem.F.plainAttrs_list PySem.F.slot_list_pop PySem.F.type_list_pop mt_pop (peVar (p := p) ok h1) rfl hl
  refine psImp (ps_expr pe rfl) fun D σ H h => ?_
  obtain ⟨ε, F, E, R, w, en⟩ := h
  obtain ⟨xs, r, vs, g1, g2, g3, g4, w1, w2⟩ := ownGo R w
  have hl := daLen g4
  have hp : 0 < vs.length := by
    rw [hl]
    exact List.length_pos_iff.mpr w1
  exact ⟨.ref r, g2, tyLst g3, r, vs, vs[vs.length - 1]'(by omega), rfl, rfl, g3, List.getElem?_eq_getElem (by omega), en.nx _ _ _ F (R.change g1 g2 (daDropLast g4)) w2⟩
theorem sLc (ok : Cok fns cls N C Φ k X sc b.W) (hC : b.C = C) (ks : Cks X) {j : Nat} {y : Str} {t : Tg} {itE cE eE : IE}
    {tg iter e : Expr} {ifs : List Expr} {scope : Scope} {p py spos : Pos} (hj : nmB N j y = true) (hs : swB sc y py.line (.ListComp e [⟨tg, iter, ifs, 0⟩] scope p) = true)
    (h1 : isIt itE = true) (h2 : chk fns N itE sc [iter, tg] = true) (h3 : tgB (blB scope sc) N t tg = true) (h4 : blkC N sc scope (tgOwn t tg) = true)
    (h5 : ifsB (isNil cE) ifs (fun f => chk fns N cE (relS scope sc) [f]) = true) (h6 : chk fns N eE (relS scope sc) [e] = true) (h7 : plainE iter = true) :
    PS X (.Assign [.Name y py] (.ListComp e [⟨tg, iter, ifs, 0⟩] scope p) spos) (rdS X.K b (wS Φ (.asg j (.lc t itE cE eE)))) := by
  obtain ⟨q1, q2, q3, q4, q5⟩ := lcParts ok hC (snAll itE) (snAll cE) (snAll eE) h1 h2 h3 h4 h5 h6
  obtain ⟨g1, _, _⟩ := nmB_of hj
  have hs' : (lclB sc y && (py.line == p.line) && !(scope.names.any fun (n, k) => n == y && (k == .local || k == .cell))) = true := hs
  simp only [Bool.and_eq_true, Bool.not_eq_true'] at hs'
  obtain ⟨⟨s1, s2⟩, s3⟩ := hs'
  have hl : X.env.scope.names.lookup y = some .local := by rw [ok.esc]; exact lclB_of s1
  have hk := ks.kind
  refine psImp (ps_setLc ok.calm ok.nd (by rw [ok.eN]; exact g1) hl (sw_true hk hl s2 s3) q1 q2 q3 q4 q5 (fun x => noFold h7)) fun D σ H h => ?_
  rw [tgOwn_ix h3]
  refine lcGo (rdGo h fun ε F E R en v ε' H' F' z s f R' a q => ?_)
  cases v with
  | d y => exact en.nx _ _ H' F' (R'.store a j) q
  | own ys => exact en.nx _ _ H' F' (R'.store a j) q
  | _ => exact q.elim
theorem parSwap {env : Env} {sc : Scope} (he : env.scope = sc) (hk : env.scope.kind = .function) {x y : Str} {px py pt pt2 : Pos} {kt k2 : Nat} {a c : Expr} (hxy : x ≠ y) (h : parB sc [(x, px), (y, py)] [a, c] = true) :
    swappedStores [.Tuple [.Name x px, .Name y py] kt pt] (.Tuple [a, c] k2 pt2) env = pure (some [x, y]) := by
  unfold parB at h
  simp only [List.all_cons, List.all_nil, Bool.and_true, Bool.and_eq_true, Bool.not_eq_true', List.head?_cons, Option.map_some, Option.getD_some] at h
  obtain ⟨⟨⟨⟨⟨h1, h2⟩, h3, h4⟩, h5, h6⟩, h7⟩, h8⟩ := h
  have kx : env.kindOf x = some .local := by
    show env.scope.names.lookup x = _
    rw [he]; exact lclB_of h1
  have ky : env.kindOf y = some .local := by
    show env.scope.names.lookup y = _
    rw [he]; exact lclB_of h3
  have bk : env.blockKind = .function := by
    unfold Env.blockKind
    rw [hk]; rfl
  have e1 : (y == x) = false := by
    rw [beq_eq_false_iff_ne]
    exact Ne.symm hxy
  have e2 : [x, y].eraseDups = [x, y] := by
    simp [List.eraseDups_cons, e1, List.filter]
  have l2 : (px.line == px.line) = true := h2
  unfold swappedStores
  simp only [bk, List.any_cons, List.any_nil, Bool.or_false]
  rw [if_neg (by simp), if_neg]
  · have fm : ∀ {f : Expr → Option Str}, f (.Name x px) = some x → f (.Name y py) = some y → List.filterMap f [.Name x px, .Name y py] = [x, y] := fun {f} a1 a2 => by
      rw [List.filterMap_cons, a1]
      show x :: List.filterMap f [.Name y py] = _
      rw [List.filterMap_cons, a2]
      rfl
    rw [fm (by simp [kx, Expr.pos]) (by simp [ky, Expr.pos]; simpa using h4), e2]
    rw [if_neg (by simp), if_neg (by simp [h7]), if_neg (by simp [h8])]
  · intro hh
    rw [Bool.or_eq_true] at hh
    rcases hh with hh | hh
    · cases a <;> first | exact absurd hh Bool.false_ne_true | exact absurd h5 Bool.false_ne_true
    · cases c <;> first | exact absurd hh Bool.false_ne_true | exact absurd h6 Bool.false_ne_true
theorem sRaise (ok : Cok fns cls N C Φ k X sc b.W) (hC : b.C = C) {c : Nat} {x : Str} {e : Expr} {p p2 pos : Pos} (h1 : cls[c]? = some x) (h2 : glB sc x = true) (h3 : (x == ("__debug__" : Str)) = false) (h4 : isStr e = true) :
    PS X (.Raise (some (.Call (.Name x p) [e] [] p2)) none pos) (rdS X.K b (wS Φ (.raise c))) := by
  obtain ⟨g1, g2, g3, g4, g5⟩ := ok.exc c x h1
  cases e with
  | Constant q n p3 =>
    cases q with
    | str m =>
      refine psImp (ps_raise ok.calm ok.tk (pmk_own PySem.F.excBase_ValueError g2 g1 g3 (raises_own g4 g5) (glB_of ok h2) h3)) fun D σ H ⟨ε, F, E, R, w, en⟩ => ?_
      have q := en.ex c σ ε H F R w
      rw [hC] at q
      exact q
    | _ => exact absurd h4 Bool.false_ne_true
  | _ => exact absurd h4 Bool.false_ne_true
end
end Rc

/-! try: an except clause's suite, the statement. -/
namespace Rc
open PySem PySem.Spec PyProof.Rows L2
def hV : D → V
  | .bool b => .bl b
  | .int i => .int i
  | .str x => .str x
  | _ => .non
theorem hV_dp {K : PySem.W.Frag} {F : Hp} {c : D} {q : Const} (h : litB c q = true) : Dp K F (hV c) c := by
  cases c <;> first | exact .non | exact .bl _ | exact .int _ | exact .str _ | (cases q <;> exact absurd h Bool.false_ne_true)
section
variable {fns : List FnI} {cls : List Str} {N : List Str} {C : Nat → Addr} {Φ : Fs} {k : Nat} {X : Cx} {b : Bd} {sc : Scope} {jo : Option Nat} {a : Addr} {oe : Obj} {pn : List (Addr × Obj)} {c' : Nat}
/-- the clause's name holds what was caught -/
def Hn (jo : Option Nat) (a : Addr) (σ : St) : Prop := ∀ j, jo = some j → j < σ.length → σ[j]? = some (some (.ref a))
def tHv (jo : Option Nat) (a : Addr) (d : D) : TE := fun σ H Q => Hn jo a σ ∧ Q (hV d) H
def tHt (jo : Option Nat) (a : Addr) (d : Bool) : TT := fun σ H Q => Hn jo a σ ∧ Q d H
theorem isx_run (ok : Cok fns cls N C Φ k X sc b.W) (hne : cls ≠ []) (hz : Zc (.ref (C c')) none oe) (hf : ∃ vs, oe.data = .fields vs) {x n : Str} {e2 : Expr} {p p1 pos : Pos} {v : V} {cv : Value} {r : Bool}
    (h : isxB N jo sc x n = true) (h2 : PE (X.suite a ((a, oe) :: pn)) e2 (tC v)) (pl : plainE e2 = true) (hv : ∀ u, RelV v u → u = cv) (e : PySem.W.kitOne X.K (.ref (C c')) cv = some r) :
    PE (X.suite a ((a, oe) :: pn)) (.Call (.Name x p) [.Name n p1, e2] [] pos) (tHv jo a (.bool r)) := by
  unfold isxB at h
  simp only [Bool.and_eq_true, decide_eq_true_eq] at h
  obtain ⟨⟨rfl, h1⟩, h3⟩ := h
  cases jo with
  | none => exact absurd h3 Bool.false_ne_true
  | some j =>
    have h3' : nmB N j n = true ∧ visB sc n = true := by simpa [Bool.and_eq_true] using h3
    obtain ⟨g1, g2, g3⟩ := nmB_of h3'.1
    have pv : PE (X.suite a ((a, oe) :: pn)) (.Name n p1) (tVar j) := pe_var (by show X.N[j]? = _; rw [ok.eN]; exact g1) (by show Vis X.env.scope n; rw [ok.esc]; exact visB_of h3'.2) g2 g3
    have pv : PE (X.suite a ((a, oe) :: pn)) (.Name n p1) (fun σ H Q => Hn (some j) a σ ∧ Q (.ref a) H) := ⟨fun pins s σ H Q I w => pv.run pins s σ H Q I ⟨.ref a, w.1 j rfl (by
      have e1 : σ.length = X.N.length := I.len
      rw [e1, ok.eN]
      exact (List.getElem?_eq_some_iff.mp g1).1), w.2⟩⟩
    have hg0 : Gl X "isinstance" := glB_of ok h1
    have hg : Gl (X.suite a ((a, oe) :: pn)) "isinstance" := hg0
    refine peImp (pe_callB (call_isE (X := X) (pn := pn) (ok.xf.cc c' hne) hz hf) hg (ok.blt _ (by decide)) (by decide +kernel) (pa_cons pv (pa_cons h2 pa_nil (starOf pl)) (starOf (e := .Name n p1) rfl)) (by decide) (by decide) (starOf (e := .Name n p1) rfl) ?_) fun σ H Q ⟨q1, q2⟩ => ?_
    · rw [starOf pl]; rfl
    · exact ⟨q1, v, cv, r, rfl, hv, e, q2⟩
theorem ptH {e : Expr} {X' : Cx} {d : Bool} (h : PE X' e (tHv jo a (.bool d))) (he : ∀ whole, isTrue e X'.env whole = (do let v ← whole; standAt e.pos; holding [v] (truthy v))) : PT X' e (tHt jo a d) :=
  ptImp (pt_val h he) fun σ H Q ⟨q1, q2⟩ => ⟨q1, d, rfl, q2⟩
theorem hE_b {h : HE} (hb : isBH h = true) : hE c' h = .bool (hB c' h) := by
  cases h with
  | cst c => cases c <;> first | rfl | exact absurd hb Bool.false_ne_true
  | _ => rfl
theorem hOk (ok : Cok fns cls N C Φ k X sc b.W) (hne : cls ≠ []) (hz : Zc (.ref (C c')) none oe) (hf : ∃ vs, oe.data = .fields vs) (h : HE) : ∀ e, chkH cls N jo h sc [e] = true →
    PE (X.suite a ((a, oe) :: pn)) e (tHv jo a (hE c' h)) ∧ (isBH h = true → PT (X.suite a ((a, oe) :: pn)) e (tHt jo a (hB c' h))) ∧
    (∀ op es pos, e = .BoolOp op es pos → PW (X.suite a ((a, oe) :: pn)) e (tHt jo a (hB c' h))) := by
  have fin : ∀ {e : Expr} {h : HE}, isBH h = true → PE (X.suite a ((a, oe) :: pn)) e (tHv jo a (hE c' h)) → PW (X.suite a ((a, oe) :: pn)) e (tHt jo a (hB c' h)) →
      PE (X.suite a ((a, oe) :: pn)) e (tHv jo a (hE c' h)) ∧ (isBH h = true → PT (X.suite a ((a, oe) :: pn)) e (tHt jo a (hB c' h))) ∧
      (∀ op es pos, e = .BoolOp op es pos → PW (X.suite a ((a, oe) :: pn)) e (tHt jo a (hB c' h))) := fun hb h1 h2 => ⟨h1, fun _ => h2.pt, fun _ _ _ _ => h2⟩
  have toB : ∀ {e : Expr} {h : HE}, isBH h = true → PE (X.suite a ((a, oe) :: pn)) e (tHv jo a (hE c' h)) → PE (X.suite a ((a, oe) :: pn)) e (tHv jo a (.bool (hB c' h))) := fun hb q => by
    rw [← hE_b hb]; exact q
  induction h with
  | cst c =>
    intro e hc
    cases e with
    | Constant q n p =>
      have hl : litB c q = true := hc
      have pe : PE (X.suite a ((a, oe) :: pn)) (.Constant q n p) (tHv jo a c) := by
        have go : ∀ (v : V), hV c = v → PE (X.suite a ((a, oe) :: pn)) (.Constant q n p) (tC v) → PE (X.suite a ((a, oe) :: pn)) (.Constant q n p) (tHv jo a c) := fun v hv q => peImp q fun σ H Q ⟨_, q2⟩ => by
          rw [hv] at q2; exact q2
        cases c with
        | none => cases q <;> first | exact go _ rfl pe_non | exact absurd hl Bool.false_ne_true
        | bool x =>
          cases q with
          | bool y => cases (beq_iff_eq.mp hl); exact go _ rfl pe_bl
          | _ => exact absurd hl Bool.false_ne_true
        | int x =>
          cases q with
          | int y => cases (beq_iff_eq.mp hl); exact go _ rfl pe_int
          | _ => exact absurd hl Bool.false_ne_true
        | str x =>
          cases q with
          | str y => cases (of_decide_eq_true hl); exact go _ rfl pe_str
          | _ => exact absurd hl Bool.false_ne_true
        | _ => exact absurd hl Bool.false_ne_true
      refine ⟨pe, fun hb => ?_, fun _ _ _ z => by cases z⟩
      cases c with
      | bool x => exact ptH pe fun _ => rfl
      | _ => exact absurd hb Bool.false_ne_true
    | _ => exact absurd hc Bool.false_ne_true
  | isx c =>
    intro e hc
    cases e with
    | Call f es kws pos =>
      cases f with
      | Name x p =>
        cases es with
        | nil => exact absurd hc Bool.false_ne_true
        | cons e1 es =>
          cases e1 with
          | Name n p1 =>
            cases es with
            | nil => exact absurd hc Bool.false_ne_true
            | cons e2 es =>
              cases e2 with
              | Name y p2 =>
                cases es with
                | cons _ _ => exact absurd hc Bool.false_ne_true
                | nil =>
                  cases kws with
                  | cons _ _ => exact absurd hc Bool.false_ne_true
                  | nil =>
                    have h : (isxB N jo sc x n && decide (cls[c]? = some y) && glB sc y && !(y == ("__debug__" : Str))) = true := hc
                    simp only [Bool.and_eq_true, decide_eq_true_eq, Bool.not_eq_true'] at h
                    obtain ⟨⟨⟨h1, h2⟩, h3⟩, h4⟩ := h
                    have gy0 : Gl X y := glB_of ok h3
                    have gy : Gl (X.suite a ((a, oe) :: pn)) y := gy0
                    have pe := isx_run (p := p) (p1 := p1) (pos := pos) ok hne hz hf h1 (pe_glob (v := .ref (C c)) (pos := p2) gy (ok.exc c y h2).1 rfl h4) rfl (fun u r => r) (ok.xf.is c' c y h2)
                    exact ⟨pe, fun _ => ptH pe fun _ => rfl, fun _ _ _ z => by cases z⟩
              | _ => exact absurd hc Bool.false_ne_true
          | _ => exact absurd hc Bool.false_ne_true
      | _ => exact absurd hc Bool.false_ne_true
    | _ => exact absurd hc Bool.false_ne_true
  | isv =>
    intro e hc
    cases e with
    | Call f es kws pos =>
      cases f with
      | Name x p =>
        cases es with
        | nil => exact absurd hc Bool.false_ne_true
        | cons e1 es =>
          cases e1 with
          | Name n p1 =>
            cases es with
            | nil => exact absurd hc Bool.false_ne_true
            | cons e2 es =>
              cases e2 with
              | Name y p2 =>
                cases es with
                | cons _ _ => exact absurd hc Bool.false_ne_true
                | nil =>
                  cases kws with
                  | cons _ _ => exact absurd hc Bool.false_ne_true
                  | nil =>
                    have h : (isxB N jo sc x n && decide (y = "ValueError") && glB sc y && !cls.isEmpty) = true := hc
                    simp only [Bool.and_eq_true, decide_eq_true_eq, Bool.not_eq_true'] at h
                    obtain ⟨⟨⟨h1, rfl⟩, h3⟩, h4⟩ := h
                    have gy0 : Gl X "ValueError" := glB_of ok h3
                    have gy : Gl (X.suite a ((a, oe) :: pn)) "ValueError" := gy0
                    have pe := isx_run (p := p) (p1 := p1) (pos := pos) ok hne hz hf h1 (pe_bltn (pos := p2) (v := .ty "ValueError") (u := .type "ValueError") gy (ok.blt _ (by decide)) (by decide +kernel) rfl) rfl (fun u r => r) (ok.xf.ve c' hne)
                    exact ⟨pe, fun _ => ptH pe fun _ => rfl, fun _ _ _ z => by cases z⟩
              | _ => exact absurd hc Bool.false_ne_true
          | _ => exact absurd hc Bool.false_ne_true
      | _ => exact absurd hc Bool.false_ne_true
    | _ => exact absurd hc Bool.false_ne_true
  | bnot h ih =>
    intro e hc
    cases e with
    | UnaryOp op e p =>
      cases op with
      | Not =>
        have h2 : (isBH h && chkH cls N jo h sc [e]) = true := hc
        rw [Bool.and_eq_true] at h2
        obtain ⟨g1, g2, g3⟩ := ih e h2.2
        have pt : PT (X.suite a ((a, oe) :: pn)) (.UnaryOp .Not e p) (tHt jo a (hB c' (.bnot h))) := ptImp (pt_not (g2 h2.1)) fun σ H Q q => q
        exact ⟨peImp (pe_not (toB h2.1 g1)) fun σ H Q ⟨q1, q2⟩ => ⟨q1, _, rfl, q2⟩, fun _ => pt, fun _ _ _ z => by cases z⟩
      | _ => exact absurd hc Bool.false_ne_true
    | _ => exact absurd hc Bool.false_ne_true
  | band h r ih1 ih2 =>
    intro e hc
    cases e with
    | BoolOp op es pos =>
      cases op with
      | Or => exact absurd hc (by cases es with
        | nil => exact Bool.false_ne_true
        | cons _ es => cases es <;> exact Bool.false_ne_true)
      | And =>
        cases es with
        | nil => exact absurd hc Bool.false_ne_true
        | cons x es =>
          cases es with
          | nil => exact absurd hc Bool.false_ne_true
          | cons y rest =>
            have h2 : (isBH h && isBH r && chkH cls N jo h sc [x] && chkH cls N jo r sc [.BoolOp .And (y :: rest) pos]) = true := hc
            simp only [Bool.and_eq_true] at h2
            obtain ⟨⟨⟨b1, b2⟩, c1⟩, c2⟩ := h2
            obtain ⟨g1, g2, g3⟩ := ih1 x c1
            obtain ⟨k1, k2, k3⟩ := ih2 _ c2
            refine fin rfl (peImp (pe_and (toB b1 g1) (toB b2 k1)) fun σ H Q ⟨q1, q2⟩ => ⟨q1, _, rfl, ?_⟩) (pwImp (pw_and (g2 b1) (k3 _ _ _ rfl)) fun σ H Q ⟨q1, q2⟩ => ⟨q1, ?_⟩)
            · have q3 : Q (.bl (hB c' h && hB c' r)) H := q2
              cases z : hB c' h with
              | true => rw [z] at q3; exact ⟨q1, q3⟩
              | false => rw [z] at q3; exact q3
            · have q3 : Q (hB c' h && hB c' r) H := q2
              cases z : hB c' h with
              | true => rw [z] at q3; exact ⟨q1, q3⟩
              | false => rw [z] at q3; exact q3
    | _ => exact absurd hc Bool.false_ne_true
  | bor h r ih1 ih2 =>
    intro e hc
    cases e with
    | BoolOp op es pos =>
      cases op with
      | And => exact absurd hc (by cases es with
        | nil => exact Bool.false_ne_true
        | cons _ es => cases es <;> exact Bool.false_ne_true)
      | Or =>
        cases es with
        | nil => exact absurd hc Bool.false_ne_true
        | cons x es =>
          cases es with
          | nil => exact absurd hc Bool.false_ne_true
          | cons y rest =>
            have h2 : (isBH h && isBH r && chkH cls N jo h sc [x] && chkH cls N jo r sc [.BoolOp .Or (y :: rest) pos]) = true := hc
            simp only [Bool.and_eq_true] at h2
            obtain ⟨⟨⟨b1, b2⟩, c1⟩, c2⟩ := h2
            obtain ⟨g1, g2, g3⟩ := ih1 x c1
            obtain ⟨k1, k2, k3⟩ := ih2 _ c2
            refine fin rfl (peImp (pe_or (toB b1 g1) (toB b2 k1)) fun σ H Q ⟨q1, q2⟩ => ⟨q1, _, rfl, ?_⟩) (pwImp (pw_or (g2 b1) (k3 _ _ _ rfl)) fun σ H Q ⟨q1, q2⟩ => ⟨q1, ?_⟩)
            · have q3 : Q (.bl (hB c' h || hB c' r)) H := q2
              cases z : hB c' h with
              | false => rw [z] at q3; exact ⟨q1, q3⟩
              | true => rw [z] at q3; exact q3
            · have q3 : Q (hB c' h || hB c' r) H := q2
              cases z : hB c' h with
              | false => rw [z] at q3; exact ⟨q1, q3⟩
              | true => rw [z] at q3; exact q3
    | _ => exact absurd hc Bool.false_ne_true
  | bone h ih =>
    intro e hc
    cases e with
    | BoolOp op es pos =>
      cases es with
      | nil => cases op <;> exact absurd hc Bool.false_ne_true
      | cons x es =>
        cases es with
        | cons _ _ => cases op <;> exact absurd hc Bool.false_ne_true
        | nil =>
          have h2 : (isBH h && chkH cls N jo h sc [x]) = true := by cases op <;> exact hc
          rw [Bool.and_eq_true] at h2
          obtain ⟨g1, g2, g3⟩ := ih x h2.2
          refine fin rfl (peImp (pe_one (toB h2.1 g1)) fun σ H Q q => q) ?_
          cases op with
          | And => exact pwImp (pw_and1 (g2 h2.1)) fun σ H Q q => q
          | Or => exact pwImp (pw_or1 (g2 h2.1)) fun σ H Q q => q
    | _ => exact absurd hc Bool.false_ne_true
/-- a text that is put behind -/
def tHs (jo : Option Nat) (a : Addr) (t : Str) : TE := fun σ H Q => Hn jo a σ ∧ Q (.str t) H ∧ ∀ p o, H p = none → Q (.str t) (upd H p o)
theorem htOk (ok : Cok fns cls N C Φ k X sc b.W) (hne : cls ≠ []) (hz : Zc (.ref (C c')) none oe) (hf : ∃ vs, oe.data = .fields vs) (t : HT) : ∀ e, chkHT cls N jo t sc e = true →
    PE (X.suite a ((a, oe) :: pn)) e (tHs jo a (hTx c' t)) := by
  intro e hc
  cases t with
  | str s =>
    cases e with
    | Constant q n p =>
      cases q with
      | str x =>
        have h : decide (s = x) = true := hc
        rw [decide_eq_true_eq] at h
        subst h
        exact peImp pe_str fun σ H Q ⟨_, q, _⟩ => q
      | _ => exact absurd hc Bool.false_ne_true
    | _ => exact absurd hc Bool.false_ne_true
  | pick x y c =>
    unfold chkHT at hc
    split at hc
    · cases ‹HT.pick x y c = HT.str _›
    · rename_i x' y' c' x1 n1 p1 y1 n2 p2 p3 n p4 e1 p5 p6 heq
      cases heq
      simp only [Bool.and_eq_true, decide_eq_true_eq] at hc
      obtain ⟨⟨⟨⟨⟨⟨rfl, rfl⟩, rfl⟩, hg0⟩, hp⟩, hb⟩, hh⟩ := hc
      have g1 : Gl X "int" := glB_of ok hg0
      have g2 : Gl (X.suite a ((a, oe) :: pn)) "int" := g1
      have h1 : PE (X.suite a ((a, oe) :: pn)) e1 (tHv jo a (.bool (hB c' c))) := by
        rw [← hE_b hb]
        exact (hOk ok hne hz hf c _ hh).1
      have hi := pe_callTy (p := p4) (pos := p5) call_int1 g2 (ok.blt _ (by decide)) (by decide +kernel) (pa_cons h1 pa_nil (starOf hp)) (by decide) (by decide) (starOf hp) rfl
      refine peImp (pe_ix ix_list (pe_lst (pa_cons pe_str (pa_cons pe_str pa_nil (starOf rfl)) (starOf rfl))) hi (plainIx rfl)) fun σ H Q ⟨hn, q1, q2⟩ => ?_
      refine ⟨by rw [line24]; show 2 ≤ _; decide, fun p hp => ⟨hn, .inr ⟨hB c' _, rfl, p, _, _, _, rfl, rfl, .inl (.inl upd_same), ?_, q2 p _ hp⟩⟩⟩
      show atI [V.str x, V.str y] (if hB c' c = true then 1 else 0) = some (V.str (if hB c' c = true then y else x))
      cases hB c' c <;> rfl
    · exact absurd hc Bool.false_ne_true
/-! ### the suite -/
/-- how the suite ends -/
structure HnOk (K : PySem.W.Frag) (b : Bd) (jo : Option Nat) (a : Addr) (E : En) (D : Ends) : Prop where
  nx : ∀ σ ε H F, Hn jo a σ → Rep K b.H0 b.F0 F H σ ε → (∀ j, jo = some j → gv ε j = none) → E.nx ε → D.nx σ H
  rt : ∀ v σ ε H F x, Rep K b.H0 b.F0 F H σ ε → VAt K b.H0 F H σ ε x v → E.rt v → D.rt x H
def rdH (K : PySem.W.Frag) (b : Bd) (jo : Option Nat) (a : Addr) (T : Ev → En → Prop) : TS := fun D σ H => ∃ ε F E, Hn jo a σ ∧ Rep K b.H0 b.F0 F H σ ε ∧ (∀ j, jo = some j → gv ε j = none) ∧ T ε E ∧ HnOk K b jo a E D
theorem hE_dp {K : PySem.W.Frag} {F : Hp} {h : HE} {e : Expr} (hc : chkH cls N jo h sc [e] = true) : Dp K F (hV (hE c' h)) (hE c' h) := by
  cases h with
  | cst c =>
    cases e with
    | Constant q n p => exact hV_dp (q := q) hc
    | _ => exact absurd hc Bool.false_ne_true
  | _ => exact .bl _
theorem hsOk (ok : Cok fns cls N C Φ k X sc b.W) (ks : ∀ x, X.fn x = true) (hne : cls ≠ []) (hz : Zc (.ref (C c')) none oe) (hf : ∃ vs, oe.data = .fields vs) (h : HS) : ∀ sts, chkHS cls N jo h sc sts = true →
    PSs (X.suite a ((a, oe) :: pn)) sts (rdH X.K b jo a (hS c' h)) := by
  induction h with
  | nil =>
    intro sts hc
    cases sts with
    | cons _ _ => exact absurd hc Bool.false_ne_true
    | nil => exact pssImp pss_nil fun D σ H ⟨ε, F, E, hn, R, g, w, en⟩ => en.nx σ ε H F hn R g w
  | asg j e r ih =>
    intro sts hc
    cases sts with
    | nil => exact absurd hc Bool.false_ne_true
    | cons st sts =>
      cases st with
      | Assign tgs v pos =>
        cases tgs with
        | nil => exact absurd hc Bool.false_ne_true
        | cons t tgs =>
          cases t with
          | Name x p =>
            cases tgs with
            | cons _ _ => exact absurd hc Bool.false_ne_true
            | nil =>
              have h : (nmB N j x && locB sc x && noComp v && !(decide (jo = some j)) && chkH cls N jo e sc [v] && chkHS cls N jo r sc sts) = true := hc
              simp only [Bool.and_eq_true, Bool.not_eq_true', decide_eq_false_iff_not] at h
              obtain ⟨⟨⟨⟨⟨h1, h2⟩, h3⟩, h4⟩, h5⟩, h6⟩ := h
              obtain ⟨g1, _, _⟩ := nmB_of h1
              have ps := ps_set (X := X.suite a ((a, oe) :: pn)) (pos := pos) (pos' := p) ok.nd (by show X.N[j]? = _; rw [ok.eN]; exact g1) (by show Loc X.env.scope x; rw [ok.esc]; exact locB_of h2) (hOk ok hne hz hf e v h5).1 (noSw h3) (.inl (ks x))
              refine pssImp (pss_cons ps (ih sts h6)) fun D σ H ⟨ε, F, E, hn, R, g, w, en⟩ => ⟨hn, ?_⟩
              refine ⟨_, F, E, fun i hi hl => ?_, R.store (x := .d (hE c' e)) (hE_dp h5) j, fun i hi => ?_, w, en⟩
              · rw [List.getElem?_set_ne (fun z => h4 (by rw [z]; exact hi))]
                exact hn i hi (by rw [List.length_set] at hl; exact hl)
              · rw [gv_pv, if_neg (fun z => h4 (by rw [← z]; exact hi))]
                exact g i hi
          | _ => exact absurd hc Bool.false_ne_true
      | _ => exact absurd hc Bool.false_ne_true
  | ite c s t r ih1 ih2 ih3 =>
    intro sts hc
    cases sts with
    | nil => exact absurd hc Bool.false_ne_true
    | cons st sts =>
      cases st with
      | If e x y pos =>
        have h : (isBH c && chkH cls N jo c sc [e] && chkHS cls N jo s sc x && chkHS cls N jo t sc y && chkHS cls N jo r sc sts) = true := hc
        simp only [Bool.and_eq_true] at h
        obtain ⟨⟨⟨⟨h1, h2⟩, h3⟩, h4⟩, h5⟩ := h
        refine pssImp (pss_cons (ps_if (pos := pos) ((hOk ok hne hz hf c e h2).2.1 h1) (ih1 x h3) (ih2 y h4)) (ih3 sts h5)) fun D σ H ⟨ε, F, E, hn, R, g, w, en⟩ => ⟨hn, ?_⟩
        have w' : (if hB c' c = true then hS c' s ε { E with nx := fun ε1 => hS c' r ε1 E } else hS c' t ε { E with nx := fun ε1 => hS c' r ε1 E }) := w
        have en' : HnOk X.K b jo a { E with nx := fun ε1 => hS c' r ε1 E } { D with nx := fun σ H => rdH X.K b jo a (hS c' r) D σ H } :=
          ⟨fun σ ε H F hn R g q => ⟨ε, F, E, hn, R, g, q, en⟩, en.rt⟩
        cases z : hB c' c with
        | true => rw [z] at w'; exact ⟨ε, F, _, hn, R, g, w', en'⟩
        | false => rw [z] at w'; exact ⟨ε, F, _, hn, R, g, w', en'⟩
      | _ => exact absurd hc Bool.false_ne_true
  | asgC j i t r ih =>
    intro sts hc
    cases sts with
    | nil => exact absurd hc Bool.false_ne_true
    | cons st sts =>
      cases st with
      | Assign tgs v pos =>
        rcases tgs with _ | ⟨tg, _ | ⟨_, _⟩⟩
        · exact absurd hc Bool.false_ne_true
        · cases tg with
          | Name x p =>
            cases v with
            | BinOp l o e p2 =>
              cases l with
              | Name y p3 =>
                cases o with
                | Add =>
                  have h : (nmB N j x && locB sc x && nmB N i y && visB sc y && !(decide (jo = some j)) && chkHT cls N jo t sc e && chkHS cls N jo r sc sts) = true := hc
                  simp only [Bool.and_eq_true, Bool.not_eq_true', decide_eq_false_iff_not] at h
                  obtain ⟨⟨⟨⟨⟨⟨h1, h2⟩, h3⟩, h3'⟩, h4⟩, h5⟩, h6⟩ := h
                  obtain ⟨g1, _, _⟩ := nmB_of h1
                  obtain ⟨k1, k2, k3⟩ := nmB_of h3
                  have pv : PE (X.suite a ((a, oe) :: pn)) (.Name y p3) (tVar i) := pe_var (by show X.N[i]? = _; rw [ok.eN]; exact k1) (by show Vis X.env.scope y; rw [ok.esc]; exact visB_of h3') k2 k3
                  have ps := ps_set (X := X.suite a ((a, oe) :: pn)) (pos := pos) (pos' := p) ok.nd (by show X.N[j]? = _; rw [ok.eN]; exact g1) (by show Loc X.env.scope x; rw [ok.esc]; exact locB_of h2)
                    (pe_op (pos := p2) op_add_str pv (htOk ok hne hz hf t e h5)) (noSw rfl) (.inl (ks x))
                  refine pssImp (pss_cons ps (ih sts h6)) fun D σ H ⟨ε, F, E, hn, R, g, ⟨s, w1, w2, w3⟩, en⟩ => ?_
                  obtain ⟨v, e1, dv⟩ := R.dat i _ w1
                  cases dpStr dv
                  have fin : ∀ H', Rep X.K b.H0 b.F0 F H' σ ε → rdH X.K b jo a (hS c' r) D (σ.set j (some (.str (s ++ hTx c' t)))) H' := fun H' R' => ⟨_, F, E, fun i hi hl => by
                      rw [List.getElem?_set_ne (fun z => h4 (by rw [z]; exact hi))]
                      exact hn i hi (by rw [List.length_set] at hl; exact hl), R'.store (x := .d (.str _)) (Dp.str _) j, fun i hi => by
                      rw [gv_pv, if_neg (fun z => h4 (by rw [← z]; exact hi))]
                      exact g i hi, w3, en⟩
                  exact ⟨.str s, e1, hn, ⟨s, hTx c' t, rfl, rfl, by rw [line24]; exact w2, fin H R⟩, fun p o hp => ⟨s, hTx c' t, rfl, rfl, by rw [line24]; exact w2, fin _ (R.lst o hp)⟩⟩
                | _ => exact absurd hc Bool.false_ne_true
              | _ => exact absurd hc Bool.false_ne_true
            | _ => exact absurd hc Bool.false_ne_true
          | _ => exact absurd hc Bool.false_ne_true
        · exact absurd hc (by cases tg <;> exact Bool.false_ne_true)
      | _ => exact absurd hc Bool.false_ne_true
  | ret e =>
    intro sts hc
    cases sts with
    | nil => exact absurd hc Bool.false_ne_true
    | cons st sts =>
      cases st with
      | Return v pos =>
        cases v with
        | none => cases sts <;> exact absurd hc Bool.false_ne_true
        | some v =>
          cases sts with
          | cons _ _ => exact absurd hc Bool.false_ne_true
          | nil =>
            have h : chkH cls N jo e sc [v] = true := hc
            refine pssImp (pss_one (ps_ret (pos := pos) (hOk ok hne hz hf e v h).1)) fun D σ H ⟨ε, F, E, hn, R, g, w, en⟩ => ⟨hn, ?_⟩
            exact en.rt (.d (hE c' e)) σ ε H F _ R (hE_dp h) w
      | _ => cases sts <;> exact absurd hc Bool.false_ne_true
/-! ### the statement -/
/-- a slot that the names do not tell of may change -/
theorem Rep.slot {K : PySem.W.Frag} {H0 : Zn} {F0 F H : Hp} {σ : St} {ε : Ev} (R : Rep K H0 F0 F H σ ε) {j : Nat} (g : gv ε j = none) (v : Option V) : Rep K H0 F0 F H (σ.set j v) ε where
  fh := R.fh
  ff := R.ff
  h0 := R.h0
  fr := R.fr
  len := by rw [List.length_set]; exact R.len
  dat := fun i x h => by
    have ne : j ≠ i := fun z => by subst z; rw [g] at h; cases h
    rw [List.getElem?_set_ne ne]; exact R.dat i x h
  own := fun i x h => by
    have ne : j ≠ i := fun z => by subst z; rw [g] at h; cases h
    rw [List.getElem?_set_ne ne]; exact R.own i x h
  uni := fun i k xs ys p a b ea eb => by
    have n1 : j ≠ i := fun z => by subst z; rw [g] at a; cases a
    have n2 : j ≠ k := fun z => by subst z; rw [g] at b; cases b
    rw [List.getElem?_set_ne n1] at ea
    rw [List.getElem?_set_ne n2] at eb
    exact R.uni i k xs ys p a b ea eb
  lnt := fun i x h => by
    have ne : j ≠ i := fun z => by subst z; rw [g] at h; cases h
    rw [List.getElem?_set_ne ne]; exact R.lnt i x h
  one := fun i k xs ys p a b ea eb => by
    have n1 : j ≠ i := fun z => by subst z; rw [g] at a; cases a
    have n2 : j ≠ k := fun z => by subst z; rw [g] at b; cases b
    rw [List.getElem?_set_ne n1] at ea
    rw [List.getElem?_set_ne n2] at eb
    exact R.one i k xs ys p a b ea eb
  ll := R.ll
  dcs := R.dcs.sub (fun i w h _ => ⟨h, List.getElem?_set_ne (fun z => by subst z; rw [g] at h; cases h)⟩) (.refl _) fun p o e _ _ f z _ => ⟨e, f, z⟩
theorem gv_hide {ε : Ev} {j : Nat} : gv (pv ε j none) j = none := by
  rw [gv_pv, if_pos rfl]
  split <;> rfl
theorem vatSlot {K : PySem.W.Frag} {H0 : Zn} {F H : Hp} {σ : St} {ε : Ev} {x : V} {v : Val} (h : VAt K H0 F H σ ε x v) {j : Nat} (g : gv ε j = none) (u : Option V) : VAt K H0 F H (σ.set j u) ε x v := by
  cases v with
  | own xs =>
    obtain ⟨p, vs, e, h1, h2, h3, h4, h5⟩ := h
    refine ⟨p, vs, e, h1, h2, h3, h4, fun i ys q z => h5 i ys q ?_⟩
    have ne : j ≠ i := fun z => by subst z; rw [g] at q; cases q
    rw [List.getElem?_set_ne ne] at z; exact z
  | d y => exact h
  | many _ => exact h
  | exc _ => exact h
  | lent _ => exact h
  | two _ _ => exact h
  | twoO _ _ => exact h
  | dI _ => exact h
  | dT _ => exact h
theorem sTry (ok : Cok fns cls N C Φ k X sc b.W) (hC : b.C = C) (ks : Cks X) (hs : X.stack = X.env :: X.outer) (hfr : X.env.frame = some X.env.locals) {s : IS} {c : Nat} {h : HS} {x : List Stmt} {y : Str} {n : Option Str} {h0 : Stmt} {hs' : List Stmt} {p pos' pos : Pos}
    (hb : ∀ (W : WX) (pn : List (Addr × Obj)) (xe : Value → Shared → Prop), Cok fns cls N C Φ k (X.tr pn xe) sc W → Cks (X.tr pn xe) → PSs (X.tr pn xe) x (rdS X.K { b with W := W } (wS Φ s)))
    (h1 : cls[c]? = some y) (h2 : glB sc y = true) (h3 : (y == ("__debug__" : Str)) = false) (h4 : excB N jo sc n = true) (h5 : chkHS cls N jo h sc (h0 :: hs') = true) :
    PS X (.Try x [.ExceptHandler (some (.Name y p)) n (h0 :: hs') pos'] [] [] pos) (rdS X.K b (wS Φ (.try1 s c jo h))) := by
  subst hC
  have hne : cls ≠ [] := fun z => by rw [z] at h1; cases h1
  have hc : Names X y (.ref (b.C c)) := ⟨glB_of ok h2, h3, .inl (ok.exc c y h1).1⟩
  have hb' : ∀ (W : WX) (pn : List (Addr × Obj)) (xe : Value → Shared → Prop), Takes (X.tr pn xe) W → PassesOwn (model X.prog X.w) X.A X.env xe → PSs (X.tr pn xe) x (rdS X.K { b with W := W } (wS Φ s)) := fun W pn xe tk pas =>
    hb W pn xe ⟨ok.room, ok.seer, ok.tree, ok.top, ok.nd, ok.eN, ok.esc, ok.calm, tk, ok.blt, ok.exc, ok.xf, ok.ar, ok.gcon, ok.callee⟩ ⟨pas, ks.fn, ks.kind, ks.stack, ks.frame⟩
  have hsu : ∀ (a : Addr) (oe : Obj) (cls' : Value) (d : Option Addr) (pn : List (Addr × Obj)), Zc cls' d oe → (∃ vs, oe.data = .fields vs) →
      PSs (X.suite a ((a, oe) :: pn)) (h0 :: hs') (fun D σ H => ∃ c', cls' = .ref (b.C c') ∧ d = none ∧ rdH X.K b jo a (hS c' h) D σ H) := fun a oe cls' d pn hz hf => ⟨fun pins s σ H D I ⟨c', e1, e2, w⟩ => by
    subst e1 e2
    exact (hsOk ok ks.fn hne hz hf h _ h5).run pins s σ H D I w⟩
  cases jo with
  | none =>
    cases n with
    | some _ => exact absurd h4 Bool.false_ne_true
    | none =>
      refine psImp (ps_try_only hs hfr hc ok.tk hb' hsu) fun D σ H ⟨ε, F, E, R, w, en⟩ => ⟨ε, F, _, R, w, en.nx, en.rt, en.bk, en.ct, fun c' σ1 ε1 H1 F1 R1 q => ?_⟩
      refine Exists.intro (isS c' c) ⟨ok.xf.ex c' c y h1, fun hq a na => ⟨c', rfl, rfl, ?_⟩, fun hq => ?_⟩
      · have q' : (if isS c' c = true then hS c' h ε1 E else E.ex c' ε1) := q
        rw [if_pos hq] at q'
        exact ⟨ε1, F1, E, fun _ z => (by cases z), R1, fun _ z => (by cases z), q', ⟨fun σ ε H F _ R _ q => en.nx σ ε H F R q, en.rt⟩⟩
      · have q' : (if isS c' c = true then hS c' h ε1 E else E.ex c' ε1) := q
        rw [if_neg (by rw [hq]; exact Bool.false_ne_true)] at q'
        exact en.ex c' σ1 ε1 H1 F1 R1 q'
  | some j =>
    cases n with
    | none => exact absurd h4 Bool.false_ne_true
    | some n =>
      have h4' : (nmB N j n && lclB sc n) = true := h4
      rw [Bool.and_eq_true] at h4'
      obtain ⟨g1, _, _⟩ := nmB_of h4'.1
      refine psImp (ps_try_as (i := j) hs hfr ok.nd (by rw [ok.eN]; exact g1) (by show X.env.scope.names.lookup n = _; rw [ok.esc]; exact lclB_of h4'.2) hc ok.tk hb' hsu) fun D σ H ⟨ε, F, E, R, w, en⟩ => ⟨ε, F, _, R, w, en.nx, en.rt, en.bk, en.ct, fun c' σ1 ε1 H1 F1 R1 q => ?_⟩
      have q' : (if isS c' c = true then hS c' h (pv ε1 j none) E else E.ex c' ε1) := q
      refine Exists.intro (isS c' c) ⟨ok.xf.ex c' c y h1, fun hq a na => ⟨c', rfl, rfl, ?_⟩, fun hq => ?_⟩
      · rw [if_pos hq] at q'
        refine ⟨pv ε1 j none, F1, E, fun i hi hl => ?_, (R1.forget j).slot gv_hide _, fun i hi => ?_, q', ⟨fun σ ε H F hn R g q => en.nx _ ε H F (R.slot (g j rfl) _) q, fun v σ ε H F x R a q => en.rt v σ ε H F x R a q⟩⟩
        · cases hi; rw [List.getElem?_set_self (by rw [List.length_set] at hl; exact hl)]
        · cases hi; exact gv_hide
      · rw [if_neg (by rw [hq]; exact Bool.false_ne_true)] at q'
        exact en.ex c' σ1 ε1 H1 F1 R1 q'
end
end Rc

/-! More statements: insert, pop with a value, extend, name op= e. -/
namespace Rc
open PySem PySem.Spec PyProof.Rows L2
section
variable {fns : List FnI} {cls : List Str} {N : List Str} {C : Nat → Addr} {Φ : Fs} {k : Nat} {X : Cx} {b : Bd} {sc : Scope}
theorem sIns (ok : Cok fns cls N C Φ k X sc b.W) {j : Nat} {x : Str} {kE e : IE} {ke v : Expr} {p p2 p3 pos : Pos} (h1 : (nmB N j x && visB sc x) = true) (h2 : plainE ke = true) (h3 : plainE v = true) (hl : (p2.endLine == p3.line) = true)
    (hk : PE X ke (rdE X.K b (wE Φ kE))) (he : PE X v (rdE X.K b (wE Φ e))) : PS X (.Expr (.Call (.Attribute (.Name x p) "insert" p2) [ke, v] [] p3) pos) (rdS X.K b (wS Φ (.ins j kE e))) := by
  have pe := pe_bm (apos := p2) (cpos := p3) PySem.F.plainAttrs_list PySem.F.slot_list_insert PySem.F.type_list_insert mt_insert (peVar (p := p) ok h1) (pa_cons (peD hk) (pa_cons (peD he) pa_nil (starOf h3)) (starOf h2)) rfl (by rw [starOf h2, starOf h3]; rfl) hl (starOf h2) (by rw [starOf h3]; rfl)
  refine psImp (ps_expr pe rfl) fun D σ H h => ?_
  obtain ⟨ε, F, E, R, w, en⟩ := h
  obtain ⟨xs0, r, vs0, g1, g2, g3, g4, w⟩ := ownGo R w
  refine ⟨.ref r, g2, tyLst g3, ε, F, E.ex, _, R, w, en.toEx, fun i ε1 H1 F1 z s1 f1 R1 a1 q1 => ⟨ε1, F1, E.ex, _, R1, q1, en.toEx, fun d ε2 H2 F2 y s2 f2 R2 a2 q2 => ?_⟩⟩
  cases i with
  | int n =>
    obtain ⟨xs, r', vs, k1, k2, k3, k4, ⟨q3, q4, q5⟩, q6⟩ := ownGo R2 q2
    have er : r' = r := by
      rw [k2] at g2
      simpa using g2
    subst er
    cases dpInt a1
    refine ⟨r', vs, n, y, rfl, rfl, k3, by rw [daLen k4, line24]; exact q5, q3, q4, en.nx _ _ _ F2 (R2.change k1 k2 ?_) q6⟩
    exact daApp (daApp (daTake _ k4) (.cons a2 .nil)) (daDrop _ k4)
  | _ => exact q2.elim
theorem tgOk (ok : Cok fns cls N C Φ k X sc b.W) (ks : Cks X) {t : Tg} {tg : Expr} (h : tgB (locB sc) N t tg = true) : PG X tg (gTg X.K t) :=
  pgTg ok.nd ok.calm (p := locB sc) (fun x hx => ⟨by rw [ok.esc]; exact locB_of hx, .inl (ks.fn x)⟩) (by rw [ok.eN]; exact h)
theorem ae1 {t : Tg} {tg : Expr} {env : Env} {p : Str → Bool} (h : tgB p N t tg = true) : (assignEach [tg] env).map (·.2) = [assign tg env] := by
  cases tg <;> first | rfl | (cases t <;> exact absurd h Bool.false_ne_true)
theorem sPopT (ok : Cok fns cls N C Φ k X sc b.W) (ks : Cks X) {t : Tg} {j : Nat} {x : Str} {tg : Expr} {p p2 p3 pos : Pos} (ht : tgB (locB sc) N t tg = true) (h1 : (nmB N j x && visB sc x) = true) (hl : (p2.endLine == p3.line) = true) :
    PS X (.Assign [tg] (.Call (.Attribute (.Name x p) "pop" p2) [] [] p3) pos) (rdS X.K b (wS Φ (.popT t j))) := by
  have pe := pe_bm0 (apos := p2) (cpos := p3) PySem.F.plainAttrs_list PySem.F.slot_list_pop PySem.F.type_list_pop mt_pop (peVar (p := p) ok h1) rfl hl
  refine psImp (ps_asg pe (tgOk ok ks ht) (noSw2 rfl) (by cases tg <;> rfl) (ae1 ht)) fun D σ H h => ?_
  obtain ⟨ε, F, E, R, w, en⟩ := h
  obtain ⟨xs, r, vs, g1, g2, g3, g4, y, w1, w2⟩ := ownGo R w
  have hl := daLen g4
  rw [← hl] at w1
  obtain ⟨v, v1, v2⟩ := daGet' g4 w1
  refine ⟨.ref r, g2, tyLst g3, r, vs, v, rfl, rfl, g3, v1, ?_⟩
  exact tgGo (R.change g1 g2 (daDropLast g4)) v2 w2 fun σ' ε2 R2 _ q2 => en.nx σ' ε2 _ F R2 q2
theorem daErase {K : PySem.W.Frag} {F : Hp} : ∀ {vs : List V} {ds : List D} (n : Nat), DpAll K F vs ds → DpAll K F (vs.eraseIdx n) (ds.eraseIdx n)
  | _, _, _, .nil => .nil
  | _, _, 0, .cons _ b => b
  | _, _, n + 1, .cons a b => .cons a (daErase n b)
theorem sPopI (ok : Cok fns cls N C Φ k X sc b.W) (ks : Cks X) {t : Tg} {j : Nat} {kE : IE} {x : Str} {tg ke : Expr} {p p2 p3 pos : Pos} (ht : tgB (locB sc) N t tg = true) (h1 : (nmB N j x && visB sc x) = true) (hl : (p2.endLine == p3.line) = true) (hp : plainE ke = true)
    (hk : PE X ke (rdE X.K b (wE Φ kE))) : PS X (.Assign [tg] (.Call (.Attribute (.Name x p) "pop" p2) [ke] [] p3) pos) (rdS X.K b (wS Φ (.popI t j kE))) := by
  have pe := pe_bm (apos := p2) (cpos := p3) PySem.F.plainAttrs_list PySem.F.slot_list_pop PySem.F.type_list_pop mt_popAt (peVar (p := p) ok h1) (pa_cons (peD hk) pa_nil (starOf hp)) rfl (by rw [starOf hp]; rfl) hl (starOf hp) rfl
  refine psImp (ps_asg pe (tgOk ok ks ht) (noSw2 rfl) (by cases tg <;> rfl) (ae1 ht)) fun D σ H h => ?_
  obtain ⟨ε, F, E, R, w, en⟩ := h
  obtain ⟨xs0, r, vs0, g1, g2, g3, g4, w⟩ := ownGo R w
  refine ⟨.ref r, g2, tyLst g3, ε, F, E.ex, _, R, w, en.toEx, fun i ε1 H1 F1 z s1 f1 R1 a1 q1 => ?_⟩
  cases i with
  | int n =>
    obtain ⟨xs, r', vs, k1, k2, k3, k4, ⟨q3, q4⟩, m, y, q5, q6, q7⟩ := ownGo R1 q1
    have er : r' = r := by
      rw [k2] at g2
      simpa using g2
    subst er
    cases dpInt a1
    rw [← daLen k4] at q5
    obtain ⟨v, v1, v2⟩ := daGet' k4 q6
    refine ⟨r', vs, n, m, v, rfl, rfl, k3, q3, q4, q5, v1, ?_⟩
    exact tgGo (R1.change k1 k2 (daErase m k4)) v2 q7 fun σ' ε2 R2 _ q2 => en.nx σ' ε2 _ F1 R2 q2
  | _ => exact q1.elim
theorem sExt (ok : Cok fns cls N C Φ k X sc b.W) {j : Nat} {x : Str} {e : IE} {v : Expr} {p p2 p3 pos : Pos} (h1 : (nmB N j x && visB sc x) = true) (h2 : plainE v = true) (hl : (p2.endLine == p3.line) = true)
    (he : PE X v (rdE X.K b (wE Φ e))) : PS X (.Expr (.Call (.Attribute (.Name x p) "extend" p2) [v] [] p3) pos) (rdS X.K b (wS Φ (.ext j e))) := by
  have pe := pe_bm (apos := p2) (cpos := p3) PySem.F.plainAttrs_list PySem.F.slot_list_extend PySem.F.type_list_extend mt_extend (peVar (p := p) ok h1) (pa_cons he pa_nil (starOf h2)) rfl (by rw [starOf h2]; rfl) hl (starOf h2) rfl
  refine psImp (ps_expr pe rfl) fun D σ H h => ?_
  obtain ⟨ε, F, E, R, w, en⟩ := h
  obtain ⟨xs0, r, vs0, g1, g2, g3, g4, w⟩ := ownGo R w
  refine ⟨.ref r, g2, tyLst g3, ε, F, E.ex, _, R, w, en.toEx, fun d ε1 H1 F1 z s1 f1 R1 a1 q1 => ?_⟩
  cases d with
  | own ys =>
    obtain ⟨xs, r', vs, k1, k2, k3, k4, q2, q3⟩ := ownGo R1 q1
    have er : r' = r := by
      rw [k2] at g2
      simpa using g2
    subst er
    obtain ⟨q, ws, rfl, b1, b2, b3, b4, b5⟩ := a1
    exact ⟨r', q, vs, ws, rfl, rfl, k3, b1, by rw [daLen k4, daLen b2, line24]; exact q2, en.nx _ _ _ F1 (R1.change k1 k2 (daApp k4 b2)) q3⟩
  | _ => exact q1.elim
/-- what x op= y makes -/
def rAug (K : PySem.W.Frag) (o : Operator) : TIp := fun x y H Q => ∃ F d e Qv, Dp K F x d ∧ Dp K F y e ∧ augW o d e Qv ∧ ∀ v z, Dp K F z v → Qv v → Q z H
theorem ipAug (o : Operator) : PIp X o (rAug X.K o) := by
  intro pins s σ H x y v u Q I rx ry ⟨F, d, e, Qv, hx, hy, w, k⟩
  cases o with
  | Add =>
    cases d with
    | int i =>
      cases e with
      | int j =>
        cases dpInt hx; cases dpInt hy
        exact ip_add pins s σ H _ _ v u Q I rx ry ⟨i, j, rfl, rfl, k _ _ (Dp.int _) w⟩
      | _ => exact w.elim
    | str i =>
      cases e with
      | str j =>
        cases dpStr hx; cases dpStr hy
        obtain ⟨t, rfl⟩ := rx
        obtain ⟨t', rfl⟩ := ry
        exact PyProof.Rows.iadd_str (fun t2 tk => ⟨.str (i ++ j), H, I.tok _, ⟨t2, rfl⟩, k _ _ (Dp.str _) w.2⟩) (by rw [line24]; exact w.1)
      | _ => exact w.elim
    | _ => exact w.elim
  | Sub =>
    cases d with
    | int i =>
      cases e with
      | int j =>
        cases dpInt hx; cases dpInt hy
        exact ip_sub pins s σ H _ _ v u Q I rx ry ⟨i, j, rfl, rfl, k _ _ (Dp.int _) w⟩
      | _ => exact w.elim
    | _ => exact w.elim
  | Mult =>
    cases d with
    | int i =>
      cases e with
      | int j =>
        cases dpInt hx; cases dpInt hy
        obtain ⟨t, rfl⟩ := rx
        obtain ⟨t', rfl⟩ := ry
        exact PyProof.Rows.imul_int ⟨.int _, H, I.tok _, ⟨_, rfl⟩, k _ _ (Dp.int _) w.2⟩ (mulOk_ok w.1)
      | _ => exact w.elim
    | _ => exact w.elim
  | _ => exact w.elim
theorem sAug (ok : Cok fns cls N C Φ k X sc b.W) (ks : Cks X) {j : Nat} {o : Operator} {x : Str} {e : IE} {v : Expr} {p pos : Pos} (h1 : nmB N j x = true) (h2 : locB sc x = true) (he : PE X v (rdE X.K b (wE Φ e))) :
    PS X (.AugAssign (.Name x p) o v pos) (rdS X.K b (wS Φ (.aug j o e))) := by
  obtain ⟨g1, _, _⟩ := nmB_of h1
  refine psImp (ps_aug ok.nd (by rw [ok.eN]; exact g1) (by rw [ok.esc]; exact locB_of h2) (peD he) (ipAug o) (.inl (ks.fn x))) fun D σ H ⟨ε, F, E, R, w, en⟩ => ?_
  obtain ⟨d0, e0, w⟩ := w
  obtain ⟨v0, a0, _⟩ := R.dat j d0 e0
  refine ⟨v0, a0, ε, F, E.ex, _, R, w, en.toEx, fun d ε' H' F' z s f R' a q => ?_⟩
  obtain ⟨d1, e1, q⟩ := q
  obtain ⟨v1, a1, b1⟩ := R'.dat j d1 e1
  rw [a0] at a1
  cases a1
  exact ⟨F', d1, d, _, b1, a, q, fun y z hz hy => en.nx _ _ H' F' (R'.store (x := .d y) hz j) hy⟩
theorem sClr (ok : Cok fns cls N C Φ k X sc b.W) {j : Nat} {x : Str} {p p2 p3 pos : Pos} (h1 : (nmB N j x && visB sc x) = true) (hl : (p2.endLine == p3.line) = true) :
    PS X (.Expr (.Call (.Attribute (.Name x p) "clear" p2) [] [] p3) pos) (rdS X.K b (wS Φ (.clr j))) := by
  have pe := pe_bm0 (apos := p2) (cpos := p3) PySem.F.plainAttrs_list PySem.F.slot_list_clear PySem.F.type_list_clear mt_clear (peVar (p := p) ok h1) rfl hl
  refine psImp (ps_expr pe rfl) fun D σ H h => ?_
  obtain ⟨ε, F, E, R, w, en⟩ := h
  obtain ⟨xs, r, vs, g1, g2, g3, g4, w2⟩ := ownGo R w
  exact ⟨.ref r, g2, tyLst g3, r, vs, rfl, rfl, g3, en.nx _ _ _ F (R.change g1 g2 .nil) w2⟩
/-- nobody's list is changed -/
theorem Rep.loose {K : PySem.W.Frag} {H0 : Zn} {F0 F H : Hp} {σ : St} {ε : Ev} (R : Rep K H0 F0 F H σ ε) {p : Addr} (o : HO) (h1 : F p = none) (h2 : H0.no p) (h3 : Off σ ε p) (nd : ∀ q o, H q = some o → (∀ vs, o ≠ .lst vs) → q ≠ p) : Rep K H0 F0 F (upd H p o) σ ε where
  fh := R.fh.upd h1
  ff := R.ff
  h0 := R.h0.upd h2.1
  fr := R.fr
  len := R.len
  dat := R.dat
  own := fun j xs h => by
    obtain ⟨q, vs, e, g1, g2, g3, g4⟩ := R.own j xs h
    have ne : q ≠ p := fun z => by subst z; exact h3 j xs h e
    exact ⟨q, vs, e, by rw [upd_ne ne]; exact g1, g2, g3, g4⟩
  uni := R.uni
  lnt := fun j xs h => by
    obtain ⟨q, vs, e, g1, g2, g3, g4⟩ := R.lnt j xs h
    have ne : q ≠ p := fun z => by subst z; exact h2.2 g4
    exact ⟨q, vs, e, by rw [upd_ne ne]; exact g1, g2, g3, g4⟩
  one := R.one
  ll := fun a h => by
    have ne : a ≠ p := fun z => by subst z; exact h2.2 h
    obtain ⟨⟨o, g1⟩, g2⟩ := R.ll a h
    exact ⟨⟨o, by rw [upd_ne ne]; exact g1⟩, g2⟩
  dcs := R.dcs.sub (fun i w h _ => ⟨h, rfl⟩) (.refl _) fun q o e n1 n2 f z _ => ⟨by rw [upd_ne (nd q o e n1)]; exact e, f, z⟩
theorem sClrE (ok : Cok fns cls N C Φ k X sc b.W) {e : IE} {f e1 : Expr} {es : List Expr} {kws : List Keyword} {fp p2 p3 pos : Pos} (hl : (p2.endLine == p3.line) = true) (he : PE X (.Call f (e1 :: es) kws fp) (rdE X.K b (wE Φ e))) :
    PS X (.Expr (.Call (.Attribute (.Call f (e1 :: es) kws fp) "clear" p2) [] [] p3) pos) (rdS X.K b (wS Φ (.clrE e))) := by
  have pe := pe_bm0 (apos := p2) (cpos := p3) PySem.F.plainAttrs_list PySem.F.slot_list_clear PySem.F.type_list_clear mt_clear he (by cases f <;> rfl) hl
  refine psImp (ps_expr pe rfl) fun D σ H h => ?_
  obtain ⟨ε, F, E, R, w, en⟩ := h
  refine ⟨ε, F, E.ex, _, R, w, en.toEx, fun v ε1 H1 F1 x s1 f1 R1 a1 q1 => ?_⟩
  cases v with
  | own xs =>
    obtain ⟨p, vs, rfl, b1, b2, b3, b4, b5⟩ := a1
    exact ⟨tyLst b1, p, vs, rfl, rfl, b1, en.nx _ _ _ F1 (R1.loose _ b3 b4 b5 fun q o e n1 z => n1 _ (by rw [z, b1] at e; exact (Option.some.inj e).symm)) q1⟩
  | _ => exact q1.elim
theorem setAll_other : ∀ {js : List Nat} {ds : List D} {ε : Ev} {j : Nat}, j ∉ js → gv (setAll js ds ε) j = gv ε j
  | [], _, _, _, _ => rfl
  | _ :: _, [], _, _, _ => rfl
  | i :: js, x :: xs, ε, j, h => by
    have e : setAll (i :: js) (x :: xs) ε = setAll js xs (pv ε i (some (.d x))) := rfl
    rw [e, setAll_other (fun z => h (List.mem_cons_of_mem _ z)), gv_pv, if_neg (fun z => h (by rw [z]; exact List.mem_cons_self ..))]
theorem sForP (ok : Cok fns cls N C Φ k X sc b.W) (ks : Cks X) {t : Tg} {j : Nat} {c e : IE} {tg ce v : Expr} {x : Str} {p p2 p3 pos : Pos} (h1 : (nmB N j x && visB sc x) = true) (hj : (tgs t).contains j = false) (hg : tgB (locB sc) N t tg = true)
    (hc : PT X ce (rdT X.K b (wE Φ c))) (he : PE X v (rdE X.K b (wE Φ e))) : PS X (.For tg (.Name x p) [.If ce [.Return (some v) p2] [] p3] [] pos) (rdS X.K b (wS Φ (.forP t j c e))) := by
  have hi : PI X tg (.Name x p) _ := pi_seq (peVar (p := p) ok h1)
  have bd : PSs X [.If ce [.Return (some v) p2] [] p3] _ := pss_one (ps_if hc (pss_one (ps_ret he)) pss_nil)
  refine psImp (ps_for ks.pas ok.calm hi (tgOk ok ks hg) bd (fun _ => noFold rfl)) fun D σ H ⟨ε, F, E, R, w, en⟩ => ?_
  obtain ⟨xs, r, vs, g1, g2, g3, g4, w⟩ := ownGo R w
  have hl := daLen g4
  have hjt : ∀ i ∈ tgs t, j ≠ i := fun i hi z => by
    rw [← z] at hi
    have := List.contains_iff_mem.mpr hi
    rw [hj] at this
    cases this
  refine ⟨.ref r, g2, r, vs, rfl, .inl ⟨.inl (.inl g3), ?_⟩⟩
  refine ⟨fun i m σ H => m = xs.length - i ∧ i ≤ xs.length ∧ σ[j]? = some (some (.ref r)) ∧ ∃ ε F, Rep X.K b.H0 b.F0 F H σ ε ∧ gv ε j = some (.own xs) ∧ forPW t j xs (fun ε1 k => wE Φ c ε1 E.ex (kB k)) (fun ε1 => wE Φ e ε1 E.ex (kV fun v _ => E.rt v)) E.nx (xs.drop i) ε, ⟨xs.length, by simp, Nat.zero_le _, g2, ε, F, R, g1, w⟩, ?_⟩
  rintro i m σ H ⟨rfl, hi, gs, ε, F, R, g1, wl⟩
  obtain ⟨r', vs', e1, e2, e3, e4, e5⟩ := R.own j xs g1
  have er : r' = r := by
    rw [gs] at e1
    simpa using e1.symm
  subst er
  have hl2 := daLen e3
  by_cases hlt : i < xs.length
  · refine .inr ⟨⟨vs', vs'[i]'(by omega), .inl (.inl e2), List.getElem?_eq_getElem (by omega)⟩, fun σ H => σ[j]? = some (some (.ref r')) ∧ ∃ ε F, Rep X.K b.H0 b.F0 F H σ ε ∧ gv ε j = some (.own xs) ∧ forPW t j xs (fun ε1 k => wE Φ c ε1 E.ex (kB k)) (fun ε1 => wE Φ e ε1 E.ex (kV fun v _ => E.rt v)) E.nx (xs.drop (i + 1)) ε,
      fun σ' H' q => ⟨xs.length - (i + 1), by omega, rfl, hlt, q⟩, fun v H2 y => ?_⟩
    obtain ⟨rfl, y⟩ := y
    obtain ⟨z, k1, k2⟩ := daGet e3 (y vs' (.inl (.inl e2)))
    have ed : xs.drop i = z :: xs.drop (i + 1) := by
      rw [List.drop_eq_getElem_cons hlt]
      rw [List.getElem?_eq_getElem hlt] at k1
      rw [Option.some.inj k1]
    rw [ed] at wl
    refine tgGo R k2 wl fun σ' ε2 R2 st q2 => ?_
    have gs2 : σ'[j]? = some (some (.ref r')) := by
      have w1 := wipe_get (σ := σ') (vs := tgs t) (i := j)
      have w2 := wipe_get (σ := σ) (vs := tgs t) (i := j)
      rw [if_neg (fun z => hjt j z rfl)] at w1 w2
      rw [← w1, st, w2]
      exact gs
    refine ⟨ε2, F, E.ex, _, R2, q2, en.toEx, fun d ε' H' F' s f R' q => ?_⟩
    cases d with
    | true =>
      have q' : wE Φ e ε' E.ex (kV fun v _ => E.rt v) := q
      refine ⟨ε', F', E.ex, _, R', q', en.toEx, fun v ε3 H3 F3 x s3 f3 R3 a3 q3 => ?_⟩
      cases v with
      | d y => exact en.rt _ σ' ε3 H3 F3 x R3 a3 q3
      | own ys => exact en.rt _ σ' ε3 H3 F3 x R3 a3 q3
      | _ => exact q3.elim
    | false =>
      have q' : gv ε' j = some (.own xs) ∧ forPW t j xs (fun ε1 k => wE Φ c ε1 E.ex (kB k)) (fun ε1 => wE Φ e ε1 E.ex (kV fun v _ => E.rt v)) E.nx (xs.drop (i + 1)) ε' := q
      exact ⟨gs2, ε', F', R', q'.1, q'.2⟩
  · have e : i = xs.length := by omega
    subst e
    rw [List.drop_length] at wl
    exact .inl ⟨⟨vs', .inl (.inl e2), by omega⟩, en.nx σ ε H F R wl⟩
end
end Rc

/-! Statements about a list that is lent; targets within targets. -/
namespace Rc
open PySem PySem.Spec PyProof.Rows L2
/-- one more list is lent -/
def Zn.add (Z : Zn) (p : Addr) : Zn := ⟨Z.h, fun a => Z.l a ∨ a = p⟩
/-- a frame's own list is lent from here on -/
theorem Rep.lend {K : PySem.W.Frag} {H0 : Zn} {F0 F H : Hp} {σ : St} {ε : Ev} (R : Rep K H0 F0 F H σ ε) {j : Nat} {xs : List D} {p : Addr} (h : gv ε j = some (.own xs)) (e : σ[j]? = some (some (.ref p))) :
    Rep K (H0.add p) F0 F H σ (pv ε j (some (.lent xs))) := by
  obtain ⟨p', vs, e', h1, h2, h3, h4⟩ := R.own j xs h
  have : p' = p := by rw [e'] at e; simpa using e
  subst this
  refine ⟨R.fh, R.ff, fun a o n q => R.h0 a o (fun z => n (.inl z)) q, R.fr, by rw [pv_len]; exact R.len, fun i y q => ?_, fun i zs q => ?_, fun i k as bs r a b ea eb => ?_, fun i zs q => ?_, fun i k as bs r a b ea eb => ?_, fun a q => ?_,
    R.dcs.sub (fun i v h c => ⟨(dcGv (fun _ z => by cases z; rfl) i v h c).1, rfl⟩) (.refl _) fun q o e n1 _ f z _ => ⟨e, f, z.1, fun w => w.elim z.2 fun w => n1 vs (by rw [w, h1] at e; exact (Option.some.inj e).symm)⟩⟩
  · rw [gv_pv] at q
    split at q
    · split at q <;> cases q
    · exact R.dat i y q
  · rw [gv_pv] at q
    split at q
    · split at q <;> cases q
    · rename_i hi
      obtain ⟨r, us, g1, g2, g3, g4, g5⟩ := R.own i zs q
      exact ⟨r, us, g1, g2, g3, g4, g5.1, fun z => z.elim g5.2 fun z => hi (R.uni i j zs xs r q h g1 (by rw [z]; exact e))⟩
  · rw [gv_pv] at a b
    split at a
    · split at a <;> cases a
    · split at b
      · split at b <;> cases b
      · exact R.uni i k as bs r a b ea eb
  · rw [gv_pv] at q
    split at q
    · rename_i hi
      subst hi
      split at q
      · cases q; exact ⟨p', vs, e, h1, h2, h3, .inr rfl⟩
      · cases q
    · obtain ⟨r, us, g1, g2, g3, g4, g5⟩ := R.lnt i zs q
      exact ⟨r, us, g1, g2, g3, g4, .inl g5⟩
  · rw [gv_pv] at a b
    split at a
    · rename_i hi
      subst hi
      split at b
      · rename_i hk; exact hk.symm
      · obtain ⟨r', us, g1, g2, g3, g4, g5⟩ := R.lnt k bs b
        rw [eb] at g1
        rw [ea] at e
        exact absurd (by have x1 : r = r' := by simpa using g1
                         have x2 : r = p' := by simpa using e
                         rw [← x2, x1]; exact g5) h4.2
    · split at b
      · rename_i hk
        subst hk
        obtain ⟨r', us, g1, g2, g3, g4, g5⟩ := R.lnt i as a
        rw [ea] at g1
        rw [eb] at e
        exact absurd (by have x1 : r = r' := by simpa using g1
                         have x2 : r = p' := by simpa using e
                         rw [← x2, x1]; exact g5) h4.2
      · exact R.one i k as bs r a b ea eb
  · rcases q with q | q
    · exact R.ll a q
    · subst q
      exact ⟨⟨_, h1⟩, h3⟩
theorem gv_unlend : ∀ (ε : Ev) (i : Nat) (v : Val), gv (unlend ε) i = some v → gv ε i = some v ∧ ∀ xs, v ≠ .lent xs
  | [], i, v, h => by
    have h : gv [] i = some v := h
    cases i <;> cases h
  | o :: r, 0, v, h => by
    cases o with
    | none => cases h
    | some w =>
      cases w with
      | lent _ => cases h
      | _ =>
        refine ⟨h, fun xs e => ?_⟩
        subst e
        cases h
  | o :: r, i + 1, v, h => by
    have h' : gv (unlend r) i = some v := by
      cases o with
      | none => exact h
      | some w => cases w <;> exact h
    exact gv_unlend r i v h'
theorem unlend_len : ∀ ε : Ev, (unlend ε).length = ε.length
  | [] => rfl
  | o :: r => by
    cases o with
    | none => show (unlend r).length + 1 = _; rw [unlend_len r]; rfl
    | some w => cases w <;> (show (unlend r).length + 1 = _; rw [unlend_len r]; rfl)
/-- and taken back -/
theorem Rep.back {K : PySem.W.Frag} {H0 : Zn} {F0 F H : Hp} {σ : St} {ε : Ev} {p : Addr} (R : Rep K (H0.add p) F0 F H σ ε) (np : H0.h p = none) : Rep K H0 F0 F H σ (unlend ε) := by
  refine ⟨R.fh, R.ff, fun a o n q => R.h0 a o (fun z => ?_) q, R.fr, by rw [unlend_len]; exact R.len, fun i y q => R.dat i y (gv_unlend ε i _ q).1, fun i zs q => ?_, fun i k as bs r a b => R.uni i k as bs r (gv_unlend ε i _ a).1 (gv_unlend ε k _ b).1, fun i zs q => absurd rfl ((gv_unlend ε i _ q).2 zs), fun i k as bs r a => absurd rfl ((gv_unlend ε i _ a).2 as), fun a q => R.ll a (.inl q),
    R.dcs.sub (fun i v h c => ⟨(gv_unlend ε i _ h).1, rfl⟩) (.refl _) fun q o e n1 _ f z _ => ⟨e, f, z.1, fun w => z.2 (.inl w)⟩⟩
  · rcases z with z | z
    · exact n z
    · subst z
      rw [np] at q; cases q
  · obtain ⟨r, us, g1, g2, g3, g4, g5⟩ := R.own i zs (gv_unlend ε i _ q).1
    exact ⟨r, us, g1, g2, g3, g4, g5.1, fun z => g5.2 (.inl z)⟩
section
variable {fns : List FnI} {cls : List Str} {N : List Str} {C : Nat → Addr} {Φ : Fs} {k : Nat} {X : Cx} {b : Bd} {sc : Scope}
theorem sLset (ok : Cok fns cls N C Φ k X sc b.W) {j n : Nat} {x : Str} {e : IE} {v : Expr} {p p2 p3 pos : Pos} {m : Nat} (h1 : (nmB N j x && visB sc x) = true) (h3 : noComp v = true)
    (he : PE X v (rdE X.K b (wE Φ e))) : PS X (.Assign [.Subscript (.Name x p) (.Constant (.int (n : Int)) m p3) p2] v pos) (rdS X.K b (wS Φ (.lset j n e))) := by
  have hz : PE X (.Constant (.int (n : Int)) m p3) (rdE X.K b (wE Φ (.cst (.int (n : Int))))) := eCst (by show ((n : Int) == (n : Int)) = true; exact beq_self_eq_true _)
  have pg := pg_sub (pos := p2) (peVar (p := p) ok h1) (peD hz) set_list (by intro w; rfl)
  refine psImp (ps_asg (peD he) pg (noSw2 h3) rfl rfl) fun D σ H h => ?_
  obtain ⟨ε, F, E, R, w, en⟩ := h
  refine ⟨ε, F, E.ex, _, R, w, en.toEx, fun d ε1 H1 F1 z s1 f1 R1 a1 q1 => ?_⟩
  obtain ⟨xs, r, vs, g1, g2, g3, g4, g5, g6, hn, q1⟩ := lentGo R1 q1
  refine ⟨.ref r, g2, ε1, F1, E.ex, fun d e => d = .int n ∧ e = ε1, R1, ⟨rfl, rfl⟩, en.toEx, fun i ε2 H2 F2 y s2 f2 R2 a2 q2 => ?_⟩
  obtain ⟨rfl, rfl⟩ := q2
  obtain ⟨r', us, k2, k3, k4, k5, k6⟩ := R2.lnt j _ g1
  obtain rfl := refEq k2 g2
  refine ⟨r', us, n, n, rfl, dpInt a2, k3, ?_, ?_⟩
  · rw [daLen k4]
    unfold L2.ixN
    simp only [show ¬ ((n : Int) < 0) by omega, if_false, show (0 : Int) ≤ n by omega, show (n : Int) < xs.length by omega, and_self, if_true]
    simp
  · exact en.nx _ _ _ F2 (R2.lentTo g1 k2 (fun a o ne q => by rw [upd_ne ne]; exact q) (.refl F2) (R2.fh.upd k5) .refl upd_same (daSet (dpSub f2 a1) n k4) k5) q1
theorem sLcL (ok : Cok fns cls N C Φ k X sc b.W) (hC : b.C = C) (ks : Cks X) {j l : Nat} {y : Str} {t : Tg} {itE eE : IE}
    {tg iter e : Expr} {scope : Scope} {p py spos : Pos} (hj : nmB N j y = true) (hs : swB sc y py.line (.ListComp e [⟨tg, iter, [], 0⟩] scope p) = true)
    (h1 : isIt itE = true) (h2 : chk fns N itE sc [iter, tg] = true) (h3 : tgB (blB scope sc) N t tg = true) (h4 : blkC N sc scope (tgOwn t tg) = true)
    (hl0 : (tgs t).contains l = false) (h6 : chk fns N eE (relS scope sc) [e] = true) (h7 : plainE iter = true) :
    PS X (.Assign [.Name y py] (.ListComp e [⟨tg, iter, [], 0⟩] scope p) spos) (rdS X.K b (wS Φ (.asg j (.lcL t itE eE l)))) := by
  obtain ⟨q1, q2, q3, q4, q5⟩ := lclParts ok hC (snAll itE) (snAll eE) h1 h2 h3 h4 h6
  obtain ⟨g1, _, _⟩ := nmB_of hj
  have hs' : (lclB sc y && (py.line == p.line) && !(scope.names.any fun (n, k) => n == y && (k == .local || k == .cell))) = true := hs
  simp only [Bool.and_eq_true, Bool.not_eq_true'] at hs'
  obtain ⟨⟨s1, s2⟩, s3⟩ := hs'
  have hl : X.env.scope.names.lookup y = some .local := by rw [ok.esc]; exact lclB_of s1
  have hk := ks.kind
  refine psImp (ps_setLc ok.calm ok.nd (by rw [ok.eN]; exact g1) hl (sw_true hk hl s2 s3) q1 q2 q3 q4 q5 (fun x => noFold h7)) fun D σ H h => ?_
  rw [tgOwn_ix h3]
  refine lclGo (rdGo h fun ε F E R en v ε' H' F' z s f R' a q => ?_) (fun z => by rw [List.contains_iff_mem.mpr z] at hl0; cases hl0)
  cases v with
  | d y => exact en.nx _ _ H' F' (R'.store a j) q
  | own ys => exact en.nx _ _ H' F' (R'.store a j) q
  | _ => exact q.elim
theorem sLcK (ok : Cok fns cls N C Φ k X sc b.W) (hC : b.C = C) (ks : Cks X) {j l : Nat} {y : Str} {t : Tg} {itE eE : IE}
    {tg iter e : Expr} {scope : Scope} {p py spos : Pos} (hj : nmB N j y = true) (hs : swB sc y py.line (.ListComp e [⟨tg, iter, [], 0⟩] scope p) = true)
    (h1 : isIt itE = true) (h2 : chk fns N itE sc [iter, tg] = true) (h3 : tgB (blB scope sc) N t tg = true) (h4 : blkC N sc scope (tgOwn t tg) = true)
    (hl0 : (tgs t).contains l = false) (h6 : chk fns N eE (relS scope sc) [e] = true) (h7 : plainE iter = true) :
    PS X (.Assign [.Name y py] (.ListComp e [⟨tg, iter, [], 0⟩] scope p) spos) (rdS X.K b (wS Φ (.asg j (.lcK t itE eE l)))) := by
  obtain ⟨q1, q2, q3, q4, q5⟩ := lclParts ok hC (snAll itE) (snAll eE) h1 h2 h3 h4 h6
  obtain ⟨g1, _, _⟩ := nmB_of hj
  have hs' : (lclB sc y && (py.line == p.line) && !(scope.names.any fun (n, k) => n == y && (k == .local || k == .cell))) = true := hs
  simp only [Bool.and_eq_true, Bool.not_eq_true'] at hs'
  obtain ⟨⟨s1, s2⟩, s3⟩ := hs'
  have hl : X.env.scope.names.lookup y = some .local := by rw [ok.esc]; exact lclB_of s1
  have hk := ks.kind
  refine psImp (ps_setLc ok.calm ok.nd (by rw [ok.eN]; exact g1) hl (sw_true hk hl s2 s3) q1 q2 q3 q4 q5 (fun x => noFold h7)) fun D σ H h => ?_
  rw [tgOwn_ix h3]
  refine lckGo (rdGo h fun ε F E R en v ε' H' F' z s f R' a q => ?_) (fun z => by rw [List.contains_iff_mem.mpr z] at hl0; cases hl0)
  cases v with
  | d y => exact en.nx _ _ H' F' (R'.store a j) q
  | own ys => exact en.nx _ _ H' F' (R'.store a j) q
  | _ => exact q.elim
theorem sAsgN (ok : Cok fns cls N C Φ k X sc b.W) (ks : Cks X) {t : Tg} {es : List Expr} {e : IE} {v : Expr} {n : Nat} {p pos : Pos} (h1 : tgB (locB sc) N t (.Tuple es n p) = true) (h2 : notTup v = true) (h3 : noComp v = true) (he : PE X v (rdE X.K b (wE Φ e))) :
    PS X (.Assign [.Tuple es n p] v pos) (rdS X.K b (wS Φ (.asgN t e))) := by
  refine psImp (ps_asg (peD he) (tgOk ok ks h1) (noSw2 h3) (swN h2) rfl) fun D σ H h => ?_
  obtain ⟨ε, F, E, R, w, en⟩ := h
  exact ⟨ε, F, E.ex, _, R, w, en.toEx, fun d ε' H' F' z s f R' a q => tgGo R' a q fun σ' ε2 R2 _ q2 => en.nx σ' ε2 H' F' R2 q2⟩
theorem sRetL {e : IE} {v : Expr} {pos : Pos} (he : PE X v (rdE X.K b (wE Φ e))) : PS X (.Return (some v) pos) (rdS X.K b (wS Φ (.retL e))) := by
  refine psImp (ps_ret he) fun D σ H ⟨ε, F, E, R, w, en⟩ => ⟨ε, F, E.ex, _, R, w, en.toEx, fun v ε' H' F' z s f R' a q => ?_⟩
  cases v with
  | d y =>
    obtain ⟨xs, r, vs, g1, g2, g3, g4, g5, g6, q⟩ := lentGo R' q
    exact en.rt (.two y xs) σ ε' H' F' z R' ⟨a, r, vs, g3, g4, g5, g6⟩ q
  | own ys =>
    obtain ⟨xs, r, vs, g1, g2, g3, g4, g5, g6, q⟩ := lentGo R' q
    obtain ⟨p', us, e', h1, h2, h3, h4, _⟩ := a
    exact en.rt (.twoO ys xs) σ ε' H' F' z R' ⟨⟨p', us, e', h1, h2, h3, h4⟩, r, vs, g3, g4, g5, g6⟩ q
  | _ => exact q.elim
/-- the ends of what is done with a list that is lent -/
theorem EnOk.lend {b : Bd} {K : PySem.W.Frag} {E : En} {D : Ends} (h : EnOk K b E D) {p : Addr} (np : b.H0.h p = none) :
    EnOk K { b with H0 := b.H0.add p } { nx := fun e => E.nx (unlend e), rt := fun v => noTwo v = true ∧ E.rt v, bk := fun e => E.bk (unlend e), ct := fun e => E.ct (unlend e), ex := fun c e => E.ex c (unlend e) } D where
  nx := fun σ ε H F R q => h.nx σ _ H F (R.back np) q
  rt := fun v σ ε H F x R a q => by
    refine h.rt v σ _ H F x (R.back np) ?_ q.2
    cases v with
    | d y => exact a
    | own ys =>
      obtain ⟨r, vs, e, g1, g2, g3, g4, g5⟩ := a
      exact ⟨r, vs, e, g1, g2, g3, ⟨g4.1, fun z => g4.2 (.inl z)⟩, fun i zs q z => g5 i zs (gv_unlend ε i _ q).1 z⟩
    | two y ys => exact absurd q.1 Bool.false_ne_true
    | twoO y ys => exact absurd q.1 Bool.false_ne_true
    | many _ => exact a
    | exc _ => exact a
    | lent _ => exact a
    | dI _ => exact a
    | dT _ => exact a
  bk := fun σ ε H F R q => h.bk σ _ H F (R.back np) q
  ct := fun σ ε H F R q => h.ct σ _ H F (R.back np) q
  ex := fun c σ ε H F R q => h.ex c σ _ H F (R.back np) q
end
/-! ### dicts -/
/-- {}, its keys to be tuples of whole numbers -/
def tDNewX : TE := fun _ H Q => ∀ p, H p = none → Q (.ref p) (upd H p (.ext (TbAt p [])))
theorem pe_dnewX {X : Cx} {pos : Pos} : PE X (.Dict [] [] pos) tDNewX := ⟨fun pins s σ H Q I h =>
  wpAny_Dict_empty ⟨.ref s.heap.objs.size, _, I.laid (a := s.heap.objs.size) (o := .ext (TbAt s.heap.objs.size [])) (t' := s.toks) (fun _ _ q => Heap.get?_push_of_some _ q) (Nat.le_refl _)
    ⟨⟨_, #[], 0, Heap.get?_push_size _ rfl, ⟨rfl, rfl, rfl⟩, rfl, rfl, List.nodup_nil, Nat.zero_le _, beq_eq_false_iff_ne.mpr (Ne.symm (Nat.ne_of_lt I.big))⟩, ⟨_, Heap.get?_push_size _ rfl⟩, fun h1 h2 φ st => by
      obtain ⟨o, es, ep, ho, r⟩ := φ
      exact ⟨o, es, ep, st o ho, r⟩⟩, rfl, h _ (I.hok.fresh (Nat.le_refl _))⟩⟩
def sGPut (K : PySem.W.Frag) (td ty tv : TE) : TS := fun D σ H => tv σ H fun v H1 => td σ H1 fun x H2 => ty σ H2 fun y H3 => ∃ a F u d dz, ∃ G : Val → Prop, x = .ref a ∧ Sub F H3 ∧ DcAt K F H3 a u ∧ Dp K F y d ∧ Dp K F v dz ∧ dPutW u d dz G ∧
  ∀ v' o, G v' → isDc v' = true → DcAt K F (upd H3 a o) a v' → D.nx σ (upd H3 a o)
theorem ps_gput {X : Cx} {o i value : Expr} {pos pos' : Pos} {td ty tv : TE} (hu : X.A.units + 1 < cLine) (ho : PE X o td) (hi : PE X i ty) (hv : PE X value tv) (hs : swapsWith value (some (.Subscript o i pos')) pos.line X.env = pure false) :
    PS X (.Assign [.Subscript o i pos'] value pos) (sGPut X.K td ty tv) := by
  refine ⟨fun pins s σ H D I h => ?_⟩
  refine wpAny_Assign_Subscript (thn (hv.run pins s σ H _ I h) fun r s1 ⟨v, H1, I1, rv, q1⟩ => thn (ho.run pins s1 σ H1 _ I1 q1) fun u s2 ⟨x, H2, I2, rx, q2⟩ => thn (hi.run pins s2 σ H2 _ I2 q2) fun iv s3 ⟨y, H3, I3, ry, a, F, u', d, dz, G, ex, sb, da, dy, dv, w, q3⟩ => ?_) hs
  subst ex
  obtain rfl : u = Value.ref a := rx
  exact gt_put hu I3 sb da dy dv w ry rv fun v' o s4 g c dd I4 => ⟨σ, _, I4, q3 v' o g c dd⟩
section
variable {fns : List FnI} {cls : List Str} {N : List Str} {C : Nat → Addr} {Φ : Fs} {k : Nat} {X : Cx} {b : Bd} {sc : Scope}
theorem sDnew (ok : Cok fns cls N C Φ k X sc b.W) (ks : Cks X) {j : Nat} {t : Bool} {x : Str} {p p2 pos : Pos} (h1 : nmB N j x = true) (h2 : locB sc x = true) : PS X (.Assign [.Name x p] (.Dict [] [] p2) pos) (rdS X.K b (wS Φ (.dnew j t))) := by
  obtain ⟨g1, _, _⟩ := nmB_of h1
  cases t with
  | true =>
    refine psImp (ps_set ok.nd (by rw [ok.eN]; exact g1) (by rw [ok.esc]; exact locB_of h2) pe_dnewX (noSw rfl) (.inl (ks.fn x))) fun D σ H ⟨ε, F, E, R, w, en⟩ => ?_
    exact fun r hr => en.nx _ _ _ F (R.dcNew (v := .dT []) rfl hr ⟨[], upd_same, .nil⟩) w
  | false =>
    refine psImp (ps_set ok.nd (by rw [ok.eN]; exact g1) (by rw [ok.esc]; exact locB_of h2) pe_dnewK (noSw rfl) (.inl (ks.fn x))) fun D σ H ⟨ε, F, E, R, w, en⟩ => ?_
    exact fun r hr => en.nx _ _ _ F (R.dcNew (v := .dI []) rfl hr ⟨[], upd_same, .nil⟩) w
theorem sDset (ok : Cok fns cls N C Φ k X sc b.W) {j : Nat} {x : Str} {ki ei : IE} {ke v : Expr} {p p2 pos : Pos} (h1 : (nmB N j x && visB sc x) = true) (h3 : noComp v = true)
    (he : PE X v (rdE X.K b (wE Φ ei))) (hk : PE X ke (rdE X.K b (wE Φ ki))) : PS X (.Assign [.Subscript (.Name x p) ke p2] v pos) (rdS X.K b (wS Φ (.dset j ki ei))) := by
  refine psImp (ps_gput (by have := ok.room.un; omega) (peVar (p := p) ok h1) (peD hk) (peD he) (noSw h3)) fun D σ H ⟨ε, F, E, R, w, en⟩ => ?_
  refine ⟨ε, F, E.ex, _, R, w, en.toEx, fun d1 ε1 H1 F1 z1 s1 f1 R1 a1 q1 => ?_⟩
  obtain ⟨v0, r, g0, gd, g2, g3, g5, g6, q1⟩ := dictGo R1 q1
  refine ⟨.ref r, g2, ε1, F1, E.ex, _, R1, q1, en.toEx, fun d2 ε2 H2 F2 z2 s2 f2 R2 a2 q2 => ?_⟩
  obtain ⟨u, r', k0, kd, k2, k3, k5, k6, q2⟩ := dictGo R2 q2
  obtain rfl := refEq k2 g2
  refine ⟨r', F2, u, d2, d1, _, rfl, R2.fh, k3, a2, dpSub f2 a1, q2, fun v' o g c dd => ?_⟩
  exact en.nx _ _ _ F2 (R2.dcPut k0 kd k2 c dd) g
end
end Rc

/-! All statements; a def; all defs. -/
namespace Rc
open PySem PySem.Spec PyProof.Rows L2
section
variable {fns : List FnI} {cls : List Str} {N : List Str} {C : Nat → Addr} {Φ : Fs} {k : Nat} {X : Cx} {b : Bd} {sc : Scope}
theorem sPar (ok : Cok fns cls N C Φ k X sc b.W) (ks : Cks X) {i j : Nat} {a c : IE} {x y : Str} {ea ec : Expr} {px py pt pt2 pos : Pos} {kt k2 : Nat} (h1 : nmB N i x = true) (h2 : nmB N j y = true) (hij : i ≠ j)
    (hp : parB sc [(x, px), (y, py)] [ea, ec] = true) (p1 : plainE ea = true) (p2 : plainE ec = true) (he : PE X ea (rdE X.K b (wE Φ a))) (hc : PE X ec (rdE X.K b (wE Φ c))) :
    PS X (.Assign [.Tuple [.Name x px, .Name y py] kt pt] (.Tuple [ea, ec] k2 pt2) pos) (rdS X.K b (wS Φ (.par i j a c))) := by
  obtain ⟨g1, _, _⟩ := nmB_of h1
  obtain ⟨g2, _, _⟩ := nmB_of h2
  rw [← ok.eN] at g1 g2
  have hxy : x ≠ y := fun e => hij (nodup_ix ok.nd g1 (e ▸ g2))
  have hl : lclB sc x = true ∧ lclB sc y = true := by
    have q := hp
    unfold parB at q
    simp only [List.all_cons, List.all_nil, Bool.and_true, Bool.and_eq_true] at q
    exact ⟨q.1.1.1.1.1, q.1.1.1.2.1⟩
  have ha : PA X [ea, ec] (tCons (rdD X.K b (wE Φ a)) (tCons (rdD X.K b (wE Φ c)) tNil)) := pa_cons (peD he) (pa_cons (peD hc) pa_nil (starOf p2)) (starOf p1)
  refine psImp (ps_par ok.calm ok.nd g1 g2 hij (by rw [ok.esc]; exact lclB_of hl.1) (by rw [ok.esc]; exact lclB_of hl.2) ha (parSwap ok.esc ks.kind hxy hp)) fun D σ H ⟨ε, F, E, R, w, en⟩ => ?_
  refine ⟨ε, F, E.ex, _, R, w, en.toEx, fun d ε1 H1 F1 u s1 f1 R1 a1 q1 => ⟨ε1, F1, E.ex, _, R1, q1, en.toEx, fun e ε2 H2 F2 v s2 f2 R2 a2 q2 => ⟨u, v, rfl, ?_⟩⟩⟩
  exact en.nx _ _ H2 F2 ((R2.store (x := .d d) (dpSub f2 a1) i).store (x := .d e) a2 j) q2
/-- statements hold what they mean -/
theorem snS (i : IS) : ∀ (b : Bd) (X : Cx) (sc : Scope), b.C = C → Cok fns cls N C Φ k X sc b.W → Cks X →
    (isSq i = false → ∀ st, chkS fns cls N i sc [st] = true → PS X st (rdS X.K b (wS Φ i))) ∧
    (isSq i = true → ∀ sts, chkS fns cls N i sc sts = true → PSs X sts (rdS X.K b (wS Φ i))) := by
  induction i with
  | nil =>
    refine fun b X sc hC ok ks => ⟨fun h => absurd h.symm Bool.false_ne_true, fun _ sts hc => ?_⟩
    cases sts with
    | cons _ _ => exact absurd hc Bool.false_ne_true
    | nil => exact pssImp pss_nil fun D σ H ⟨ε, F, E, R, w, en⟩ => en.nx σ ε H F R w
  | seq s r ih1 ih2 =>
    refine fun b X sc hC ok ks => ⟨fun h => absurd h.symm Bool.false_ne_true, fun _ sts hc => ?_⟩
    cases sts with
    | nil => exact absurd hc Bool.false_ne_true
    | cons st sts =>
      have h : (!isSq s && chkS fns cls N s sc [st] && isSq r && chkS fns cls N r sc sts) = true := hc
      simp only [Bool.and_eq_true, Bool.not_eq_true'] at h
      obtain ⟨⟨⟨h1, h2⟩, h3⟩, h4⟩ := h
      exact pssImp (pss_cons ((ih1 b X sc hC ok ks).1 h1 st h2) ((ih2 b X sc hC ok ks).2 h3 sts h4)) fun D σ H ⟨ε, F, E, R, w, en⟩ =>
        ⟨ε, F, _, R, w, en.nx' fun σ ε H F R q => ⟨ε, F, E, R, q, en⟩⟩
  | still j r ih =>
    refine fun b X sc hC ok ks => ⟨fun h => absurd h.symm Bool.false_ne_true, fun _ sts hc => ?_⟩
    have h : (isSq r && chkS fns cls N r sc sts) = true := hc
    rw [Bool.and_eq_true] at h
    refine pssImp ((ih b X sc hC ok ks).2 h.1 sts h.2) fun D σ H ⟨ε, F, E, R, w, en⟩ => ?_
    have w' : wE Φ (.var j) ε (fun _ _ => False) (fun _ ε1 => wS Φ r ε1 E) := w
    unfold wE at w'
    split at w'
    · exact ⟨ε, F, E, R, w', en⟩
    · rename_i ys hy
      obtain ⟨v, F', e1, f1, R1, d1⟩ := R.still hy
      exact ⟨_, F', E, R1, w', en⟩
    · exact w'.elim
  | asg j e =>
    refine fun b X sc hC ok ks => ⟨fun _ st hc => ?_, fun h => absurd h Bool.false_ne_true⟩
    cases st with
    | Assign tgs v pos =>
      cases tgs with
      | nil => exact absurd hc Bool.false_ne_true
      | cons t tgs =>
        cases t with
        | Name x p =>
          cases tgs with
          | cons _ _ => exact absurd hc Bool.false_ne_true
          | nil =>
            have h : (nmB N j x && locB sc x && (if isLC v then (swB sc x p.line v || cellB sc x) && !isDl e else noComp v) && chk fns N e sc [v]) = true := hc
            simp only [Bool.and_eq_true] at h
            obtain ⟨⟨⟨h1, h2⟩, h3⟩, h4⟩ := h
            by_cases hl : isLC v = true
            · rw [if_pos hl, Bool.and_eq_true] at h3
              obtain ⟨h3, hdl⟩ := h3
              by_cases hce : cellB sc x = true
              · exact sAsgC ok ks h1 h2 hce hl ((snAll e).e b X sc hC ok v h4)
              rw [Bool.not_eq_true] at hce
              rw [hce, Bool.or_false] at h3
              cases v with
              | ListComp e' gs scope p' =>
                cases e with
                | lc t it c elt =>
                  cases gs with
                  | nil => exact absurd h4 Bool.false_ne_true
                  | cons g gs =>
                    obtain ⟨tg, iter, ifs, as⟩ := g
                    cases gs with
                    | cons _ _ => exact absurd h4 Bool.false_ne_true
                    | nil =>
                      have h : (decide (as = 0) && plainE iter && isIt it && chk fns N it sc [iter, tg] && tgB (blB scope sc) N t tg && blkC N sc scope (tgOwn t tg) && ifsB (isNil c) ifs (fun f => chk fns N c (relS scope sc) [f]) && chk fns N elt (relS scope sc) [e']) = true := h4
                      simp only [Bool.and_eq_true, decide_eq_true_eq] at h
                      obtain ⟨⟨⟨⟨⟨⟨⟨rfl, g1⟩, g2⟩, g3⟩, g4⟩, g5⟩, g6⟩, g7⟩ := h
                      exact sLc ok hC ks h1 h3 g2 g3 g4 g5 g6 g7 g1
                | lcL t it elt l =>
                  rcases gs with _ | ⟨⟨tg, iter, ifs, as⟩, _ | ⟨_, _⟩⟩
                  · exact absurd h4 Bool.false_ne_true
                  · cases ifs with
                    | cons _ _ => exact absurd h4 Bool.false_ne_true
                    | nil =>
                      have h : (decide (as = 0) && plainE iter && isIt it && chk fns N it sc [iter, tg] && tgB (blB scope sc) N t tg && blkC N sc scope (tgOwn t tg) && !(tgs t).contains l && chk fns N elt (relS scope sc) [e']) = true := h4
                      simp only [Bool.and_eq_true, decide_eq_true_eq, Bool.not_eq_true'] at h
                      obtain ⟨⟨⟨⟨⟨⟨⟨rfl, g1⟩, g2⟩, g3⟩, g4⟩, g5⟩, g6⟩, g7⟩ := h
                      exact sLcL ok hC ks h1 h3 g2 g3 g4 g5 g6 g7 g1
                  · exact absurd h4 (by cases ifs <;> exact Bool.false_ne_true)
                | lcK t it elt l =>
                  rcases gs with _ | ⟨⟨tg, iter, ifs, as⟩, _ | ⟨_, _⟩⟩
                  · exact absurd h4 Bool.false_ne_true
                  · cases ifs with
                    | cons _ _ => exact absurd h4 Bool.false_ne_true
                    | nil =>
                      have h : (decide (as = 0) && plainE iter && isIt it && chk fns N it sc [iter, tg] && tgB (blB scope sc) N t tg && blkC N sc scope (tgOwn t tg) && !(tgs t).contains l && chk fns N elt (relS scope sc) [e']) = true := h4
                      simp only [Bool.and_eq_true, decide_eq_true_eq, Bool.not_eq_true'] at h
                      obtain ⟨⟨⟨⟨⟨⟨⟨rfl, g1⟩, g2⟩, g3⟩, g4⟩, g5⟩, g6⟩, g7⟩ := h
                      exact sLcK ok hC ks h1 h3 g2 g3 g4 g5 g6 g7 g1
                  · exact absurd h4 (by cases ifs <;> exact Bool.false_ne_true)
                | dlc _ _ _ _ => exact absurd hdl Bool.false_ne_true
                | lcD _ _ _ _ _ => exact absurd hdl Bool.false_ne_true
                | lcO _ _ _ _ => exact absurd hdl Bool.false_ne_true
                | _ => exact absurd h4 Bool.false_ne_true
              | _ => exact absurd hl Bool.false_ne_true
            · rw [if_neg hl] at h3
              exact sAsg ok ks h1 h2 h3 ((snAll e).e b X sc hC ok v h4)
        | _ => exact absurd hc Bool.false_ne_true
    | _ => exact absurd hc Bool.false_ne_true
  | asgT js e =>
    refine fun b X sc hC ok ks => ⟨fun _ st hc => ?_, fun h => absurd h Bool.false_ne_true⟩
    cases st with
    | Assign tgs v pos =>
      cases tgs with
      | nil => exact absurd hc Bool.false_ne_true
      | cons t tgs =>
        cases t with
        | Tuple es n p =>
          cases tgs with
          | cons _ _ => exact absurd hc Bool.false_ne_true
          | nil =>
            have h : (tgsB (locB sc) N js es && notTup v && noComp v && chk fns N e sc [v]) = true := hc
            simp only [Bool.and_eq_true] at h
            exact sAsgT ok ks h.1.1.1 h.1.1.2 h.1.2 ((snAll e).e b X sc hC ok v h.2)
        | _ => exact absurd hc Bool.false_ne_true
    | _ => exact absurd hc Bool.false_ne_true
  | par i j a c =>
    refine fun b X sc hC ok ks => ⟨fun _ st hc => ?_, fun h => absurd h Bool.false_ne_true⟩
    have no : ∀ {q : Prop}, False → q := fun z => z.elim
    cases st with
    | Assign tgs v pos =>
      cases tgs with
      | nil => exact absurd hc Bool.false_ne_true
      | cons t tgs =>
        cases t with
        | Tuple ts n p =>
          cases ts with
          | nil => exact absurd hc Bool.false_ne_true
          | cons t1 ts =>
            cases t1 with
            | Name x px =>
              cases ts with
              | nil => exact absurd hc Bool.false_ne_true
              | cons t2 ts =>
                cases t2 with
                | Name y py =>
                  cases ts with
                  | cons _ _ => exact absurd hc Bool.false_ne_true
                  | nil =>
                    cases tgs with
                    | cons _ _ => exact absurd hc Bool.false_ne_true
                    | nil =>
                      cases v with
                      | Tuple vs n2 p2 =>
                        cases vs with
                        | nil => exact absurd hc Bool.false_ne_true
                        | cons ea vs =>
                          cases vs with
                          | nil => exact absurd hc Bool.false_ne_true
                          | cons ec vs =>
                            cases vs with
                            | cons _ _ => exact absurd hc Bool.false_ne_true
                            | nil =>
                              have h : (nmB N i x && nmB N j y && decide (i ≠ j) && parB sc [(x, px), (y, py)] [ea, ec] && plainE ea && plainE ec && chk fns N a sc [ea] && chk fns N c sc [ec]) = true := hc
                              simp only [Bool.and_eq_true, decide_eq_true_eq] at h
                              obtain ⟨⟨⟨⟨⟨⟨⟨h1, h2⟩, h3⟩, h4⟩, h5⟩, h6⟩, h7⟩, h8⟩ := h
                              exact sPar ok ks h1 h2 h3 h4 h5 h6 ((snAll a).e b X sc hC ok ea h7) ((snAll c).e b X sc hC ok ec h8)
                      | _ => exact absurd hc Bool.false_ne_true
                | _ => exact absurd hc Bool.false_ne_true
            | _ => exact absurd hc Bool.false_ne_true
        | _ => exact absurd hc Bool.false_ne_true
    | _ => exact absurd hc Bool.false_ne_true
  | par3 i j l a c d => exact fun b X sc hC ok ks => ⟨fun _ st hc => absurd hc Bool.false_ne_true, fun h => absurd h Bool.false_ne_true⟩
  | dnew j t =>
    refine fun b X sc hC ok ks => ⟨fun _ st hc => ?_, fun h => absurd h Bool.false_ne_true⟩
    cases st with
    | Assign tgs v pos =>
      rcases tgs with _ | ⟨tg, _ | ⟨_, _⟩⟩
      · exact absurd hc Bool.false_ne_true
      · cases tg with
        | Name x p =>
          cases v with
          | Dict ks vs p2 =>
            cases ks with
            | cons _ _ => exact absurd hc Bool.false_ne_true
            | nil =>
              cases vs with
              | cons _ _ => exact absurd hc Bool.false_ne_true
              | nil =>
                have h : (nmB N j x && locB sc x) = true := hc
                rw [Bool.and_eq_true] at h
                exact sDnew ok ks h.1 h.2
          | _ => exact absurd hc Bool.false_ne_true
        | _ => exact absurd hc Bool.false_ne_true
      · exact absurd hc (by cases tg <;> exact Bool.false_ne_true)
    | _ => exact absurd hc Bool.false_ne_true
  | dset j kE e =>
    refine fun b X sc hC ok ks => ⟨fun _ st hc => ?_, fun h => absurd h Bool.false_ne_true⟩
    cases st with
    | Assign tgs v pos =>
      cases tgs with
      | nil => exact absurd hc Bool.false_ne_true
      | cons t tgs =>
        cases t with
        | Subscript o ke p =>
          cases o with
          | Name x p2 =>
            cases tgs with
            | cons _ _ => exact absurd hc Bool.false_ne_true
            | nil =>
              have h : (nmB N j x && visB sc x && plainE ke && noComp v && chk fns N e sc [v] && chk fns N kE sc [ke]) = true := hc
              rw [Bool.and_eq_true, Bool.and_eq_true, Bool.and_eq_true, Bool.and_eq_true] at h
              obtain ⟨⟨⟨⟨h1, h2⟩, h3⟩, h4⟩, h5⟩ := h
              exact sDset ok h1 h3 ((snAll e).e b X sc hC ok v h4) ((snAll kE).e b X sc hC ok ke h5)
          | _ => exact absurd hc Bool.false_ne_true
        | _ => exact absurd hc Bool.false_ne_true
    | _ => exact absurd hc Bool.false_ne_true
  | setIx j kE e =>
    refine fun b X sc hC ok ks => ⟨fun _ st hc => ?_, fun h => absurd h Bool.false_ne_true⟩
    cases st with
    | Assign tgs v pos =>
      cases tgs with
      | nil => exact absurd hc Bool.false_ne_true
      | cons t tgs =>
        cases t with
        | Subscript o ke p =>
          cases o with
          | Name x p2 =>
            cases tgs with
            | cons _ _ => exact absurd hc Bool.false_ne_true
            | nil =>
              have h : (nmB N j x && visB sc x && plainE ke && noComp v && chk fns N e sc [v] && chk fns N kE sc [ke]) = true := hc
              rw [Bool.and_eq_true, Bool.and_eq_true, Bool.and_eq_true, Bool.and_eq_true] at h
              obtain ⟨⟨⟨⟨h1, h2⟩, h3⟩, h4⟩, h5⟩ := h
              exact sSetIx ok h1 h2 h3 ((snAll e).e b X sc hC ok v h4) ((snAll kE).e b X sc hC ok ke h5)
          | _ => exact absurd hc Bool.false_ne_true
        | _ => exact absurd hc Bool.false_ne_true
    | _ => exact absurd hc Bool.false_ne_true
  | app j e =>
    refine fun b X sc hC ok ks => ⟨fun _ st hc => ?_, fun h => absurd h Bool.false_ne_true⟩
    cases st with
    | Expr v pos =>
      cases v with
      | Call f es kws p =>
        cases f with
        | Attribute o m q =>
          cases o with
          | Name x p2 =>
            cases es with
            | nil => exact absurd hc Bool.false_ne_true
            | cons v es =>
              cases es with
              | cons _ _ => exact absurd hc Bool.false_ne_true
              | nil =>
                cases kws with
                | cons _ _ => exact absurd hc Bool.false_ne_true
                | nil =>
                  have h : (decide (m = "append") && nmB N j x && visB sc x && plainE v && (q.endLine == p.line) && chk fns N e sc [v]) = true := hc
                  simp only [Bool.and_eq_true, decide_eq_true_eq] at h
                  obtain ⟨⟨⟨⟨⟨rfl, h1⟩, h2⟩, h3⟩, h4⟩, h5⟩ := h
                  exact sApp ok (by rw [h1, h2]; rfl) h3 h4 ((snAll e).e b X sc hC ok v h5)
          | _ => exact absurd hc Bool.false_ne_true
        | _ => exact absurd hc Bool.false_ne_true
      | _ => exact absurd hc Bool.false_ne_true
    | _ => exact absurd hc Bool.false_ne_true
  | pop j =>
    refine fun b X sc hC ok ks => ⟨fun _ st hc => ?_, fun h => absurd h Bool.false_ne_true⟩
    cases st with
    | Expr v pos =>
      cases v with
      | Call f es kws p =>
        cases f with
        | Attribute o m q =>
          cases o with
          | Name x p2 =>
            cases es with
            | cons _ _ => exact absurd hc Bool.false_ne_true
            | nil =>
              cases kws with
              | cons _ _ => exact absurd hc Bool.false_ne_true
              | nil =>
                have h : (decide (m = "pop") && nmB N j x && visB sc x && (q.endLine == p.line)) = true := hc
                simp only [Bool.and_eq_true, decide_eq_true_eq] at h
                obtain ⟨⟨⟨rfl, h1⟩, h2⟩, h3⟩ := h
                exact sPop ok (by rw [h1, h2]; rfl) h3
          | _ => exact absurd hc Bool.false_ne_true
        | _ => exact absurd hc Bool.false_ne_true
      | _ => exact absurd hc Bool.false_ne_true
    | _ => exact absurd hc Bool.false_ne_true
  | popT t j =>
    refine fun b X sc hC ok ks => ⟨fun _ st hc => ?_, fun h => absurd h Bool.false_ne_true⟩
    cases st with
    | Assign tgs v pos =>
      rcases tgs with _ | ⟨tg, _ | ⟨_, _⟩⟩
      · exact absurd hc Bool.false_ne_true
      · cases v with
        | Call f es kws p =>
          cases f with
          | Attribute o m q =>
            cases o with
            | Name x p2 =>
              cases es with
              | cons _ _ => exact absurd hc (by cases kws <;> exact Bool.false_ne_true)
              | nil =>
                cases kws with
                | cons _ _ => exact absurd hc Bool.false_ne_true
                | nil =>
                  have h : (decide (m = "pop") && tgB (locB sc) N t tg && nmB N j x && visB sc x && (q.endLine == p.line)) = true := hc
                  simp only [Bool.and_eq_true, decide_eq_true_eq] at h
                  obtain ⟨⟨⟨⟨rfl, h0⟩, h1⟩, h2⟩, h3⟩ := h
                  exact sPopT ok ks h0 (by rw [h1, h2]; rfl) h3
            | _ => exact absurd hc Bool.false_ne_true
          | _ => exact absurd hc Bool.false_ne_true
        | _ => exact absurd hc Bool.false_ne_true
      · exact absurd hc Bool.false_ne_true
    | _ => exact absurd hc Bool.false_ne_true
  | popI t j kE =>
    refine fun b X sc hC ok ks => ⟨fun _ st hc => ?_, fun h => absurd h Bool.false_ne_true⟩
    cases st with
    | Assign tgs v pos =>
      rcases tgs with _ | ⟨tg, _ | ⟨_, _⟩⟩
      · exact absurd hc Bool.false_ne_true
      · cases v with
        | Call f es kws p =>
          cases f with
          | Attribute o m q =>
            cases o with
            | Name x p2 =>
              rcases es with _ | ⟨ke, _ | ⟨_, _⟩⟩
              · exact absurd hc Bool.false_ne_true
              · cases kws with
                | cons _ _ => exact absurd hc Bool.false_ne_true
                | nil =>
                  have h : (decide (m = "pop") && tgB (locB sc) N t tg && nmB N j x && visB sc x && (q.endLine == p.line) && plainE ke && chk fns N kE sc [ke]) = true := hc
                  simp only [Bool.and_eq_true, decide_eq_true_eq] at h
                  obtain ⟨⟨⟨⟨⟨⟨rfl, h0⟩, h1⟩, h2⟩, h3⟩, h4⟩, h5⟩ := h
                  exact sPopI ok ks h0 (by rw [h1, h2]; rfl) h3 h4 ((snAll kE).e b X sc hC ok ke h5)
              · exact absurd hc Bool.false_ne_true
            | _ => exact absurd hc Bool.false_ne_true
          | _ => exact absurd hc Bool.false_ne_true
        | _ => exact absurd hc Bool.false_ne_true
      · exact absurd hc Bool.false_ne_true
    | _ => exact absurd hc Bool.false_ne_true
  | set2 j kE lE e =>
    refine fun b X sc hC ok ks => ⟨fun _ st hc => ?_, fun h => absurd h Bool.false_ne_true⟩
    have no : ∀ {q : Prop}, False → q := fun z => z.elim
    cases st with
    | Assign tgs v pos =>
      rcases tgs with _ | ⟨tg, tgs⟩
      · exact absurd hc Bool.false_ne_true
      · cases tg with
        | Tuple es n p5 =>
          rcases es with _ | ⟨e1, _ | ⟨e2, _ | ⟨_, _⟩⟩⟩
          · exact absurd hc Bool.false_ne_true
          · cases e1 with
            | Subscript o ke p2 => cases o <;> exact absurd hc Bool.false_ne_true
            | _ => exact absurd hc Bool.false_ne_true
          · cases e1 with
            | Subscript o ke p2 =>
              cases o with
              | Name x p =>
                cases e2 with
                | Subscript o2 le p4 =>
                  cases o2 with
                  | Name y p3 =>
                    cases tgs with
                    | cons _ _ => exact absurd hc Bool.false_ne_true
                    | nil =>
                      have h : (nmB N j x && visB sc x && (nmB N j y && visB sc y) && plainE ke && plainE le && noComp v && chk fns N e sc [v] && chk fns N kE sc [ke] && chk fns N lE sc [le]) = true := hc
                      rw [Bool.and_eq_true, Bool.and_eq_true, Bool.and_eq_true, Bool.and_eq_true, Bool.and_eq_true, Bool.and_eq_true, Bool.and_eq_true] at h
                      obtain ⟨⟨⟨⟨⟨⟨⟨h1, h1'⟩, h2⟩, h2'⟩, h3⟩, h4⟩, h5⟩, h6⟩ := h
                      exact sSet2 ok ks h1 h1' h2 h2' h3 ((snAll e).e b X sc hC ok v h4) ((snAll kE).e b X sc hC ok ke h5) ((snAll lE).e b X sc hC ok le h6)
                  | _ => exact absurd hc Bool.false_ne_true
                | _ => exact absurd hc Bool.false_ne_true
              | _ => exact absurd hc Bool.false_ne_true
            | _ => exact absurd hc Bool.false_ne_true
          · cases e1 with
            | Subscript o ke p2 => cases o <;> cases e2 <;> first | exact absurd hc Bool.false_ne_true | (rename_i o2 _ _; cases o2 <;> exact absurd hc Bool.false_ne_true)
            | _ => exact absurd hc Bool.false_ne_true
        | _ => exact absurd hc Bool.false_ne_true
    | _ => exact absurd hc Bool.false_ne_true
  | ins j kE e =>
    refine fun b X sc hC ok ks => ⟨fun _ st hc => ?_, fun h => absurd h Bool.false_ne_true⟩
    cases st with
    | Expr v pos =>
      cases v with
      | Call f es kws p =>
        cases f with
        | Attribute o m q =>
          cases o with
          | Name x p2 =>
            rcases es with _ | ⟨ke, _ | ⟨v, _ | ⟨_, _⟩⟩⟩
            · exact absurd hc Bool.false_ne_true
            · exact absurd hc Bool.false_ne_true
            · cases kws with
              | cons _ _ => exact absurd hc Bool.false_ne_true
              | nil =>
                have h : (decide (m = "insert") && nmB N j x && visB sc x && plainE ke && plainE v && (q.endLine == p.line) && chk fns N kE sc [ke] && chk fns N e sc [v]) = true := hc
                simp only [Bool.and_eq_true, decide_eq_true_eq] at h
                obtain ⟨⟨⟨⟨⟨⟨⟨rfl, h1⟩, h2⟩, h3⟩, h4⟩, h5⟩, h6⟩, h7⟩ := h
                exact sIns ok (by rw [h1, h2]; rfl) h3 h4 h5 ((snAll kE).e b X sc hC ok ke h6) ((snAll e).e b X sc hC ok v h7)
            · exact absurd hc Bool.false_ne_true
          | _ => exact absurd hc Bool.false_ne_true
        | _ => exact absurd hc Bool.false_ne_true
      | _ => exact absurd hc Bool.false_ne_true
    | _ => exact absurd hc Bool.false_ne_true
  | ext j e =>
    refine fun b X sc hC ok ks => ⟨fun _ st hc => ?_, fun h => absurd h Bool.false_ne_true⟩
    cases st with
    | Expr v pos =>
      cases v with
      | Call f es kws p =>
        cases f with
        | Attribute o m q =>
          cases o with
          | Name x p2 =>
            rcases es with _ | ⟨v, _ | ⟨_, _⟩⟩
            · exact absurd hc Bool.false_ne_true
            · cases kws with
              | cons _ _ => exact absurd hc Bool.false_ne_true
              | nil =>
                have h : (decide (m = "extend") && nmB N j x && visB sc x && plainE v && (q.endLine == p.line) && chk fns N e sc [v]) = true := hc
                simp only [Bool.and_eq_true, decide_eq_true_eq] at h
                obtain ⟨⟨⟨⟨⟨rfl, h1⟩, h2⟩, h3⟩, h4⟩, h5⟩ := h
                exact sExt ok (by rw [h1, h2]; rfl) h3 h4 ((snAll e).e b X sc hC ok v h5)
            · exact absurd hc Bool.false_ne_true
          | _ => exact absurd hc Bool.false_ne_true
        | _ => exact absurd hc Bool.false_ne_true
      | _ => exact absurd hc Bool.false_ne_true
    | _ => exact absurd hc Bool.false_ne_true
  | aug j o e =>
    refine fun b X sc hC ok ks => ⟨fun _ st hc => ?_, fun h => absurd h Bool.false_ne_true⟩
    cases st with
    | AugAssign t o' v pos =>
      cases t with
      | Name x p =>
        have h : (decide (o = o') && nmB N j x && locB sc x && chk fns N e sc [v]) = true := hc
        simp only [Bool.and_eq_true, decide_eq_true_eq] at h
        obtain ⟨⟨⟨rfl, h1⟩, h2⟩, h3⟩ := h
        exact sAug ok ks h1 h2 ((snAll e).e b X sc hC ok v h3)
      | _ => exact absurd hc Bool.false_ne_true
    | _ => exact absurd hc Bool.false_ne_true
  | clr j =>
    refine fun b X sc hC ok ks => ⟨fun _ st hc => ?_, fun h => absurd h Bool.false_ne_true⟩
    cases st with
    | Expr v pos =>
      cases v with
      | Call f es kws p =>
        cases f with
        | Attribute o m q =>
          cases o with
          | Name x p2 =>
            cases es with
            | cons _ _ => exact absurd hc Bool.false_ne_true
            | nil =>
              cases kws with
              | cons _ _ => exact absurd hc Bool.false_ne_true
              | nil =>
                have h : (decide (m = "clear") && nmB N j x && visB sc x && (q.endLine == p.line)) = true := hc
                simp only [Bool.and_eq_true, decide_eq_true_eq] at h
                obtain ⟨⟨⟨rfl, h1⟩, h2⟩, h3⟩ := h
                exact sClr ok (by rw [h1, h2]; rfl) h3
          | _ => exact absurd hc Bool.false_ne_true
        | _ => exact absurd hc Bool.false_ne_true
      | _ => exact absurd hc Bool.false_ne_true
    | _ => exact absurd hc Bool.false_ne_true
  | clrE e =>
    refine fun b X sc hC ok ks => ⟨fun _ st hc => ?_, fun h => absurd h Bool.false_ne_true⟩
    cases st with
    | Expr v pos =>
      cases v with
      | Call f es kws p =>
        cases f with
        | Attribute o m q =>
          cases o with
          | Call f2 es2 kws2 fp =>
            cases es2 with
            | nil => exact absurd hc Bool.false_ne_true
            | cons e1 es2 =>
              cases es with
              | cons _ _ => exact absurd hc Bool.false_ne_true
              | nil =>
                cases kws with
                | cons _ _ => exact absurd hc Bool.false_ne_true
                | nil =>
                  have h : (decide (m = "clear") && (q.endLine == p.line) && chk fns N e sc [.Call f2 (e1 :: es2) kws2 fp]) = true := hc
                  simp only [Bool.and_eq_true, decide_eq_true_eq] at h
                  obtain ⟨⟨rfl, h1⟩, h2⟩ := h
                  exact sClrE ok h1 ((snAll e).e b X sc hC ok _ h2)
          | _ => exact absurd hc Bool.false_ne_true
        | _ => exact absurd hc Bool.false_ne_true
      | _ => exact absurd hc Bool.false_ne_true
    | _ => exact absurd hc Bool.false_ne_true
  | forP t j c e =>
    refine fun b X sc hC ok ks => ⟨fun _ st hc => ?_, fun h => absurd h Bool.false_ne_true⟩
    cases st with
    | For tg iter bd els pos =>
      cases iter with
      | Name x p =>
        rcases bd with _ | ⟨s0, _ | ⟨_, _⟩⟩
        · exact absurd hc Bool.false_ne_true
        · cases s0 with
          | If ce th el p3 =>
            rcases th with _ | ⟨r0, _ | ⟨_, _⟩⟩
            · exact absurd hc Bool.false_ne_true
            · cases r0 with
              | Return v p2 =>
                cases v with
                | none => exact absurd hc Bool.false_ne_true
                | some v =>
                  cases el with
                  | cons _ _ => exact absurd hc Bool.false_ne_true
                  | nil =>
                    cases els with
                    | cons _ _ => exact absurd hc Bool.false_ne_true
                    | nil =>
                      have h : (nmB N j x && visB sc x && !((tgs t).contains j) && tgB (locB sc) N t tg && chk fns N c sc [ce] && chk fns N e sc [v]) = true := hc
                      simp only [Bool.and_eq_true, Bool.not_eq_true'] at h
                      obtain ⟨⟨⟨⟨⟨h1, h2⟩, h3⟩, h4⟩, h5⟩, h6⟩ := h
                      exact sForP ok ks (by rw [h1, h2]; rfl) h3 h4 ((snAll c).t b X sc hC ok ce h5) ((snAll e).e b X sc hC ok v h6)
              | _ => exact absurd hc Bool.false_ne_true
            · cases r0 <;> first | exact absurd hc Bool.false_ne_true | (rename_i o _; cases o <;> exact absurd hc Bool.false_ne_true)
          | _ => exact absurd hc Bool.false_ne_true
        · cases s0 with
          | If ce th el p3 =>
            rcases th with _ | ⟨r0, _ | ⟨_, _⟩⟩
            · exact absurd hc Bool.false_ne_true
            · cases r0 with
              | Return v p2 => cases v <;> cases el <;> exact absurd hc Bool.false_ne_true
              | _ => exact absurd hc Bool.false_ne_true
            · cases r0 with
              | Return v p2 => cases v <;> exact absurd hc Bool.false_ne_true
              | _ => exact absurd hc Bool.false_ne_true
          | _ => exact absurd hc Bool.false_ne_true
      | _ => exact absurd hc Bool.false_ne_true
    | _ => exact absurd hc Bool.false_ne_true
  | lend j r ih =>
    refine fun b X sc hC ok ks => ⟨fun h => absurd h.symm Bool.false_ne_true, fun _ sts hc => ?_⟩
    have h : (isSq r && chkS fns cls N r sc sts) = true := hc
    rw [Bool.and_eq_true] at h
    refine pssImp (pssEx fun p => (ih { b with H0 := b.H0.add p } X sc hC ok ks).2 h.1 sts h.2) fun D σ H ⟨ε, F, E, R, w, en⟩ => ?_
    obtain ⟨xs, p, vs, g1, g2, g3, g4, w⟩ := ownGo R w
    obtain ⟨p', _, e', _, _, _, h4⟩ := R.own j xs g1
    have : p' = p := by rw [e'] at g2; simpa using g2
    subst this
    exact ⟨p', _, F, _, R.lend g1 g2, w, en.lend h4.1⟩
  | lfn r ih => exact fun b X sc hC ok ks => ⟨fun _ st hc => absurd hc Bool.false_ne_true, fun h => absurd h Bool.false_ne_true⟩
  | retL e =>
    refine fun b X sc hC ok ks => ⟨fun _ st hc => ?_, fun h => absurd h Bool.false_ne_true⟩
    cases st with
    | Return v pos =>
      cases v with
      | none => exact absurd hc Bool.false_ne_true
      | some v => exact sRetL ((snAll e).e b X sc hC ok v hc)
    | _ => exact absurd hc Bool.false_ne_true
  | lset j n e =>
    refine fun b X sc hC ok ks => ⟨fun _ st hc => ?_, fun h => absurd h Bool.false_ne_true⟩
    cases st with
    | Assign tgs v pos =>
      rcases tgs with _ | ⟨t, _ | ⟨_, _⟩⟩
      · exact absurd hc Bool.false_ne_true
      · cases t with
        | Subscript o ke p =>
          cases o with
          | Name x p2 =>
            cases ke with
            | Constant c m p3 =>
              cases c with
              | int i =>
                have h : (nmB N j x && visB sc x && decide (i = (n : Int)) && noComp v && chk fns N e sc [v]) = true := hc
                rw [Bool.and_eq_true, Bool.and_eq_true, Bool.and_eq_true, decide_eq_true_eq] at h
                obtain ⟨⟨⟨h1, rfl⟩, h3⟩, h4⟩ := h
                exact sLset ok h1 h3 ((snAll e).e b X sc hC ok v h4)
              | _ => exact absurd hc Bool.false_ne_true
            | _ => exact absurd hc Bool.false_ne_true
          | _ => exact absurd hc Bool.false_ne_true
        | _ => exact absurd hc Bool.false_ne_true
      · exact absurd hc (by
          cases t with
          | Subscript o ke p =>
            cases o with
            | Name x p2 =>
              cases ke with
              | Constant c m p3 => cases c <;> exact Bool.false_ne_true
              | _ => exact Bool.false_ne_true
            | _ => exact Bool.false_ne_true
          | _ => exact Bool.false_ne_true)
    | _ => exact absurd hc Bool.false_ne_true
  | asgN t e =>
    refine fun b X sc hC ok ks => ⟨fun _ st hc => ?_, fun h => absurd h Bool.false_ne_true⟩
    cases st with
    | Assign tgs v pos =>
      rcases tgs with _ | ⟨g, _ | ⟨_, _⟩⟩
      · exact absurd hc Bool.false_ne_true
      · cases g with
        | Tuple es n p =>
          have h : (tgB (locB sc) N t (.Tuple es n p) && notTup v && noComp v && chk fns N e sc [v]) = true := hc
          simp only [Bool.and_eq_true] at h
          exact sAsgN ok ks h.1.1.1 h.1.1.2 h.1.2 ((snAll e).e b X sc hC ok v h.2)
        | _ => exact absurd hc Bool.false_ne_true
      · exact absurd hc (by cases g <;> exact Bool.false_ne_true)
    | _ => exact absurd hc Bool.false_ne_true
  | drop e =>
    refine fun b X sc hC ok ks => ⟨fun _ st hc => ?_, fun h => absurd h Bool.false_ne_true⟩
    cases st with
    | Expr v pos =>
      have h : (noComp v && chk fns N e sc [v]) = true := hc
      rw [Bool.and_eq_true] at h
      exact sDrop h.1 ((snAll e).e b X sc hC ok v h.2)
    | _ => exact absurd hc Bool.false_ne_true
  | ret e =>
    refine fun b X sc hC ok ks => ⟨fun _ st hc => ?_, fun h => absurd h Bool.false_ne_true⟩
    cases st with
    | Return v pos =>
      cases v with
      | none => exact absurd hc Bool.false_ne_true
      | some v => exact sRet ((snAll e).e b X sc hC ok v hc)
    | _ => exact absurd hc Bool.false_ne_true
  | retN =>
    refine fun b X sc hC ok ks => ⟨fun _ st hc => ?_, fun h => absurd h Bool.false_ne_true⟩
    cases st with
    | Return v pos =>
      cases v with
      | some _ => exact absurd hc Bool.false_ne_true
      | none => exact psImp ps_retN fun D σ H ⟨ε, F, E, R, w, en⟩ => en.rt (.d .none) σ ε H F .non R Dp.non w
    | _ => exact absurd hc Bool.false_ne_true
  | ite c s t ih1 ih2 =>
    refine fun b X sc hC ok ks => ⟨fun _ st hc => ?_, fun h => absurd h Bool.false_ne_true⟩
    cases st with
    | If e x y pos =>
      have h : (chk fns N c sc [e] && isSq s && isSq t && chkS fns cls N s sc x && chkS fns cls N t sc y) = true := hc
      simp only [Bool.and_eq_true] at h
      obtain ⟨⟨⟨⟨h1, h2⟩, h3⟩, h4⟩, h5⟩ := h
      exact sIf ((snAll c).t b X sc hC ok e h1) ((ih1 b X sc hC ok ks).2 h2 x h4) ((ih2 b X sc hC ok ks).2 h3 y h5)
    | _ => exact absurd hc Bool.false_ne_true
  | whl c s ih =>
    refine fun b X sc hC ok ks => ⟨fun _ st hc => ?_, fun h => absurd h Bool.false_ne_true⟩
    cases st with
    | While e x y pos =>
      cases y with
      | cons _ _ => exact absurd hc Bool.false_ne_true
      | nil =>
        have h : (chk fns N c sc [e] && isSq s && chkS fns cls N s sc x) = true := hc
        simp only [Bool.and_eq_true] at h
        exact sWhl ks ((snAll c).t b X sc hC ok e h.1.1) ((ih b X sc hC ok ks).2 h.1.2 x h.2)
    | _ => exact absurd hc Bool.false_ne_true
  | forr t it s ih =>
    refine fun b X sc hC ok ks => ⟨fun _ st hc => ?_, fun h => absurd h Bool.false_ne_true⟩
    cases st with
    | For tg iter x y pos =>
      cases y with
      | cons _ _ => exact absurd hc Bool.false_ne_true
      | nil =>
        have h : (isIt it && plainE iter && chk fns N it sc [iter, tg] && tgB (locB sc) N t tg && isSq s && chkS fns cls N s sc x) = true := hc
        simp only [Bool.and_eq_true] at h
        obtain ⟨⟨⟨⟨⟨h1, h2⟩, h3⟩, h4⟩, h5⟩, h6⟩ := h
        exact sFor ok ks h2 ((snAll it).i b X sc hC ok h1 iter tg h3) h4 fun F0 => (ih { b with F0 := F0 } X sc hC ok ks).2 h5 x h6
    | _ => exact absurd hc Bool.false_ne_true
  | raise c =>
    refine fun b X sc hC ok ks => ⟨fun _ st hc => ?_, fun h => absurd h Bool.false_ne_true⟩
    cases st with
    | Raise e q pos =>
      cases e with
      | none => exact absurd hc Bool.false_ne_true
      | some e =>
        cases e with
        | Call f es kws p =>
          cases f with
          | Name x p2 =>
            cases es with
            | nil => exact absurd hc Bool.false_ne_true
            | cons e es =>
              cases es with
              | cons _ _ => exact absurd hc Bool.false_ne_true
              | nil =>
                cases kws with
                | cons _ _ => exact absurd hc Bool.false_ne_true
                | nil =>
                  cases q with
                  | some _ => exact absurd hc Bool.false_ne_true
                  | none =>
                    have h : (decide (cls[c]? = some x) && glB sc x && !(x == ("__debug__" : Str)) && isStr e) = true := hc
                    simp only [Bool.and_eq_true, decide_eq_true_eq, Bool.not_eq_true'] at h
                    exact sRaise ok hC h.1.1.1 h.1.1.2 h.1.2 h.2
          | _ => exact absurd hc Bool.false_ne_true
        | _ => exact absurd hc Bool.false_ne_true
    | _ => exact absurd hc Bool.false_ne_true
  | try1 s c j h ih =>
    refine fun b X sc hC ok ks => ⟨fun _ st hc => ?_, fun h => absurd h Bool.false_ne_true⟩
    have no : ∀ {q : Prop}, False → q := fun z => z.elim
    cases st with
    | Try x hs els fin pos =>
      cases hs with
      | nil => exact absurd hc Bool.false_ne_true
      | cons h1 hs =>
        cases h1 with
        | ExceptHandler ty n su pos' =>
          cases ty with
          | none => cases hs <;> exact absurd hc Bool.false_ne_true
          | some ty =>
            cases ty with
            | Name y p =>
              cases su with
              | nil => cases hs <;> exact absurd hc Bool.false_ne_true
              | cons h0 su =>
                cases hs with
                | cons _ _ => exact absurd hc Bool.false_ne_true
                | nil =>
                  cases els with
                  | cons _ _ => exact absurd hc Bool.false_ne_true
                  | nil =>
                    cases fin with
                    | cons _ _ => exact absurd hc Bool.false_ne_true
                    | nil =>
                      have g : (isSq s && chkS fns cls N s sc x && decide (cls[c]? = some y) && glB sc y && !(y == ("__debug__" : Str)) && excB N j sc n && chkHS cls N j h sc (h0 :: su)) = true := hc
                      simp only [Bool.and_eq_true, decide_eq_true_eq, Bool.not_eq_true'] at g
                      obtain ⟨⟨⟨⟨⟨⟨g1, g2⟩, g3⟩, g4⟩, g5⟩, g6⟩, g7⟩ := g
                      exact sTry ok hC ks ks.stack ks.frame (fun W pn xe ok' ks' => (ih { b with W := W } (X.tr pn xe) sc hC ok' ks').2 g1 x g2) g3 g4 g5 g6 g7
            | _ => cases su <;> cases hs <;> exact absurd hc Bool.false_ne_true
    | _ => exact absurd hc Bool.false_ne_true
  | brk =>
    refine fun b X sc hC ok ks => ⟨fun _ st hc => ?_, fun h => absurd h Bool.false_ne_true⟩
    cases st with
    | Break pos => exact psImp ps_break fun D σ H ⟨ε, F, E, R, w, en⟩ => en.bk σ ε H F R w
    | _ => exact absurd hc Bool.false_ne_true
  | cont =>
    refine fun b X sc hC ok ks => ⟨fun _ st hc => ?_, fun h => absurd h Bool.false_ne_true⟩
    cases st with
    | Continue pos => exact psImp ps_continue fun D σ H ⟨ε, F, E, R, w, en⟩ => en.ct σ ε H F R w
    | _ => exact absurd hc Bool.false_ne_true
  | pass =>
    refine fun b X sc hC ok ks => ⟨fun _ st hc => ?_, fun h => absurd h Bool.false_ne_true⟩
    cases st with
    | Pass pos => exact psImp ps_pass fun D σ H ⟨ε, F, E, R, w, en⟩ => en.nx σ ε H F R w
    | _ => exact absurd hc Bool.false_ne_true
  | never =>
    refine fun b X sc hC ok ks => ⟨fun _ st hc => ?_, fun h => absurd h Bool.false_ne_true⟩
    exact psImp ps_never fun D σ H ⟨ε, F, E, R, w, en⟩ => w.elim
end
/-! ### a def -/
/-- a def's text and its term -/
def bodyOf : IS → IS
  | .lfn r => r
  | i => i
def okF (fns : List FnI) (cls : List Str) (fi : FnI) (st : Stmt) : Bool :=
  decide (fi.np = fi.ps.length) && decide (fi.nn = fi.N.length) && !(defScope st).isGenerator && !(defScope st).isCoroutine && isSq (bodyOf fi.body) && chkS fns cls fi.N (bodyOf fi.body) (defScope st) (defBody st)
theorem ev0_gl : ∀ (ds : List D) (m j : Nat) (v : Val), gv (ds.map (fun x => some (Val.d x)) ++ List.replicate m none) j = some v → ∃ x, v = .d x ∧ ds[j]? = some x := by
  intro ds
  induction ds with
  | nil =>
    intro m
    induction m with
    | zero => intro j v h; cases h
    | succ m ih =>
      intro j v h
      cases j with
      | zero => cases h
      | succ j => exact (ih j v h).elim fun x q => absurd q.2 (by simp)
  | cons y r ih =>
    intro m j v h
    cases j with
    | zero => exact ⟨y, (Option.some.inj h).symm, rfl⟩
    | succ j =>
      obtain ⟨x, e1, e2⟩ := ih m j v h
      exact ⟨x, e1, by simpa using e2⟩
theorem startRepL {K : PySem.W.Frag} {F H : Hp} {N : List Str} {us ws : List V} {ds xs : List D} {p : Addr} (s : Sub F H) (fp : F p = none) (hp : H p = some (.lst ws)) (dx : DpAll K F ws xs) (d : DpAll K F us ds) (hl : us.length + 1 ≤ N.length) :
    Rep K ⟨H, fun a => a = p⟩ F F H (L2.start N (.ref p :: us)) (pv (ev0 N.length (.list xs :: ds)) 0 (some (.lent xs))) := by
  have e0 : pv (ev0 N.length (.list xs :: ds)) 0 (some (.lent xs)) = some (.lent xs) :: (ds.map (fun x => some (Val.d x)) ++ List.replicate (N.length - (ds.length + 1)) none) := rfl
  have ls : (L2.start N (.ref p :: us))[0]? = some (some (.ref p)) := by
    unfold L2.start
    simp
  rw [e0]
  refine ⟨s, .refl _, .refl _, fun a o h => .inl h, ?_, fun j x h => ?_, fun j ys h => ?_, fun i j ys zs r h => ?_, fun j ys h => ?_, fun i j ys zs r h g => ?_, fun a h => ?_, .nil fun j v h => (by
    cases j with
    | zero => cases h; rfl
    | succ j =>
      obtain ⟨y, e, _⟩ := ev0_gl _ _ _ _ (show gv (ds.map (fun x => some (Val.d x)) ++ List.replicate (N.length - (ds.length + 1)) none) j = some v from h)
      subst e; rfl)⟩
  · unfold L2.start
    have e := daLen d
    simp only [List.length_append, List.length_map, List.length_replicate, List.length_cons]
    omega
  · cases j with
    | zero => cases h
    | succ j =>
      obtain ⟨y, e, h2⟩ := ev0_gl _ _ _ _ (show gv (ds.map (fun x => some (Val.d x)) ++ List.replicate (N.length - (ds.length + 1)) none) j = some (.d x) from h)
      cases e
      obtain ⟨v, h3, h4⟩ := daGet' d h2
      refine ⟨v, ?_, h4⟩
      unfold L2.start
      have hj : j < us.length := (List.getElem?_eq_some_iff.mp h3).1
      rw [List.getElem?_append_left (by simpa using hj)]
      simp [h3]
  · cases j with
    | zero => cases h
    | succ j =>
      obtain ⟨y, e, _⟩ := ev0_gl _ _ _ _ (show gv (ds.map (fun x => some (Val.d x)) ++ List.replicate (N.length - (ds.length + 1)) none) j = some (.own ys) from h)
      cases e
  · cases i with
    | zero => cases h
    | succ i =>
      obtain ⟨y, e, _⟩ := ev0_gl _ _ _ _ (show gv (ds.map (fun x => some (Val.d x)) ++ List.replicate (N.length - (ds.length + 1)) none) i = some (.own ys) from h)
      cases e
  · cases j with
    | zero =>
      cases h
      exact ⟨p, ws, ls, hp, dx, fp, rfl⟩
    | succ j =>
      obtain ⟨y, e, _⟩ := ev0_gl _ _ _ _ (show gv (ds.map (fun x => some (Val.d x)) ++ List.replicate (N.length - (ds.length + 1)) none) j = some (.lent ys) from h)
      cases e
  · have z : ∀ {i : Nat} {ys : List D}, gv (some (.lent xs) :: (ds.map (fun x => some (Val.d x)) ++ List.replicate (N.length - (ds.length + 1)) none)) i = some (.lent ys) → i = 0 := fun {i ys} h => by
      cases i with
      | zero => rfl
      | succ i =>
        obtain ⟨y, e, _⟩ := ev0_gl _ _ _ _ (show gv (ds.map (fun x => some (Val.d x)) ++ List.replicate (N.length - (ds.length + 1)) none) i = some (.lent ys) from h)
        cases e
    exact fun _ _ => by rw [z h, z g]
  · cases h
    exact ⟨⟨_, hp⟩, fp⟩
theorem startRep {K : PySem.W.Frag} {F H : Hp} {N : List Str} {vs : List V} {ds : List D} (s : Sub F H) (d : DpAll K F vs ds) (hl : vs.length ≤ N.length) : Rep K (Zn.of H) F F H (L2.start N vs) (ev0 N.length ds) := by
  have gl : ∀ (ds : List D) (m j : Nat) (v : Val), gv (ds.map (fun x => some (Val.d x)) ++ List.replicate m none) j = some v → ∃ x, v = .d x ∧ ds[j]? = some x := by
    intro ds
    induction ds with
    | nil =>
      intro m
      induction m with
      | zero => intro j v h; cases h
      | succ m ih =>
        intro j v h
        cases j with
        | zero => cases h
        | succ j => exact (ih j v h).elim fun x q => absurd q.2 (by simp)
    | cons y r ih =>
      intro m j v h
      cases j with
      | zero => exact ⟨y, (Option.some.inj h).symm, rfl⟩
      | succ j =>
        obtain ⟨x, e1, e2⟩ := ih m j v h
        exact ⟨x, e1, by simpa using e2⟩
  refine ⟨s, .refl _, .refl _, fun a o h => .inl h, ?_, fun j x h => ?_, fun j xs h => ?_, fun i j xs ys p h => ?_, fun j xs h => ?_, fun i j xs ys p h => ?_, fun _ h => h.elim, .nil fun j v h => (by
    obtain ⟨y, e, _⟩ := gl _ _ _ _ h
    subst e; rfl)⟩
  · unfold L2.start ev0
    have e := daLen d
    simp only [List.length_append, List.length_map, List.length_replicate]
    omega
  · obtain ⟨y, e, h2⟩ := gl _ _ _ _ h
    cases e
    obtain ⟨v, h3, h4⟩ := daGet' d h2
    refine ⟨v, ?_, h4⟩
    unfold L2.start
    have hj : j < vs.length := (List.getElem?_eq_some_iff.mp h3).1
    rw [List.getElem?_append_left (by simpa using hj)]
    simp [h3]
  · obtain ⟨y, e, _⟩ := gl _ _ _ _ h
    cases e
  · obtain ⟨y, e, _⟩ := gl _ _ _ _ h
    cases e
  · obtain ⟨y, e, _⟩ := gl _ _ _ _ h
    cases e
  · obtain ⟨y, e, _⟩ := gl _ _ _ _ h
    cases e
section
variable {P : Program} {w : World} {K : PySem.W.Frag} {mg : Str → Option Value} {base : Heap} {fns : List FnI} {cls : List Str} {C : Nat → Addr} {Φ : Fs} {k : Nat}
/-- what is known of the defs that are called -/
def Callees (P : Program) (w : World) (K : PySem.W.Frag) (mg : Str → Option Value) (base : Heap) (fns : List FnI) (C : Nat → Addr) (Φ : Fs) (k : Nat) : Prop :=
  ∀ (i : Nat) (fi : FnI), fns[i]? = some fi → fi.con = none → ∃ f fd, mg fi.name = some (.ref f) ∧ PySem.W.keepIn K (.ref f) = true ∧ Binds K fd fi.ps [] ∧
    FnOk P w K mg base (L2.CX P w) (k + 32) f fd fi.ps (specOf K C fi (Φ i))
theorem fnGo {fi : FnI} {st : Stmt} {f : Addr} {fd : FuncData} {x q : Str} (F : FunD K x q (defArgs st) (defBody st) (defScope st) [] [] f fd) (S : FnScope fi.N fi.ps (defScope st)) (h : okF fns cls fi st = true)
    (ca : Callees P w K mg base fns C Φ k) (ar : ∀ i fi ds Xp Q, fns[i]? = some fi → Φ i ds Xp Q → ds.length = fi.np) (bl : ∀ x ∈ bltNames, mg x = none) (ex : ∀ c x, cls[c]? = some x → ClsAt K mg x (C c)) (xf : ExF K cls C) (gc : ∀ (i : Nat) (fi : FnI) (d : D), fns[i]? = some fi → fi.con = some d → ∃ u v, mg fi.name = some u ∧ RelV v u ∧ ∀ F, Dp K F v d) (sr : base.NoSeer) (tr : P.given.tree = none) :
    FnOk P w K mg base (L2.CX P w) (k + 32 + 1) f fd fi.ps (specOf K C fi (fun ds Xp Q => runB Φ fi ds Xp Q)) := by
  unfold okF at h
  simp only [Bool.and_eq_true, decide_eq_true_eq, Bool.not_eq_true'] at h
  obtain ⟨⟨⟨⟨⟨h1, h2⟩, hg1⟩, hg2⟩, h3⟩, h4⟩ := h
  cases lf : isLfn fi.body with
  | true =>
    rw [specOf_yes lf]
    obtain ⟨r, er⟩ : ∃ r, fi.body = .lfn r := by
      cases e : fi.body with
      | lfn r => exact ⟨r, rfl⟩
      | _ => rw [e] at lf; exact absurd lf Bool.false_ne_true
    rw [er] at h3 h4
    refine F.ok S (fun vs H Q E h => ?_) (fun cdv A outer s H vs Q E hr h => ?_)
    · obtain ⟨F, p, ws, xs, us, ds, Xp, Qp, rfl, _, _, _, _, d, hl, _⟩ := h
      rw [List.length_cons, daLen d, hl, h1]
    · obtain ⟨F, p, ws, xs, us, ds, Xp, Qp, rfl, sb, fp, hp, dx, d, hl, rb, q2, hx, hq⟩ := h
      have hlv : us.length + 1 ≤ fi.N.length := by
        rw [daLen d, hl, h1]
        have e := congrArg List.length S.pre
        rw [List.length_take] at e
        omega
      have rb2 : wS Φ (.lfn r) (ev0 fi.nn (.list xs :: ds)) { nx := fun _ => Qp (.d .none), rt := Qp, ex := fun c _ => Xp c } := by
        have := rb.2
        rw [er] at this
        exact this
      have tz : ∀ {H' : Hp}, SubZ ⟨H, fun a => a = p⟩ H H' → ∀ a o, a ≠ p → H a = some o → H' a = some o := fun t a o ne q => t a o ne q
      refine ⟨_, (snS (Φ := Φ) (k := k) r ⟨C, fun c d _ H => E c d H, ⟨H, fun a => a = p⟩, F⟩ _ (defScope st) rfl ?_ ?_).2 h3 _ h4, ?_⟩
      · exact ⟨hr, sr, tr, ⟨_, _, rfl, hg1, hg2, rfl, rfl⟩, S.nd, rfl, rfl, rfl, takes_of rfl rfl rfl rfl, bl, ex, xf, ar, gc, ca⟩
      · exact ⟨passes_of rfl, fun _ => rfl, S.kind, rfl, rfl⟩
      · refine ⟨pv (ev0 fi.N.length (.list xs :: ds)) 0 (some (.lent xs)), F, { nx := fun _ => False, rt := Qp, ex := fun c _ => Xp c }, startRepL sb fp hp dx d hlv, by rw [← h2]; exact rb2, fun σ ε H' F' R q => q.elim, fun v σ ε H' F' x R a q => ?_, fun _ _ _ _ _ z => z.elim, fun _ _ _ _ _ z => z.elim, fun c σ ε H' F' R q => hx c H' (tz R.h0) (R.ll p rfl).1 q⟩
        cases v with
        | two y ys =>
          obtain ⟨b1, p', ws', b2, b3, b4, b5⟩ := a
          have : p' = p := b5
          subst this
          exact hq.1 y H' F' x ws' ys (tz R.h0) R.ff R.fh R.fr b2 b3 b4 b1 q
        | twoO zs ys =>
          obtain ⟨⟨r, us', e, c1, c2, c3, c4⟩, p', ws', b2, b3, b4, b5⟩ := a
          have : p' = p := b5
          subst this
          subst e
          exact hq.2 zs H' F' r us' ws' ys (tz R.h0) R.ff R.fh R.fr b2 b3 b4 c1 c2 c3 c4.1 q
        | _ => exact absurd (q2 _ q) Bool.noConfusion
  | false =>
  rw [specOf_no lf]
  have eb : bodyOf fi.body = fi.body := by
    cases e : fi.body with
    | lfn r => rw [e] at lf; exact absurd lf.symm Bool.false_ne_true
    | _ => rfl
  rw [eb] at h3 h4
  refine F.ok S (fun vs H Q E h => ?_) (fun cdv A outer s H vs Q E hr h => ?_)
  · obtain ⟨F, ds, Xp, Qp, _, d, hl, _⟩ := h
    rw [daLen d, hl, h1]
  · obtain ⟨F, ds, Xp, Qp, sb, d, hl, rb, hx, hq⟩ := h
    have hlv : vs.length ≤ fi.N.length := by
      rw [daLen d, hl, h1]
      have e := congrArg List.length S.pre
      rw [List.length_take] at e
      omega
    refine ⟨_, (snS (Φ := Φ) (k := k) fi.body ⟨C, fun c d _ H => E c d H, Zn.of H, F⟩ _ (defScope st) rfl ?_ ?_).2 h3 _ h4, ?_⟩
    · exact ⟨hr, sr, tr, ⟨_, _, rfl, hg1, hg2, rfl, rfl⟩, S.nd, rfl, rfl, rfl, takes_of rfl rfl rfl rfl, bl, ex, xf, ar, gc, ca⟩
    · exact ⟨passes_of rfl, fun _ => rfl, S.kind, rfl, rfl⟩
    · refine ⟨ev0 fi.N.length ds, F, { nx := fun _ => Qp (.d .none), rt := Qp, ex := fun c _ => Xp c }, startRep sb d hlv, by rw [← h2]; exact rb.2, fun σ ε H' F' R q => ?_, fun v σ ε H' F' x R a q => ?_, fun _ _ _ _ _ z => z.elim, fun _ _ _ _ _ z => z.elim, fun c σ ε H' F' R q => hx c H' R.h0.same q⟩
      · exact hq (.d .none) H' F' .non R.h0.same R.ff R.fh R.fr Dp.non q
      · refine hq v H' F' x R.h0.same R.ff R.fh R.fr ?_ q
        cases v with
        | d y => exact a
        | own ys =>
          obtain ⟨p, vs, e, g1, g2, g3, g4, _⟩ := a
          exact ⟨p, vs, e, g1, g2, g3, g4.1⟩
        | two y ys =>
          obtain ⟨_, p, _, _, _, _, z⟩ := a
          exact z.elim
        | twoO y ys =>
          obtain ⟨_, p, _, _, _, _, z⟩ := a
          exact z.elim
        | _ => exact a
/-! ### all defs, to any depth -/
structure Tab (K : PySem.W.Frag) (mg : Str → Option Value) (fns : List FnI) (cls : List Str) (C : Nat → Addr) : Prop where
  gc : ∀ (i : Nat) (fi : FnI) (d : D), fns[i]? = some fi → fi.con = some d → ∃ u v, mg fi.name = some u ∧ RelV v u ∧ ∀ F, Dp K F v d
  fn : ∀ (i : Nat) (fi : FnI), fns[i]? = some fi → fi.con = none → ∃ f fd st, mg fi.name = some (.ref f) ∧ FunD K fi.name fi.name (defArgs st) (defBody st) (defScope st) [] [] f fd ∧ Binds K fd fi.ps [] ∧ FnScope fi.N fi.ps (defScope st) ∧ okF fns cls fi st = true
  bl : ∀ x ∈ bltNames, mg x = none
  ex : ∀ (c : Nat) (x : Str), cls[c]? = some x → ClsAt K mg x (C c)
  xf : ExF K cls C
theorem semAr : ∀ (k : Nat) (i : Nat) (fi : FnI) ds Xp Q, fns[i]? = some fi → sem fns k i ds Xp Q → ds.length = fi.np
  | 0, _, _, _, _, _, _, h => h.elim
  | k + 1, i, fi, ds, Xp, Q, e, h => by
    have h' : (match fns[i]? with
      | some fi => runB (sem fns k) fi ds Xp Q
      | none => False) := h
    rw [e] at h'
    exact h'.1
theorem all_ok (T : Tab K mg fns cls C) (sr : base.NoSeer) (tr : P.given.tree = none) : ∀ k, Callees P w K mg base fns C (sem fns k) k
  | 0 => fun i fi e ec => by
    obtain ⟨f, fd, st, h1, h2, h3, h4, h5⟩ := T.fn i fi e ec
    have no : ∀ {vs : List V} {H : Hp} {Q : VK} {E : _}, ¬ specOf K C fi (sem fns 0 i) vs H Q E := fun {vs H Q E} h => by
      unfold specOf at h
      split at h
      · obtain ⟨_, _, _, _, _, _, _, _, _, _, _, _, _, _, _, z, _⟩ := h
        exact z.elim
      · obtain ⟨_, _, _, _, _, _, _, z, _⟩ := h
        exact z.elim
    exact ⟨f, fd, h1, h2.kp, h3, ⟨fun vs H Q E h => absurd h no, fun A outer s H args us vs Q E _ _ _ _ h => absurd h no⟩⟩
  | k + 1 => fun i fi e ec => by
    obtain ⟨f, fd, st, h1, h2, h3, h4, h5⟩ := T.fn i fi e ec
    refine ⟨f, fd, h1, h2.kp, h3, ?_⟩
    have q := fnGo (P := P) (w := w) (base := base) h2 h4 h5 (all_ok T sr tr k) (semAr k) T.bl T.ex T.xf T.gc sr tr
    have e1 : sem fns (k + 1) i = fun ds Xp Q => runB (sem fns k) fi ds Xp Q := by
      funext ds Xp Q
      show (match fns[i]? with
        | some fi => runB (sem fns k) fi ds Xp Q
        | none => False) = _
      rw [e]
    rw [e1]
    exact q
end
end Rc

/-! The end: from a table of terms and a pure law to the row. -/
namespace Rc
open PySem PySem.Spec PyProof.Rows L2
def mkD (fi : FnI) (st : Stmt) : He.DefD := ⟨(fi.name, none), fi.name, fi.name, defArgs st, defBody st, defScope st, [], []⟩
structure DefOk (fns : List FnI) (cls : List Str) (fi : FnI) (st : Stmt) : Prop where
  b : ∀ {K : PySem.W.Frag} {f : Addr} {fd : FuncData}, FunD K fi.name fi.name (defArgs st) (defBody st) (defScope st) [] [] f fd →
    Binds K fd fi.ps [] ∧ ∀ (s : Shared) (us : List Value), us.length = fi.ps.length → BindsTo s fd ⟨us, []⟩ (fi.ps.zip us)
  s : FnScope fi.N fi.ps (defScope st)
  o : okF fns cls fi st = true
inductive AllOk (fns : List FnI) (cls : List Str) : List FnI → List Stmt → Prop where
  | nil {cons : List FnI} : (cons.all fun fi => fi.con.isSome) = true → AllOk fns cls cons []
  | cons {fi st fis sts} : DefOk fns cls fi st → AllOk fns cls fis sts → AllOk fns cls (fi :: fis) (st :: sts)
theorem AllOk.at {fns : List FnI} {cls : List Str} {fis : List FnI} {sts : List Stmt} (h : AllOk fns cls fis sts) : ∀ (i : Nat) (fi : FnI), fis[i]? = some fi → fi.con = none → ∃ st, DefOk fns cls fi st ∧ mkD fi st ∈ List.zipWith mkD fis sts := by
  induction h with
  | nil hc =>
    intro i fi h ec
    have := List.all_eq_true.mp hc fi (List.mem_of_getElem? h)
    rw [ec] at this
    cases this
  | @cons fi st fis sts d r ih =>
    intro i fi2 h ec
    cases i with
    | zero =>
      cases h
      exact ⟨st, d, List.mem_cons_self ..⟩
    | succ i =>
      obtain ⟨st2, d2, m⟩ := ih i fi2 h ec
      exact ⟨st2, d2, List.mem_cons_of_mem _ m⟩
def mkFa (fns : List FnI) (cls : List Str) : List He.Fa := ((fns.filter fun fi => fi.con.isNone).map fun fi => .glo fi.name) ++ (bltNames.map .free ++ (cls.map .glo ++ cls.map .exc))
theorem says_fact {fa : List He.Fa} {fn : List He.DefD} {K : PySem.W.Frag} (c : He.SaysD fa fn K) {f : He.Fa} (h : f ∈ fa) : f.ok K = true := by
  obtain ⟨i, hi, e⟩ := List.mem_iff_getElem.mp h
  exact c.fact i (f := f) (by rw [List.getElem?_eq_getElem hi, e])
theorem says_def {fa : List He.Fa} {fn : List He.DefD} {K : PySem.W.Frag} (c : He.SaysD fa fn K) {d : He.DefD} (h : d ∈ fn) : ∃ fd, FunD K d.name d.qual d.params d.body d.scope (d.dvs K) (d.kws K) (He.fAd K d.at_) fd := by
  obtain ⟨i, hi, e⟩ := List.mem_iff_getElem.mp h
  exact c.def_ i (d := d) (by rw [List.getElem?_eq_getElem hi, e])
def clsA (K : PySem.W.Frag) (cls : List Str) (c : Nat) : Addr := match cls[c]? with
  | some x => He.ga K x
  | none => He.ga K (cls.getD 0 "")
/-- what the error classes say of each other -/
def xF1 (cls : List Str) (K : PySem.W.Frag) (i : Nat) : Bool :=
  (He.eqO (PySem.W.findIn K (.ref (He.ga K (cls.getD i ""))) "__getattribute__") (some (some (.builtin "BaseException.__getattribute__"))) &&
  (He.eqO (PySem.W.findIn K (.ref (He.ga K (cls.getD i ""))) "__getattr__") (some none) &&
  (decide (PySem.W.subIn K (.ref (He.ga K (cls.getD i ""))) (.type "BaseException") = some true) &&
  (PySem.W.hasDictIn K (He.ga K (cls.getD i "")) &&
  (He.eqO (PySem.W.findIn K (.ref (He.ga K (cls.getD i ""))) "__class__") (some (some (.builtin "object.__class__"))) &&
  (He.eqO (PySem.W.specialIn K (.builtin "object.__class__") "__get__") (some (some (.builtin "getset_descriptor.__get__"))) &&
  (decide (PySem.W.takesIn K (.builtin "object.__class__") = some true) &&
  decide (PySem.W.mroIn K (He.ga K (cls.getD i "")) (.type "object") = some true))))))))
def xF2 (cls : List Str) (K : PySem.W.Frag) (i : Nat) : Bool :=
  decide (PySem.W.kitOne K (.ref (He.ga K (cls.getD i ""))) (.type "ValueError") = some true) &&
  (List.range cls.length).all fun j => decide (PySem.W.kitOne K (.ref (He.ga K (cls.getD i ""))) (.ref (He.ga K (cls.getD j ""))) = some (isS i j)) &&
    decide (PySem.W.exmOne K (.ref (He.ga K (cls.getD i ""))) (.ref (He.ga K (cls.getD j ""))) = some (isS i j))
def xF (cls : List Str) (K : PySem.W.Frag) : Bool := (List.range cls.length).all fun i => xF1 cls K i && xF2 cls K i
theorem clsA_lt {K : PySem.W.Frag} {cls : List Str} {c : Nat} (h : c < cls.length) : clsA K cls c = He.ga K (cls.getD c "") := by
  unfold clsA
  rw [List.getElem?_eq_getElem h]
  simp [List.getD, h]
theorem clsA_ge {K : PySem.W.Frag} {cls : List Str} {c : Nat} (h : ¬ c < cls.length) : clsA K cls c = He.ga K (cls.getD 0 "") := by
  unfold clsA
  rw [List.getElem?_eq_none (by omega)]
theorem xF_of {K : PySem.W.Frag} {cls : List Str} (h : xF cls K = true) : ExF K cls (clsA K cls) := by
  have key : ∀ i, i < cls.length → xF1 cls K i = true ∧ xF2 cls K i = true := fun i hi => by
    have := List.all_eq_true.mp h i (List.mem_range.mpr hi)
    simpa [Bool.and_eq_true] using this
  have red : ∀ c', cls ≠ [] → ∃ i, i < cls.length ∧ clsA K cls c' = He.ga K (cls.getD i "") ∧ ∀ c, c < cls.length → isS i c = isS c' c := fun c' hne => by
    have h0 : 0 < cls.length := List.length_pos_iff.mpr hne
    by_cases hl : c' < cls.length
    · exact ⟨c', hl, clsA_lt hl, fun _ _ => rfl⟩
    · refine ⟨0, h0, clsA_ge hl, fun c hc => ?_⟩
      unfold isS
      have : c ≠ c' := by omega
      simp [this]
  have two : ∀ c' c x, cls[c]? = some x → PySem.W.kitOne K (.ref (clsA K cls c')) (.ref (clsA K cls c)) = some (isS c' c) ∧ PySem.W.exmOne K (.ref (clsA K cls c')) (.ref (clsA K cls c)) = some (isS c' c) := fun c' c x e => by
    have hc : c < cls.length := (List.getElem?_eq_some_iff.mp e).1
    have hne : cls ≠ [] := fun z => by rw [z] at hc; cases hc
    obtain ⟨i, hi, e1, e2⟩ := red c' hne
    have q := (key i hi).2
    unfold xF2 at q
    rw [Bool.and_eq_true] at q
    have q2 := List.all_eq_true.mp q.2 c (List.mem_range.mpr hc)
    rw [Bool.and_eq_true] at q2
    rw [e1, clsA_lt hc, ← e2 c hc]
    exact ⟨of_decide_eq_true q2.1, of_decide_eq_true q2.2⟩
  refine ⟨fun c' hne => ?_, fun c' hne => ?_, fun c' c x e => (two c' c x e).1, fun c' c x e => (two c' c x e).2⟩
  · obtain ⟨i, hi, e1, _⟩ := red c' hne
    rw [e1]
    obtain ⟨q1, q⟩ := He.ba (key i hi).1
    obtain ⟨q2, q⟩ := He.ba q
    obtain ⟨q3, q⟩ := He.ba q
    obtain ⟨q4, q⟩ := He.ba q
    obtain ⟨q5, q⟩ := He.ba q
    obtain ⟨q6, q⟩ := He.ba q
    obtain ⟨q7, q8⟩ := He.ba q
    exact ⟨He.eqO_ok q1, He.eqO_ok q2, of_decide_eq_true q3, q4, He.eqO_ok q5, He.eqO_ok q6, of_decide_eq_true q7, of_decide_eq_true q8⟩
  · obtain ⟨i, hi, e1, _⟩ := red c' hne
    rw [e1]
    exact of_decide_eq_true (He.ba (key i hi).2).1
/-! the module's constants -/
mutual
def conV (K : PySem.W.Frag) : D → Value → Bool
  | .none, .none => true
  | .bool a, .bool b => a == b
  | .int a, .int b _ => a == b
  | .str a, .str b _ => decide (a = b)
  | .tuple ds, .ref a => (match K.lookup a with
    | some o => decide (o.cls = .type "tuple") && (match o.data with
      | .seq its _ => decide (its.size ≤ 1000) && conVs K ds its.toList
      | _ => false)
    | none => false)
  | _, _ => false
def conVs (K : PySem.W.Frag) : List D → List Value → Bool
  | [], [] => true
  | d :: r, u :: t => conV K d u && conVs K r t
  | _, _ => false
end
mutual
theorem conV_ok {K : PySem.W.Frag} : ∀ (d : D) (u : Value), conV K d u = true → ∃ v, RelV v u ∧ ∀ F, Dp K F v d
  | .none, u, h => by
    cases u <;> first | exact ⟨.non, rfl, fun _ => .non⟩ | (unfold conV at h; cases h)
  | .bool a, u, h => by
    cases u <;> first | (rename_i b; unfold conV at h; cases (beq_iff_eq.mp h); exact ⟨.bl _, rfl, fun _ => .bl _⟩) | (unfold conV at h; cases h)
  | .int a, u, h => by
    cases u <;> first | (rename_i b t; unfold conV at h; cases (beq_iff_eq.mp h); exact ⟨.int _, ⟨t, rfl⟩, fun _ => .int _⟩) | (unfold conV at h; cases h)
  | .str a, u, h => by
    cases u <;> first | (rename_i b t; unfold conV at h; cases (of_decide_eq_true h); exact ⟨.str _, ⟨t, rfl⟩, fun _ => .str _⟩) | (unfold conV at h; cases h)
  | .list _, u, h => by unfold conV at h; cases h
  | .dict _, u, h => by unfold conV at h; cases h
  | .tuple ds, u, h => by
    cases u with
    | ref a =>
      unfold conV at h
      cases e : K.lookup a with
      | none => rw [e] at h; cases h
      | some o =>
        rw [e] at h
        rw [Bool.and_eq_true] at h
        obtain ⟨h1, h2⟩ := h
        cases e2 : o.data with
        | seq its n =>
          rw [e2] at h2
          rw [Bool.and_eq_true] at h2
          obtain ⟨vs, r, dp⟩ := conVs_ok ds its.toList h2.2
          have sz := of_decide_eq_true h2.1
          exact ⟨.ref a, rfl, fun F => .tup (.inr ⟨o, its, n, e, of_decide_eq_true h1, e2, by rw [line24]; omega, r⟩) (dp F)⟩
        | _ => rw [e2] at h2; cases h2
    | _ => unfold conV at h; cases h
theorem conVs_ok {K : PySem.W.Frag} : ∀ (ds : List D) (us : List Value), conVs K ds us = true → ∃ vs, Vals vs us ∧ ∀ F, DpAll K F vs ds
  | [], us, h => by
    cases us with
    | nil => exact ⟨[], .nil, fun _ => .nil⟩
    | cons _ _ => unfold conVs at h; cases h
  | d :: r, us, h => by
    cases us with
    | nil => unfold conVs at h; cases h
    | cons u t =>
      unfold conVs at h
      rw [Bool.and_eq_true] at h
      obtain ⟨v, r1, d1⟩ := conV_ok d u h.1
      obtain ⟨vs, r2, d2⟩ := conVs_ok r t h.2
      exact ⟨v :: vs, .cons r1 r2, fun F => .cons (d1 F) (d2 F)⟩
end
def conF (K : PySem.W.Frag) (fi : FnI) : Bool := match fi.con with
  | none => true
  | some d => (match PySem.W.nsIn K mainGlobals fi.name with
    | some (some u) => conV K d u
    | _ => false)
theorem conF_ok {K : PySem.W.Frag} {h : Heap} {mg : Str → Option Value} (X : K.In h) (G : h.Ns mainGlobals mg) {fi : FnI} {d : D} (c : conF K fi = true) (e : fi.con = some d) : ∃ u v, mg fi.name = some u ∧ RelV v u ∧ ∀ F, Dp K F v d := by
  unfold conF at c
  rw [e] at c
  cases q : PySem.W.nsIn K mainGlobals fi.name with
  | none => rw [q] at c; cases c
  | some o =>
    cases o with
    | none => rw [q] at c; cases c
    | some u =>
      rw [q] at c
      obtain ⟨v, r, dp⟩ := conV_ok d u c
      exact ⟨u, v, PySem.W.mg_of X G q, r, dp⟩
def xG (fns : List FnI) (cls : List Str) (K : PySem.W.Frag) : Bool := xF cls K && fns.all (conF K)
theorem tab_of {fns : List FnI} {cls : List Str} {sts : List Stmt} {K : PySem.W.Frag} {h : Heap} {mg : Str → Option Value} (A : AllOk fns cls fns sts) (X : K.In h) (G : h.Ns mainGlobals mg)
    (c : He.SaysD (mkFa fns cls) (List.zipWith mkD fns sts) K) (cx : xG fns cls K = true) : Tab K mg fns cls (clsA K cls) := by
  have inFn : ∀ {x : FnI}, x ∈ fns → x.con = none → He.Fa.glo x.name ∈ mkFa fns cls := fun hx ec => List.mem_append_left _ (List.mem_map.mpr ⟨_, List.mem_filter.mpr ⟨hx, by rw [ec]; rfl⟩, rfl⟩)
  unfold xG at cx
  rw [Bool.and_eq_true] at cx
  refine ⟨fun i fi d e ec => conF_ok X G (List.all_eq_true.mp cx.2 fi (List.mem_of_getElem? e)) ec, fun i fi e ec => ?_, fun x hx => ?_, fun i x e => ?_, xF_of cx.1⟩
  · obtain ⟨st, d, m⟩ := A.at i fi e ec
    obtain ⟨fd, F⟩ := says_def c m
    have hm : fi ∈ fns := List.mem_of_getElem? e
    exact ⟨He.ga K fi.name, fd, st, He.glo_ok X G (says_fact c (inFn hm ec)), F, (d.b F).1, d.s, d.o⟩
  · exact He.free_ok X G (says_fact c (List.mem_append_right _ (List.mem_append_left _ (List.mem_map.mpr ⟨_, hx, rfl⟩))))
  · have hm : x ∈ cls := List.mem_of_getElem? e
    have g := He.glo_ok X G (says_fact c (f := .glo x) (List.mem_append_right _ (List.mem_append_right _ (List.mem_append_left _ (List.mem_map.mpr ⟨_, hm, rfl⟩)))))
    obtain ⟨c1, c2, c3, c4⟩ := He.exc_ok (x := x) (says_fact c (List.mem_append_right _ (List.mem_append_right _ (List.mem_append_right _ (List.mem_map.mpr ⟨_, hm, rfl⟩)))))
    have ea : clsA K cls i = He.ga K x := by
      unfold clsA
      rw [e]
    rw [ea]
    exact ⟨g, c1, c2, c3, c4⟩
theorem dpInts {K : PySem.W.Frag} {F : Hp} : ∀ ns : List Int, DpAll K F (ns.map V.int) (ns.map PyData.int)
  | [] => .nil
  | i :: r => .cons (Dp.int i) (dpInts r)
/-- the call of a law's def, at the heap behind the top; the ground that its promise stands on holds what a great division asks for -/
theorem go_law {P : Program} {w : World} {K : PySem.W.Frag} {mg mb : Str → Option Value} {j : Nat} {f p : Addr} {fd : FuncData} {arg : Str} {sp : Sp} {z : Shared} {us : List Value} {ns : List Int}
    (KI : K.In z.heap) (gG : z.heap.Ns mainGlobals mg) (gB : z.heap.Ns builtinsNs mb) (boot : ∀ x : Str, x ≠ "__name__" → mb x = bootBuiltins x) (lim : z.heap.NoLimit) (see : z.heap.NoSeer) (gens : z.gens = #[])
    (at_ : z.heap.get? p = some { cls := .type "list", data := .seq us.toArray }) (are : IntsAre us ns) (few : ns.length ≤ sizeLine) (room : Room j callerA)
    (F : ∀ B : Heap, K.In B → B.Ns mainGlobals mg → B.NoSeer → FnOk P w K mg B (L2.CX P w) j f fd [arg] sp) (bind : ∀ (s : Shared) (u : Value), BindsTo s fd ⟨[u], []⟩ [(arg, u)])
    (pro : ∀ H : Hp, SqL K H p (ns.map V.int) → sp [.ref p] H (fun v _ => v = .bl true) fun _ _ _ => False) :
    codeAny (model P w) callerA (.call (.ref f) ⟨[.ref p], []⟩) (fun r s' => r = .ok (.ret (.bool true)) ∧ OldK z.heap s'.heap ∧ s'.os = z.os ∧ AllBare s'.gens) z := by
  have sizes := are.length
  -- what is tracked: the script alone, or nothing where the module has it
  obtain ⟨H, sq, hok, only, frz, free⟩ : ∃ H : Hp, SqL K H p (ns.map V.int) ∧ HOk P w H z.heap ∧ (∀ c, H c ≠ none → c = p ∧ K.lookup p = none) ∧ (∀ c u, H c = some u → ∃ o xs, u = .frz o (.lst xs)) ∧ (H p = none → (K.lookup p).isSome = true) := by
    cases look : K.lookup p with
    | some o =>
      have same := KI p o look
      rw [at_] at same
      cases same
      refine ⟨fun _ => none, .inr ⟨_, us.toArray, _, look, rfl, rfl, rfl, ?_, ?_⟩, fun c u q => ?_, fun c q => (q rfl).elim, fun c u q => ?_, fun _ => rfl⟩
      · rw [List.size_toArray, sizes]
        exact few
      · simpa using vals_ints are
      · exact absurd (show (none : Option HO) = some u from q) (by simp)
      · exact absurd (show (none : Option HO) = some u from q) (by simp)
    | none =>
      refine ⟨upd (fun _ => none) p (.frz { cls := .type "list", data := .seq us.toArray } (.lst (ns.map V.int))), .inl (.inr ⟨_, upd_same⟩), fun c u q => ?_, fun c q => ?_, fun c u q => ?_, fun q => ?_⟩
      · by_cases e : c = p
        · subst e
          rw [upd_same] at q
          obtain rfl := Option.some.inj q
          refine ⟨at_, ?_, us, _, vals_ints are, at_⟩
          rw [List.length_map]
          exact few
        · rw [upd_ne e] at q
          cases q
      · by_cases e : c = p
        · exact ⟨e, rfl⟩
        · rw [upd_ne e] at q
          exact (q rfl).elim
      · by_cases e : c = p
        · subst e
          rw [upd_same] at q
          exact ⟨_, _, (Option.some.inj q).symm⟩
        · rw [upd_ne e] at q
          cases q
      · rw [upd_same] at q
        cases q
  -- the ground
  have into : ∀ {c : Addr} {o : Obj}, z.heap.get? c = some o → o ≠ { cls := .type "list", data := .seq us.toArray } → (hidT z.heap H).get? c = some o := fun {c o} e ne => by
    refine hidT_get e ?_
    cases q : H c with
    | none => rfl
    | some u =>
      obtain ⟨rfl, _⟩ := only c (by rw [q]; simp)
      rw [at_] at e
      exact (ne (Option.some.inj e).symm).elim
  have names : ∀ {c : Addr} {m : Str → Option Value}, z.heap.Ns c m → (hidT z.heap H).Ns c m := fun {c m} ⟨o, es, ep, e, d, r⟩ => ⟨o, es, ep, into e (fun y => by rw [y] at d; cases d), d, r⟩
  have KB : K.In (hidT z.heap H) := fun c o e => by
    refine hidT_get (KI c o e) ?_
    cases q : H c with
    | none => rfl
    | some u =>
      obtain ⟨rfl, no⟩ := only c (by rw [q]; simp)
      rw [e] at no
      cases no
  have limB : (hidT z.heap H).NoLimit := by
    obtain ⟨mc, l1, l2⟩ := lim
    exact ⟨mc, names l1, l2⟩
  have seeB : (hidT z.heap H).NoSeer := by
    obtain ⟨⟨m1, a1, a2⟩, ⟨m2, b1, b2⟩, ⟨m3, c1, c2⟩, mg', bm, ob, d1, d2, d3, d4, d5⟩ := see
    exact ⟨⟨m1, names a1, a2⟩, ⟨m2, names b1, b2⟩, ⟨m3, names c1, c2⟩, ⟨mg', bm, ob, names d1, d2, into d3 (fun y => by rw [y] at d4; exact absurd (Value.type.inj d4) (by decide)), d4, d5⟩⟩
  have start : Env0 P w K mg (hidT z.heap H) callerA [] z H :=
    { frames := rfl, mod := ⟨KB, names gG, ⟨mb, names gB, boot⟩, limB⟩, bs := fun c o e => of_hidT e, bsz := Nat.le_of_eq (hidT_size _ _), funs := trivial, frf := fun c hc => (List.not_mem_nil hc).elim, hok := hok, bare := .of_eq gens }
  refine codeAny_mono ((F _ KB (names gG) seeB).run callerA [] z H ⟨[.ref p], []⟩ [.ref p] [.ref p] _ _ room start (bind z (.ref p)) (.cons rfl .nil) (pro H sq)) fun r s' h => ?_
  cases r with
  | error e =>
    obtain ⟨_, _, _, _, _, _, _, _, _, _, _, _, no⟩ := h
    exact no.elim
  | ok fl =>
    cases fl with
    | ret u =>
      obtain ⟨v, H', os, bare, un, hok', rel, q⟩ := h
      obtain rfl : v = .bl true := q
      obtain rfl : u = Value.bool true := rel
      refine ⟨rfl, OldK.of_keep fun c o e => ?_, os, bare⟩
      cases q : H c with
      | none => exact un.keep c o e q (fun y => (List.not_mem_nil y).elim) (by simp)
      | some t =>
        obtain ⟨ob, xs, rfl⟩ := frz c t q
        have old := (hok c _ q).1
        have new := (hok' c _ (un.frzs c ob _ q)).1
        rw [e] at old
        obtain rfl := Option.some.inj old
        exact new
    | next => exact False.elim h
    | brk => exact False.elim h
    | cont => exact False.elim h
/-- a law over the small language -/
theorem walk_rc {l : PySem.W.OpenLaw} {n k : Nat} {q : Program} {loose : List Str} {XP : (Str → Option Value) → Heap → Prop} {d : DefRec} {x : Str} {fns : List FnI} {cls : List Str} {sts : List Stmt} {li : Nat} {fi : FnI}
    (hn : l.most = some n) (hn2 : n ≤ sizeLine) (hdf : d.params.defaults = []) (hr : Room (k + 33) callerA) (tr : l.prog.given.tree = none) (im : importsNone q = true)
    (A : AllOk fns cls fns sts) (hli : fns[li]? = some fi) (hname : d.name = fi.name) (hps : fi.ps = [x]) (hnp : fi.np = 1) (hcon : fi.con = none)
    (hp : ∀ ns : List Int, ns.length ≤ n → (∀ z ∈ ns, Builtin.Int.intBits z ≤ 1048576) → sem fns (k + 1) li [.list (ns.map .int)] (fun _ => False) (fun v => v = Val.d (.bool true))) (hlf : isLfn fi.body = false := by rfl) :
    PySem.W.WalkO q loose XP (He.hookX 4 (mkFa fns cls) (List.zipWith mkD fns sts) [] [] (xG fns cls)).says l.row.toRowW d [] (fun f vs => PySem.call f vs) := by
  refine Att.attach_callB hn hdf fun w s₀ s₁ mg mb fa o pm cd doc a vs ns G Y ho hd hcd hmg hobj hints hlen hbits hg => ?_
  obtain ⟨K, KX, cX⟩ := Y
  have c : He.SaysD (mkFa fns cls) (List.zipWith mkD fns sts) K := cX.t.d
  have T : Tab K mg fns cls (clsA K cls) := tab_of A KX G.T.g c cX.more
  obtain ⟨st2, d2, m2⟩ := A.at li fi hli hcon
  obtain ⟨fd2, F2⟩ := says_def c m2
  have h1' := He.glo_ok KX G.T.g (says_fact c (f := .glo fi.name) (List.mem_append_left _ (List.mem_map.mpr ⟨_, List.mem_filter.mpr ⟨List.mem_of_getElem? hli, by rw [hcon]; rfl⟩, rfl⟩)))
  have ea : He.ga K fi.name = fa := by
    have := h1'.symm.trans ((congrArg mg hname.symm).trans hmg)
    cases this
    rfl
  have hb := (d2.b F2).2
  have F3 : FunD K fi.name fi.name (defArgs st2) (defBody st2) (defScope st2) [] [] fa fd2 := ea ▸ F2
  refine go_law (arg := x) (j := k + 32 + 1) (fd := fd2) (sp := spec K (clsA K cls) fi.np (fun ds Xp Q => runB (sem fns k) fi ds Xp Q)) KX G.T.g G.T.b G.T.builtins G.T.nolimit (G.T.seer im) hg hobj hints (Nat.le_trans hlen hn2) hr (fun base _ _ sr => ?_) (fun s u => ?_) (fun H hS => ?_)
  · have g4 := fnGo (P := l.prog) (w := w) (base := base) F3 d2.s d2.o (all_ok (P := l.prog) (w := w) (base := base) T sr tr k) (semAr k) T.bl T.ex T.xf T.gc sr tr
    rw [hps, specOf_no hlf] at g4
    exact g4
  · have := hb s [u] (by rw [hps]; rfl)
    rw [hps] at this
    exact this
  · have hp1 := hp ns hlen hbits
    have e1 : sem fns (k + 1) li [.list (ns.map .int)] (fun _ => False) (fun v => v = Val.d (.bool true)) = runB (sem fns k) fi [.list (ns.map .int)] (fun _ => False) (fun v => v = Val.d (.bool true)) := by
      show (match fns[li]? with
        | some fi => runB (sem fns k) fi [.list (ns.map .int)] (fun _ => False) (fun v => v = Val.d (.bool true))
        | none => False) = _
      rw [hli]
    rw [e1] at hp1
    refine ⟨H, [.list (ns.map .int)], fun _ => False, fun v => v = Val.d (.bool true), .refl _, .cons (Dp.lst hS (dpInts ns)) .nil, ?_, hp1, fun _ _ _ z => z.elim, fun v H' F' x _ _ _ _ vr e => ?_⟩
    · rw [hnp]
      rfl
    · subst e
      exact dpBl vr
end Rc

namespace K33
open PySem PySem.Spec PyProof.Rows L2 Rc
def c_divisor_1 : IE :=
  (.cmp .Gt (.var 1) (.cst (.int 0)))
def b_divisor_2 : IS :=
  (.seq (.par 0 1 (.var 1) (.bin .Mod (.var 0) (.var 1))) <|
  .nil)
def b_divisor_3 : IS :=
  (.seq (.ret (.mov 0)) <|
  .nil)
def b_divisor : IS :=
  (.seq (.asg 0 (.bi .abs (.cons (.var 0) .nil))) <|
  (.seq (.asg 1 (.bi .abs (.cons (.var 1) .nil))) <|
  (.seq (.whl c_divisor_1 b_divisor_2) <|
  b_divisor_3)))
abbrev f_divisor : FnI := ⟨"divisor", ["one", "other"], ["one", "other"], 2, 2, b_divisor, none⟩

def b_fraction_1 : IS :=
  (.seq (.ret (.tup (.cons (.bin .FloorDiv (.var 0) (.var 2)) (.cons (.bin .FloorDiv (.var 1) (.var 2)) .nil)))) <|
  .nil)
def b_fraction : IS :=
  (.seq (.ite (.cmp .Eq (.var 1) (.cst (.int 0)))
    (.seq (.raise 1) <|
    .nil)
    .nil) <|
  (.seq (.asg 2 (.call 0 (.cons (.var 0) (.cons (.var 1) .nil)))) <|
  (.seq (.ite (.cmp .Lt (.var 1) (.cst (.int 0)))
    (.seq (.asg 2 (.bin .Sub (.cst (.int 0)) (.var 2))) <|
    .nil)
    .nil) <|
  b_fraction_1)))
abbrev f_fraction : FnI := ⟨"fraction", ["top", "bottom"], ["top", "bottom", "shared_part"], 2, 3, b_fraction, none⟩

def b_is_count : IS :=
  (.seq (.ret (.band (.isi .int (.var 0)) (.bone (.bnot (.isi .bool (.var 0)))))) <|
  .nil)
abbrev f_is_count : FnI := ⟨"is_count", ["thing"], ["thing"], 1, 1, b_is_count, none⟩

def e_is_term_1 : IE :=
  (.band (.call 2 (.cons (.var 1) .nil)) (.bone (.cmp .GtE (.var 1) (.cst (.int 0)))))
def b_is_term : IS :=
  (.seq (.ite (.bor (.bnot (.isi .tuple (.var 0))) (.bor (.cmp .NotEq (.len (.var 0)) (.cst (.int 2))) (.bor (.bnot (.call 2 (.cons (.ix (.var 0) (.cst (.int 1))) .nil))) (.bone (.cmp .Eq (.ix (.var 0) (.cst (.int 1))) (.cst (.int 0)))))))
    (.seq (.ret (.cst (.bool false))) <|
    .nil)
    .nil) <|
  (.seq (.ite (.bor (.bnot (.isi .tuple (.ix (.var 0) (.cst (.int 0))))) (.bone (.cmp .NotEq (.len (.ix (.var 0) (.cst (.int 0)))) (.cst (.int 3)))))
    (.seq (.ret (.cst (.bool false))) <|
    .nil)
    .nil) <|
  (.seq (.ret (.bi .all (.cons (.lc (.one 1) (.itv (.ix (.var 0) (.cst (.int 0)))) .nil e_is_term_1) .nil))) <|
  .nil)))
abbrev f_is_term : FnI := ⟨"is_term", ["thing"], ["thing", "power"], 1, 2, b_is_term, none⟩

def e_is_form_1 : IE :=
  (.call 3 (.cons (.var 1) .nil))
def b_is_form_2 : IS :=
  (.seq (.ite (.band (.cmp .Gt (.var 2) (.cst (.int 0))) (.bone (.cmp .GtE (.ix (.ix (.var 0) (.bin .Sub (.var 2) (.cst (.int 1)))) (.cst (.int 0))) (.ix (.var 1) (.cst (.int 0))))))
    (.seq (.ret (.cst (.bool false))) <|
    .nil)
    .nil) <|
  .nil)
def b_is_form_3 : IS :=
  (.seq (.ret (.cst (.bool true))) <|
  .nil)
def b_is_form : IS :=
  (.seq (.ite (.bor (.bnot (.isi .tuple (.var 0))) (.bone (.bnot (.bi .all (.cons (.lc (.one 1) (.itv (.var 0)) .nil e_is_form_1) .nil)))))
    (.seq (.ret (.cst (.bool false))) <|
    .nil)
    .nil) <|
  (.seq (.forr (.tup [2, 1]) (.enm (.var 0)) b_is_form_2) <|
  b_is_form_3))
abbrev f_is_form : FnI := ⟨"is_form", ["thing"], ["thing", "term", "k"], 1, 3, b_is_form, none⟩

def b_form_1 : IS :=
  (.seq (.dset 1 (.var 2) (.bin .Add (.dget 1 (.var 2) (.cst (.int 0))) (.var 3))) <|
  .nil)
def c_form_2 : IE :=
  (.cmp .NotEq (.var 3) (.cst (.int 0)))
def e_form_3 : IE :=
  (.tup (.cons (.var 2) (.cons (.var 3) .nil)))
def b_form_4 : IS :=
  (.seq (.ret (.bi .tuple (.cons (.srt (.dlc (.tup [2, 3]) c_form_2 e_form_3 1)) .nil))) <|
  .nil)
def b_form : IS :=
  (.seq (.dnew 1 true) <|
  (.seq (.forr (.tup [2, 3]) (.itv (.var 0)) b_form_1) <|
  b_form_4))
abbrev f_form : FnI := ⟨"form", ["terms"], ["terms", "found", "powers", "weight"], 1, 4, b_form, none⟩

def b_f_plus : IS :=
  (.seq (.ret (.call 5 (.cons (.bin .Add (.var 0) (.var 1)) .nil))) <|
  .nil)
abbrev f_f_plus : FnI := ⟨"f_plus", ["f", "g"], ["f", "g"], 2, 2, b_f_plus, none⟩

def e_f_scaled_1 : IE :=
  (.tup (.cons (.var 2) (.cons (.bin .Mult (.var 3) (.var 1)) .nil)))
def b_f_scaled : IS :=
  (.seq (.ret (.call 5 (.cons (.lc (.tup [2, 3]) (.itv (.var 0)) .nil e_f_scaled_1) .nil))) <|
  .nil)
abbrev f_f_scaled : FnI := ⟨"f_scaled", ["f", "number"], ["f", "number", "powers", "weight"], 2, 4, b_f_scaled, none⟩

def b_f_times_1 : IS :=
  (.seq (.app 2 (.tup (.cons (.tup (.cons (.bin .Add (.var 3) (.var 7)) (.cons (.bin .Add (.var 4) (.var 8)) (.cons (.bin .Add (.var 5) (.var 9)) .nil)))) (.cons (.bin .Mult (.var 6) (.var 10)) .nil)))) <|
  .nil)
def b_f_times_2 : IS :=
  (.seq (.forr (.nst [7, 8, 9] 10) (.itv (.var 1)) b_f_times_1) <|
  .nil)
def b_f_times_3 : IS :=
  (.seq (.ret (.call 5 (.cons (.var 2) .nil))) <|
  .nil)
def b_f_times : IS :=
  (.seq (.asg 2 (.lst .nil)) <|
  (.seq (.forr (.nst [3, 4, 5] 6) (.itv (.var 0)) b_f_times_2) <|
  b_f_times_3))
abbrev f_f_times : FnI := ⟨"f_times", ["f", "g"], ["f", "g", "found", "i", "j", "k", "weight", "l", "m", "n", "other"], 2, 11, b_f_times, none⟩

def b_f_value_1 : IS :=
  (.seq (.aug 6 .Mult (.ix (.var 9) (.cst (.int 0)))) <|
  (.seq (.aug 7 .Mult (.ix (.var 9) (.cst (.int 1)))) <|
  .nil))
def b_f_value_2 : IS :=
  (.seq (.forr (.one 10) (.rng1 (.var 8)) b_f_value_1) <|
  .nil)
def b_f_value_3 : IS :=
  (.seq (.par 2 3 (.bin .Add (.bin .Mult (.var 2) (.var 7)) (.bin .Mult (.var 6) (.var 3))) (.bin .Mult (.var 3) (.var 7))) <|
  .nil)
def b_f_value_4 : IS :=
  (.seq (.asg 6 (.var 5)) <|
  (.seq (.asg 7 (.cst (.int 1))) <|
  (.seq (.forr (.tup [8, 9]) (.zip (.var 4) (.var 1)) b_f_value_2) <|
  b_f_value_3)))
def b_f_value_5 : IS :=
  (.seq (.ret (.call 1 (.cons (.var 2) (.cons (.var 3) .nil)))) <|
  .nil)
def b_f_value : IS :=
  (.seq (.asg 2 (.cst (.int 0))) <|
  (.seq (.asg 3 (.cst (.int 1))) <|
  (.seq (.forr (.tup [4, 5]) (.itv (.var 0)) b_f_value_4) <|
  b_f_value_5)))
abbrev f_f_value : FnI := ⟨"f_value", ["f", "at"], ["f", "at", "top", "bottom", "powers", "weight", "over", "under", "power", "one", "turn"], 2, 11, b_f_value, none⟩

def b__law_cell_at : IS :=
  (.seq (.ite (.cmp .Lt (.var 1) (.len (.var 0)))
    (.seq (.ret (.ix (.var 0) (.var 1))) <|
    .nil)
    .nil) <|
  (.seq (.ret (.cst (.int 0))) <|
  .nil))
abbrev f__law_cell_at : FnI := ⟨"_law_cell_at", ["_law_script", "_law_k"], ["_law_script", "_law_k"], 2, 2, b__law_cell_at, none⟩

def c__law_draws_1 : IE :=
  (.band (.cmp .NotEq (.var 3) (.cst (.int 0))) (.band (.cmp .NotEq (.var 3) (.neg (.cst (.int 1)))) (.bone (.cmp .Lt (.len (.var 2)) (.var 1)))))
def b__law_draws_2 : IS :=
  (.seq (.app 2 (.bin .Mod (.var 3) (.bin .Pow (.cst (.int 10)) (.cst (.int 24))))) <|
  (.seq (.asg 3 (.bin .FloorDiv (.var 3) (.bin .Pow (.cst (.int 10)) (.cst (.int 24))))) <|
  .nil))
def b__law_draws_3 : IS :=
  (.seq (.asg 4 (.bin .Mod (.bin .Add (.bin .Add (.bin .Mult (.var 4) (.var 4)) (.bin .Mult (.cst (.int 48271)) (.var 4))) (.var 6)) (.bin .Add (.bin .Pow (.cst (.int 10)) (.cst (.int 40))) (.cst (.int 121))))) <|
  (.seq (.app 5 (.bin .FloorDiv (.var 4) (.bin .Pow (.cst (.int 10)) (.cst (.int 8))))) <|
  .nil))
def b__law_draws_4 : IS :=
  (.seq (.ret (.bin .Add (.var 2) (.sl (.var 5) (.bin .Add (.cst (.int 4)) (.len (.var 2))) .nil))) <|
  .nil)
def b__law_draws_5 : IS :=
  (.seq (.asg 4 (.bin .Mod (.bin .Mult (.bin .Add (.bin .Mod (.var 0) (.bin .Add (.bin .Pow (.cst (.int 10)) (.cst (.int 40))) (.cst (.int 121)))) (.cst (.int 48271))) (.cst (.int 69621))) (.bin .Add (.bin .Pow (.cst (.int 10)) (.cst (.int 40))) (.cst (.int 121))))) <|
  (.seq (.asg 5 (.lst .nil)) <|
  (.seq (.forr (.one 6) (.rng1 (.bin .Add (.var 1) (.cst (.int 4)))) b__law_draws_3) <|
  b__law_draws_4)))
def b__law_draws_6 : IS :=
  (.seq (.whl c__law_draws_1 b__law_draws_2) <|
  b__law_draws_5)
def b__law_draws : IS :=
  (.seq (.asg 2 (.lst .nil)) <|
  (.seq (.asg 3 (.bin .FloorDiv (.var 0) (.cst (.int 2)))) <|
  (.seq (.ite (.cmp .Eq (.bin .Mod (.var 0) (.cst (.int 2))) (.cst (.int 1)))
    (.seq (.asg 3 (.cst (.int 0))) <|
    .nil)
    .nil) <|
  b__law_draws_6)))
abbrev f__law_draws : FnI := ⟨"_law_draws", ["_law_cell", "_law_many"], ["_law_cell", "_law_many", "_law_found", "_law_rest", "_law_first", "_law_mixed", "_law_k"], 2, 7, b__law_draws, none⟩

def b__law_next : IS :=
  (.lfn <| (.seq (.ite (.lemp 0)
    (.seq (.retL (.cst (.int 0))) <|
    .nil)
    .nil) <|
  (.seq (.retL (.bin .Mod (.lpop0 0) (.var 1))) <|
  .nil)))
abbrev f__law_next : FnI := ⟨"_law_next", ["_law_draws_here", "_law_most"], ["_law_draws_here", "_law_most"], 2, 2, b__law_next, none⟩

def b__law_weight : IS :=
  (.lfn <| (.seq (.asg 1 (.callL 12 0 (.cons (.cst (.int 4)) .nil))) <|
  (.seq (.ite (.cmp .Eq (.var 1) (.cst (.int 3)))
    (.seq (.retL (.bin .Sub (.callL 12 0 (.cons (.bin .Mult (.cst (.int 2)) (.bin .Pow (.cst (.int 10)) (.cst (.int 20)))) .nil)) (.bin .Pow (.cst (.int 10)) (.cst (.int 20))))) <|
    .nil)
    .nil) <|
  (.seq (.retL (.bin .Sub (.callL 12 0 (.cons (.cst (.int 7)) .nil)) (.cst (.int 3)))) <|
  .nil))))
abbrev f__law_weight : FnI := ⟨"_law_weight", ["_law_draws_here"], ["_law_draws_here", "_law_kind"], 1, 2, b__law_weight, none⟩

def b__law_terms_1 : IS :=
  (.seq (.asg 5 (.tup (.cons (.callL 12 0 (.cons (.bin .Add (.var 2) (.cst (.int 1))) .nil)) (.cons (.callL 12 0 (.cons (.bin .Add (.var 2) (.cst (.int 1))) .nil)) (.cons (.callL 12 0 (.cons (.bin .Add (.var 2) (.cst (.int 1))) .nil)) .nil))))) <|
  (.seq (.app 3 (.tup (.cons (.var 5) (.cons (.callL 13 0 .nil) .nil)))) <|
  .nil))
def b__law_terms_2 : IS :=
  (.seq (.retL (.mov 3)) <|
  .nil)
def b__law_terms : IS :=
  (.lfn <| (.seq (.asg 3 (.lst .nil)) <|
  (.seq (.forr (.one 4) (.rng1 (.callL 12 0 (.cons (.bin .Add (.var 1) (.cst (.int 1))) .nil))) b__law_terms_1) <|
  b__law_terms_2)))
abbrev f__law_terms : FnI := ⟨"_law_terms", ["_law_draws_here", "_law_many", "_law_most"], ["_law_draws_here", "_law_many", "_law_most", "_law_found", "_law_k", "_law_powers"], 3, 6, b__law_terms, none⟩

def b__law_sum_1 : IS :=
  (.seq (.dset 1 (.var 2) (.bin .Add (.dget 1 (.var 2) (.cst (.int 0))) (.var 3))) <|
  .nil)
def c__law_sum_2 : IE :=
  (.cmp .NotEq (.var 3) (.cst (.int 0)))
def e__law_sum_3 : IE :=
  (.tup (.cons (.var 2) (.cons (.var 3) .nil)))
def b__law_sum_4 : IS :=
  (.seq (.ret (.bi .tuple (.cons (.srt (.dlc (.tup [2, 3]) c__law_sum_2 e__law_sum_3 1)) .nil))) <|
  .nil)
def b__law_sum : IS :=
  (.seq (.dnew 1 true) <|
  (.seq (.forr (.tup [2, 3]) (.itv (.var 0)) b__law_sum_1) <|
  b__law_sum_4))
abbrev f__law_sum : FnI := ⟨"_law_sum", ["_law_terms_here"], ["_law_terms_here", "_law_found", "_law_powers", "_law_weight_here"], 1, 4, b__law_sum, none⟩

def b__law_product_1 : IS :=
  (.seq (.app 2 (.tup (.cons (.tup (.cons (.bin .Add (.ix (.var 3) (.cst (.int 0))) (.ix (.var 5) (.cst (.int 0)))) (.cons (.bin .Add (.ix (.var 3) (.cst (.int 1))) (.ix (.var 5) (.cst (.int 1)))) (.cons (.bin .Add (.ix (.var 3) (.cst (.int 2))) (.ix (.var 5) (.cst (.int 2)))) .nil)))) (.cons (.bin .Mult (.var 4) (.var 6)) .nil)))) <|
  .nil)
def b__law_product_2 : IS :=
  (.seq (.forr (.tup [5, 6]) (.itv (.var 1)) b__law_product_1) <|
  .nil)
def b__law_product_3 : IS :=
  (.seq (.ret (.call 15 (.cons (.var 2) .nil))) <|
  .nil)
def b__law_product : IS :=
  (.seq (.asg 2 (.lst .nil)) <|
  (.seq (.forr (.tup [3, 4]) (.itv (.var 0)) b__law_product_2) <|
  b__law_product_3))
abbrev f__law_product : FnI := ⟨"_law_product", ["_law_f", "_law_g"], ["_law_f", "_law_g", "_law_found", "_law_one", "_law_weight_here", "_law_two", "_law_other"], 2, 7, b__law_product, none⟩

def c__law_fraction_1 : IE :=
  (.cmp .Gt (.var 4) (.cst (.int 0)))
def b__law_fraction_2 : IS :=
  (.seq (.par 3 4 (.var 4) (.bin .Mod (.var 3) (.var 4))) <|
  .nil)
def b__law_fraction_3 : IS :=
  (.seq (.retL (.tup (.cons (.bin .FloorDiv (.var 2) (.var 3)) (.cons (.bin .FloorDiv (.var 1) (.var 3)) .nil)))) <|
  .nil)
def b__law_fraction : IS :=
  (.lfn <| (.seq (.asg 1 (.bin .Add (.cst (.int 1)) (.ix (.lst (.cons (.cst (.int 0)) (.cons (.callL 12 0 (.cons (.cst (.int 5)) .nil)) (.cons (.callL 12 0 (.cons (.bin .Pow (.cst (.int 10)) (.cst (.int 12))) .nil)) .nil)))) (.callL 12 0 (.cons (.cst (.int 3)) .nil))))) <|
  (.seq (.asg 2 (.ix (.lst (.cons (.bin .Sub (.callL 12 0 (.cons (.cst (.int 9)) .nil)) (.cst (.int 4))) (.cons (.bin .Sub (.callL 12 0 (.cons (.bin .Mult (.cst (.int 2)) (.bin .Pow (.cst (.int 10)) (.cst (.int 12)))) .nil)) (.bin .Pow (.cst (.int 10)) (.cst (.int 12)))) .nil))) (.callL 12 0 (.cons (.cst (.int 2)) .nil)))) <|
  (.seq (.par 3 4 (.bi .abs (.cons (.var 2) .nil)) (.var 1)) <|
  (.seq (.whl c__law_fraction_1 b__law_fraction_2) <|
  b__law_fraction_3)))))
abbrev f__law_fraction : FnI := ⟨"_law_fraction", ["_law_draws_here"], ["_law_draws_here", "_law_bottom", "_law_top", "_law_one", "_law_two"], 1, 5, b__law_fraction, none⟩

def e__law_value_1 : IE :=
  (.ix (.var 3) (.var 5))
def e__law_value_2 : IE :=
  (.bi .max (.cons (.bin .Add (.lst (.cons (.cst (.int 0)) .nil)) (.lc (.tup [3, 4]) (.itv (.var 0)) .nil e__law_value_1)) .nil))
def b__law_value_3 : IS :=
  (.seq (.asg 7 (.bin .Mult (.var 7) (.ix (.ix (.var 1) (.var 5)) (.cst (.int 0))))) <|
  .nil)
def b__law_value_4 : IS :=
  (.seq (.asg 7 (.bin .Mult (.var 7) (.ix (.ix (.var 1) (.var 5)) (.cst (.int 1))))) <|
  .nil)
def b__law_value_5 : IS :=
  (.seq (.forr (.one 8) (.rng1 (.bin .Sub (.ix (.var 2) (.var 5)) (.ix (.var 3) (.var 5)))) b__law_value_4) <|
  .nil)
def b__law_value_6 : IS :=
  (.seq (.forr (.one 8) (.rng1 (.ix (.var 3) (.var 5))) b__law_value_3) <|
  b__law_value_5)
def b__law_value_7 : IS :=
  (.seq (.asg 6 (.bin .Add (.var 6) (.var 7))) <|
  .nil)
def b__law_value_8 : IS :=
  (.seq (.asg 7 (.var 4)) <|
  (.seq (.forr (.one 5) (.rng1 (.cst (.int 3))) b__law_value_6) <|
  b__law_value_7))
def b__law_value_9 : IS :=
  (.seq (.asg 9 (.bin .Mult (.var 9) (.ix (.ix (.var 1) (.var 5)) (.cst (.int 1))))) <|
  .nil)
def b__law_value_10 : IS :=
  (.seq (.forr (.one 8) (.rng1 (.ix (.var 2) (.var 5))) b__law_value_9) <|
  .nil)
def b__law_value_11 : IS :=
  (.seq (.ret (.tup (.cons (.var 6) (.cons (.var 9) .nil)))) <|
  .nil)
def b__law_value_12 : IS :=
  (.seq (.asg 9 (.cst (.int 1))) <|
  (.seq (.forr (.one 5) (.rng1 (.cst (.int 3))) b__law_value_10) <|
  b__law_value_11))
def b__law_value : IS :=
  (.seq (.asg 2 (.lc (.one 5) (.rng1 (.cst (.int 3))) .nil e__law_value_2)) <|
  (.seq (.asg 6 (.cst (.int 0))) <|
  (.seq (.forr (.tup [3, 4]) (.itv (.var 0)) b__law_value_8) <|
  b__law_value_12)))
abbrev f__law_value : FnI := ⟨"_law_value", ["_law_f", "_law_at"], ["_law_f", "_law_at", "_law_most", "_law_powers", "_law_weight_here", "_law_k", "_law_top", "_law_part", "_law_turn", "_law_bottom"], 2, 10, b__law_value, none⟩

def e__law_is_1 : IE :=
  (.isi .int (.var 3))
def c__law_is_2 : IE :=
  (.cmp .Gt (.var 5) (.cst (.int 0)))
def b__law_is_3 : IS :=
  (.seq (.par 4 5 (.var 5) (.bin .Mod (.var 4) (.var 5))) <|
  .nil)
def b__law_is_4 : IS :=
  (.seq (.ret (.band (.cmp .Gt (.ix (.var 0) (.cst (.int 1))) (.cst (.int 0))) (.band (.cmp .Eq (.var 4) (.cst (.int 1))) (.bone (.cmp .Eq (.bin .Mult (.ix (.var 0) (.cst (.int 0))) (.var 2)) (.bin .Mult (.var 1) (.ix (.var 0) (.cst (.int 1))))))))) <|
  .nil)
def b__law_is : IS :=
  (.seq (.ite (.bor (.bnot (.isi .tuple (.var 0))) (.bor (.cmp .NotEq (.len (.var 0)) (.cst (.int 2))) (.bone (.bnot (.bi .all (.cons (.lc (.one 3) (.itv (.var 0)) .nil e__law_is_1) .nil))))))
    (.seq (.ret (.cst (.bool false))) <|
    .nil)
    .nil) <|
  (.seq (.par 4 5 (.bi .abs (.cons (.ix (.var 0) (.cst (.int 0))) .nil)) (.ix (.var 0) (.cst (.int 1)))) <|
  (.seq (.whl c__law_is_2 b__law_is_3) <|
  b__law_is_4)))
abbrev f__law_is : FnI := ⟨"_law_is", ["_law_found", "_law_top", "_law_bottom"], ["_law_found", "_law_top", "_law_bottom", "_law_part", "_law_one", "_law_two"], 3, 6, b__law_is, none⟩

def e_law_1 : IE :=
  (.tup (.cons (.var 8) (.cons (.bin .Mult (.var 9) (.var 7)) .nil)))
def b_law : IS :=
  (.seq (.asg 1 (.call 11 (.cons (.call 10 (.cons (.var 0) (.cons (.cst (.int 0)) .nil))) (.cons (.cst (.int 60)) .nil)))) <|
  (.lend 1 <| (.seq (.asg 2 (.callL 14 1 (.cons (.cst (.int 10)) (.cons (.cst (.int 3)) .nil)))) <|
  (.seq (.asg 3 (.callF 14 11 (.cons (.call 10 (.cons (.var 0) (.cons (.cst (.int 1)) .nil))) (.cons (.cst (.int 60)) .nil)) [(.int 6), (.int 3)])) <|
  (.seq (.asg 4 (.bi .list (.cons (.var 2) .nil))) <|
  (.seq (.asg 5 (.call 5 (.cons (.var 4) .nil))) <|
  (.seq (.asg 6 (.call 5 (.cons (.rvl (.var 3)) .nil))) <|
  (.seq (.ite (.bor (.cmp .NotEq (.var 4) (.var 2)) (.bor (.cmp .NotEq (.var 5) (.call 15 (.cons (.var 2) .nil))) (.bor (.cmp .NotEq (.var 6) (.call 15 (.cons (.var 3) .nil))) (.bone (.cmp .NotEq (.call 5 (.cons (.rvl (.var 2)) .nil)) (.var 5))))))
    (.seq (.ret (.cst (.bool false))) <|
    .nil)
    .nil) <|
  (.seq (.ite (.bor (.cmp .IsNot (.call 4 (.cons (.var 5) .nil)) (.cst (.bool true))) (.bone (.cmp .IsNot (.call 4 (.cons (.var 6) .nil)) (.cst (.bool true)))))
    (.seq (.ret (.cst (.bool false))) <|
    .nil)
    .nil) <|
  (.seq (.ite (.bor (.cmp .NotEq (.call 6 (.cons (.var 5) (.cons (.var 6) .nil))) (.call 15 (.cons (.bin .Add (.var 2) (.var 3)) .nil))) (.bone (.cmp .NotEq (.call 8 (.cons (.var 5) (.cons (.var 6) .nil))) (.call 16 (.cons (.var 5) (.cons (.var 6) .nil))))))
    (.seq (.ret (.cst (.bool false))) <|
    .nil)
    .nil) <|
  (.seq (.asg 7 (.callF 13 11 (.cons (.call 10 (.cons (.var 0) (.cons (.cst (.int 2)) .nil))) (.cons (.cst (.int 2)) .nil)) [])) <|
  (.still 7 <| (.seq (.ite (.cmp .NotEq (.call 7 (.cons (.var 5) (.cons (.var 7) .nil))) (.call 15 (.cons (.lc (.tup [8, 9]) (.itv (.var 2)) .nil e_law_1) .nil)))
    (.seq (.ret (.cst (.bool false))) <|
    .nil)
    .nil) <|
  (.seq (.asg 1 (.call 11 (.cons (.call 10 (.cons (.var 0) (.cons (.cst (.int 3)) .nil))) (.cons (.cst (.int 18)) .nil)))) <|
  (.lend 1 <| (.seq (.asg 10 (.tup (.cons (.callL 17 1 .nil) (.cons (.callL 17 1 .nil) (.cons (.callL 17 1 .nil) .nil))))) <|
  (.seq (.asgT [11, 12] (.call 18 (.cons (.var 5) (.cons (.var 10) .nil)))) <|
  (.seq (.ret (.call 19 (.cons (.call 9 (.cons (.var 5) (.cons (.var 10) .nil))) (.cons (.var 11) (.cons (.var 12) .nil))))) <|
  .nil))))))))))))))))))
abbrev f_law : FnI := ⟨"law", ["_law_script"], ["_law_script", "_law_draws_here", "_law_one", "_law_two", "_law_handed", "_law_first", "_law_second", "_law_factor", "_law_powers", "_law_weight_here", "_law_at", "_law_top", "_law_bottom"], 1, 13, b_law, none⟩

abbrev fns : List FnI := [f_divisor, f_fraction, f_is_count, f_is_term, f_is_form, f_form, f_f_plus, f_f_scaled, f_f_times, f_f_value, f__law_cell_at, f__law_draws, f__law_next, f__law_weight, f__law_terms, f__law_sum, f__law_product, f__law_fraction, f__law_value, f__law_is, f_law]
abbrev cls : List Str := ["CourtError", "NoPart"]
def tops (i : Nat) : Stmt := PySem.Challenge.pw_rootcourt_k33_forms_made.main.body.getD i (.Pass ⟨0, 0, 0, 0⟩)
abbrev sts : List Stmt := [tops 4, tops 6, tops 8, tops 9, tops 10, tops 11, tops 12, tops 13, tops 14, tops 15, tops 17, tops 18, tops 19, tops 20, tops 21, tops 22, tops 23, tops 24, tops 25, tops 26, tops 27]
theorem d_divisor : DefOk fns cls f_divisor (tops 4) := ⟨fun F => ⟨F.bindsN fun _ _ _ _ _ _ us hl => match us, hl with | [_, _], _ => rfl, F.bindsA fun _ _ _ _ _ _ us hl => match us, hl with | [_, _], _ => rfl⟩, ⟨rfl, rfl, rfl, by decide +kernel, rfl, by decide +kernel, by decide +kernel⟩, by decide +kernel⟩
theorem d_fraction : DefOk fns cls f_fraction (tops 6) := ⟨fun F => ⟨F.bindsN fun _ _ _ _ _ _ us hl => match us, hl with | [_, _], _ => rfl, F.bindsA fun _ _ _ _ _ _ us hl => match us, hl with | [_, _], _ => rfl⟩, ⟨rfl, rfl, rfl, by decide +kernel, rfl, by decide +kernel, by decide +kernel⟩, by decide +kernel⟩
theorem d_is_count : DefOk fns cls f_is_count (tops 8) := ⟨fun F => ⟨F.bindsN fun _ _ _ _ _ _ us hl => match us, hl with | [_], _ => rfl, F.bindsA fun _ _ _ _ _ _ us hl => match us, hl with | [_], _ => rfl⟩, ⟨rfl, rfl, rfl, by decide +kernel, rfl, by decide +kernel, by decide +kernel⟩, by decide +kernel⟩
theorem d_is_term : DefOk fns cls f_is_term (tops 9) := ⟨fun F => ⟨F.bindsN fun _ _ _ _ _ _ us hl => match us, hl with | [_], _ => rfl, F.bindsA fun _ _ _ _ _ _ us hl => match us, hl with | [_], _ => rfl⟩, ⟨rfl, rfl, rfl, by decide +kernel, rfl, by decide +kernel, by decide +kernel⟩, by decide +kernel⟩
theorem d_is_form : DefOk fns cls f_is_form (tops 10) := ⟨fun F => ⟨F.bindsN fun _ _ _ _ _ _ us hl => match us, hl with | [_], _ => rfl, F.bindsA fun _ _ _ _ _ _ us hl => match us, hl with | [_], _ => rfl⟩, ⟨rfl, rfl, rfl, by decide +kernel, rfl, by decide +kernel, by decide +kernel⟩, by decide +kernel⟩
theorem d_form : DefOk fns cls f_form (tops 11) := ⟨fun F => ⟨F.bindsN fun _ _ _ _ _ _ us hl => match us, hl with | [_], _ => rfl, F.bindsA fun _ _ _ _ _ _ us hl => match us, hl with | [_], _ => rfl⟩, ⟨rfl, rfl, rfl, by decide +kernel, rfl, by decide +kernel, by decide +kernel⟩, by decide +kernel⟩
theorem d_f_plus : DefOk fns cls f_f_plus (tops 12) := ⟨fun F => ⟨F.bindsN fun _ _ _ _ _ _ us hl => match us, hl with | [_, _], _ => rfl, F.bindsA fun _ _ _ _ _ _ us hl => match us, hl with | [_, _], _ => rfl⟩, ⟨rfl, rfl, rfl, by decide +kernel, rfl, by decide +kernel, by decide +kernel⟩, by decide +kernel⟩
theorem d_f_scaled : DefOk fns cls f_f_scaled (tops 13) := ⟨fun F => ⟨F.bindsN fun _ _ _ _ _ _ us hl => match us, hl with | [_, _], _ => rfl, F.bindsA fun _ _ _ _ _ _ us hl => match us, hl with | [_, _], _ => rfl⟩, ⟨rfl, rfl, rfl, by decide +kernel, rfl, by decide +kernel, by decide +kernel⟩, by decide +kernel⟩
theorem d_f_times : DefOk fns cls f_f_times (tops 14) := ⟨fun F => ⟨F.bindsN fun _ _ _ _ _ _ us hl => match us, hl with | [_, _], _ => rfl, F.bindsA fun _ _ _ _ _ _ us hl => match us, hl with | [_, _], _ => rfl⟩, ⟨rfl, rfl, rfl, by decide +kernel, rfl, by decide +kernel, by decide +kernel⟩, by decide +kernel⟩
theorem d_f_value : DefOk fns cls f_f_value (tops 15) := ⟨fun F => ⟨F.bindsN fun _ _ _ _ _ _ us hl => match us, hl with | [_, _], _ => rfl, F.bindsA fun _ _ _ _ _ _ us hl => match us, hl with | [_, _], _ => rfl⟩, ⟨rfl, rfl, rfl, by decide +kernel, rfl, by decide +kernel, by decide +kernel⟩, by decide +kernel⟩
theorem d__law_cell_at : DefOk fns cls f__law_cell_at (tops 17) := ⟨fun F => ⟨F.bindsN fun _ _ _ _ _ _ us hl => match us, hl with | [_, _], _ => rfl, F.bindsA fun _ _ _ _ _ _ us hl => match us, hl with | [_, _], _ => rfl⟩, ⟨rfl, rfl, rfl, by decide +kernel, rfl, by decide +kernel, by decide +kernel⟩, by decide +kernel⟩
theorem d__law_draws : DefOk fns cls f__law_draws (tops 18) := ⟨fun F => ⟨F.bindsN fun _ _ _ _ _ _ us hl => match us, hl with | [_, _], _ => rfl, F.bindsA fun _ _ _ _ _ _ us hl => match us, hl with | [_, _], _ => rfl⟩, ⟨rfl, rfl, rfl, by decide +kernel, rfl, by decide +kernel, by decide +kernel⟩, by decide +kernel⟩
theorem d__law_next : DefOk fns cls f__law_next (tops 19) := ⟨fun F => ⟨F.bindsN fun _ _ _ _ _ _ us hl => match us, hl with | [_, _], _ => rfl, F.bindsA fun _ _ _ _ _ _ us hl => match us, hl with | [_, _], _ => rfl⟩, ⟨rfl, rfl, rfl, by decide +kernel, rfl, by decide +kernel, by decide +kernel⟩, by decide +kernel⟩
theorem d__law_weight : DefOk fns cls f__law_weight (tops 20) := ⟨fun F => ⟨F.bindsN fun _ _ _ _ _ _ us hl => match us, hl with | [_], _ => rfl, F.bindsA fun _ _ _ _ _ _ us hl => match us, hl with | [_], _ => rfl⟩, ⟨rfl, rfl, rfl, by decide +kernel, rfl, by decide +kernel, by decide +kernel⟩, by decide +kernel⟩
theorem d__law_terms : DefOk fns cls f__law_terms (tops 21) := ⟨fun F => ⟨F.bindsN fun _ _ _ _ _ _ us hl => match us, hl with | [_, _, _], _ => rfl, F.bindsA fun _ _ _ _ _ _ us hl => match us, hl with | [_, _, _], _ => rfl⟩, ⟨rfl, rfl, rfl, by decide +kernel, rfl, by decide +kernel, by decide +kernel⟩, by decide +kernel⟩
theorem d__law_sum : DefOk fns cls f__law_sum (tops 22) := ⟨fun F => ⟨F.bindsN fun _ _ _ _ _ _ us hl => match us, hl with | [_], _ => rfl, F.bindsA fun _ _ _ _ _ _ us hl => match us, hl with | [_], _ => rfl⟩, ⟨rfl, rfl, rfl, by decide +kernel, rfl, by decide +kernel, by decide +kernel⟩, by decide +kernel⟩
theorem d__law_product : DefOk fns cls f__law_product (tops 23) := ⟨fun F => ⟨F.bindsN fun _ _ _ _ _ _ us hl => match us, hl with | [_, _], _ => rfl, F.bindsA fun _ _ _ _ _ _ us hl => match us, hl with | [_, _], _ => rfl⟩, ⟨rfl, rfl, rfl, by decide +kernel, rfl, by decide +kernel, by decide +kernel⟩, by decide +kernel⟩
theorem d__law_fraction : DefOk fns cls f__law_fraction (tops 24) := ⟨fun F => ⟨F.bindsN fun _ _ _ _ _ _ us hl => match us, hl with | [_], _ => rfl, F.bindsA fun _ _ _ _ _ _ us hl => match us, hl with | [_], _ => rfl⟩, ⟨rfl, rfl, rfl, by decide +kernel, rfl, by decide +kernel, by decide +kernel⟩, by decide +kernel⟩
theorem d__law_value : DefOk fns cls f__law_value (tops 25) := ⟨fun F => ⟨F.bindsN fun _ _ _ _ _ _ us hl => match us, hl with | [_, _], _ => rfl, F.bindsA fun _ _ _ _ _ _ us hl => match us, hl with | [_, _], _ => rfl⟩, ⟨rfl, rfl, rfl, by decide +kernel, rfl, by decide +kernel, by decide +kernel⟩, by decide +kernel⟩
theorem d__law_is : DefOk fns cls f__law_is (tops 26) := ⟨fun F => ⟨F.bindsN fun _ _ _ _ _ _ us hl => match us, hl with | [_, _, _], _ => rfl, F.bindsA fun _ _ _ _ _ _ us hl => match us, hl with | [_, _, _], _ => rfl⟩, ⟨rfl, rfl, rfl, by decide +kernel, rfl, by decide +kernel, by decide +kernel⟩, by decide +kernel⟩
theorem d_law : DefOk fns cls f_law (tops 27) := ⟨fun F => ⟨F.bindsN fun _ _ _ _ _ _ us hl => match us, hl with | [_], _ => rfl, F.bindsA fun _ _ _ _ _ _ us hl => match us, hl with | [_], _ => rfl⟩, ⟨rfl, rfl, rfl, by decide +kernel, rfl, by decide +kernel, by decide +kernel⟩, by decide +kernel⟩
theorem allOk : AllOk fns cls fns sts := .cons d_divisor <| .cons d_fraction <| .cons d_is_count <| .cons d_is_term <| .cons d_is_form <| .cons d_form <| .cons d_f_plus <| .cons d_f_scaled <| .cons d_f_times <| .cons d_f_value <| .cons d__law_cell_at <| .cons d__law_draws <| .cons d__law_next <| .cons d__law_weight <| .cons d__law_terms <| .cons d__law_sum <| .cons d__law_product <| .cons d__law_fraction <| .cons d__law_value <| .cons d__law_is <| .cons d_law <| .nil rfl
def loose : List Str := [("CourtError" : Str), ("NoPart" : Str), ("divisor" : Str), ("fraction" : Str), ("is_count" : Str), ("is_term" : Str), ("is_form" : Str), ("form" : Str), ("f_plus" : Str), ("f_scaled" : Str), ("f_times" : Str), ("f_value" : Str), ("_law_cell_at" : Str), ("_law_draws" : Str), ("_law_next" : Str), ("_law_weight" : Str), ("_law_terms" : Str), ("_law_sum" : Str), ("_law_product" : Str), ("_law_fraction" : Str), ("_law_value" : Str), ("_law_is" : Str)]
abbrev R : PySem.W.OpenRow := PySem.W.OpenLaw.row PySem.Challenge.rw_rootcourt_k33_forms_made
abbrev hk : PySem.W.Hook := He.hookX 4 (mkFa fns cls) (List.zipWith mkD fns sts) [] [] (xG fns cls)
def ob (s : PySem.W.SharedT) : He.AlX := He.obsX 4 (mkFa fns cls) (List.zipWith mkD fns sts) [] [] (xG fns cls) (HandSHeadRun.getT s)
theorem ob_eq (s : PySem.W.SharedT) : ob s = hk.obs s.abs := He.obsX_eq (HandSHeadRun.getT_eq s)
theorem map3 {α β γ δ : Type} {e : Option α} {f : α → β} {g : α → γ} {h : α → δ} {a : β} {b : γ} {c : δ} (h1 : e.map f = some a) (h2 : e.map g = some b) (h3 : e.map h = some c) : e.map (fun s => (f s, g s, h s)) = some (a, b, c) := by
  cases e with
  | none => cases h1
  | some s =>
    cases h1
    cases h2
    cases h3
    rfl
section
open PySem PySem.W PySem.Calls PyProof.Rows HandSHeadRun
theorem run1 (w : World) (os : OsState) : (endF (stepQ (denQ tabQ) R.prog w) 4000 R.prog w os).map (fun s => looksF R.prog (boot_heap w.params) s.abs) = some true := by kernel_rfl
theorem run2 (w : World) (os : OsState) : (endF (stepQ (denQ tabQ) R.prog w) 4000 R.prog w os).map (fun s => seenQ (view R.prog [27]) [("CourtError" : Str), ("NoPart" : Str), ("divisor" : Str), ("fraction" : Str), ("is_count" : Str), ("is_term" : Str), ("is_form" : Str), ("form" : Str), ("f_plus" : Str), ("f_scaled" : Str), ("f_times" : Str), ("f_value" : Str), ("_law_cell_at" : Str), ("_law_draws" : Str), ("_law_next" : Str), ("_law_weight" : Str), ("_law_terms" : Str), ("_law_sum" : Str), ("_law_product" : Str), ("_law_fraction" : Str), ("_law_value" : Str), ("_law_is" : Str)] (importedModules R.prog.main.body) (fun s => xlAt (view R.prog [27]) [] s && recOk R.toRowW.records s) s.abs) = some (openGood (view R.prog [27]) [("CourtError" : Str), ("NoPart" : Str), ("divisor" : Str), ("fraction" : Str), ("is_count" : Str), ("is_term" : Str), ("is_form" : Str), ("form" : Str), ("f_plus" : Str), ("f_scaled" : Str), ("f_times" : Str), ("f_value" : Str), ("_law_cell_at" : Str), ("_law_draws" : Str), ("_law_next" : Str), ("_law_weight" : Str), ("_law_terms" : Str), ("_law_sum" : Str), ("_law_product" : Str), ("_law_fraction" : Str), ("_law_value" : Str), ("_law_is" : Str)]) := by kernel_rfl
theorem run3 (w : World) (os : OsState) : (endF (stepQ (denQ tabQ) R.prog w) 4000 R.prog w os).map (fun s => ob s) = some (hk.val w) := by kernel_rfl
end
theorem run (w : World) : HandSHeadRun.RunEq R (PySem.W.view R.prog [27]) hk ob 4000 [("CourtError" : Str), ("NoPart" : Str), ("divisor" : Str), ("fraction" : Str), ("is_count" : Str), ("is_term" : Str), ("is_form" : Str), ("form" : Str), ("f_plus" : Str), ("f_scaled" : Str), ("f_times" : Str), ("f_value" : Str), ("_law_cell_at" : Str), ("_law_draws" : Str), ("_law_next" : Str), ("_law_weight" : Str), ("_law_terms" : Str), ("_law_sum" : Str), ("_law_product" : Str), ("_law_fraction" : Str), ("_law_value" : Str), ("_law_is" : Str)] w := fun os => map3 (run1 w os) (run2 w os) (run3 w os)
section
open PySem PySem.W PySem.Calls PyProof.Rows
theorem holds_of (k : Nat) (hr : L2.Room (k + 33) callerA)
    (hp : ∀ ns : List Int, ns.length ≤ 63 → (∀ z ∈ ns, Builtin.Int.intBits z ≤ 1048576) → sem fns (k + 1) 20 [.list (ns.map .int)] (fun _ => False) (fun v => v = Val.d (.bool true))) : PySem.Challenge.rw_rootcourt_k33_forms_made.Holds := by
  w_on; o_law
  refine HandSHeadRun.head_any (r := OpenLaw.row PySem.Challenge.rw_rootcourt_k33_forms_made) (q := view (OpenLaw.row PySem.Challenge.rw_rootcourt_k33_forms_made).prog [27]) (H := hk) (ob := ob) (M := 4000) (loose := [("CourtError" : Str), ("NoPart" : Str), ("divisor" : Str), ("fraction" : Str), ("is_count" : Str), ("is_term" : Str), ("is_form" : Str), ("form" : Str), ("f_plus" : Str), ("f_scaled" : Str), ("f_times" : Str), ("f_value" : Str), ("_law_cell_at" : Str), ("_law_draws" : Str), ("_law_next" : Str), ("_law_weight" : Str), ("_law_terms" : Str), ("_law_sum" : Str), ("_law_product" : Str), ("_law_fraction" : Str), ("_law_value" : Str), ("_law_is" : Str)]) (d := HandSHeadRun.topDef (OpenLaw.row PySem.Challenge.rw_rootcourt_k33_forms_made).prog 27) (kwd := []) ob_eq
    (by kernel_rfl) (fun s => by kernel_rfl) run (by kernel_rfl) (by kernel_rfl) (by kernel_rfl) (by rfl) (by first | assumption | decide +kernel) (by decide +kernel) ⟨rfl, rfl, rfl, rfl, rfl, by decide +kernel⟩ ?hw ?hc
  case hw => w_witness2
  case hc => exact walk_rc (l := PySem.Challenge.rw_rootcourt_k33_forms_made) (n := 63) (k := k) (x := "_law_script") rfl (by decide) (by kernel_rfl) hr (by kernel_rfl) (by kernel_rfl) allOk (li := 20) rfl (by kernel_rfl) rfl rfl rfl hp
end
end K33

/-! Plain helpers. -/
namespace Rc
open PySem
theorem sem_at {fns : List FnI} {k i : Nat} {fi : FnI} {ds : List D} {X : Nat → Prop} {Q : Val → Prop} (h : fns[i]? = some fi) (r : runB (sem fns k) fi ds X Q) : sem fns (k + 1) i ds X Q := by
  show (match fns[i]? with
    | some fi => runB (sem fns k) fi ds X Q
    | none => False)
  rw [h]
  exact r
/-- below 2 ^ a either way -/
def Bt (a : Nat) (i : Int) : Prop := i.natAbs < 2 ^ a
theorem Bt.mono {a b : Nat} {i : Int} (h : Bt a i) (q : a ≤ b) : Bt b i := Nat.lt_of_lt_of_le h (Nat.pow_le_pow_right (by omega) q)
theorem Bt.mul {a b : Nat} {i j : Int} (h : Bt a i) (q : Bt b j) : Bt (a + b) (i * j) := by
  unfold Bt at *
  rw [Int.natAbs_mul, Nat.pow_add]
  exact Nat.mul_lt_mul'' h q
theorem Bt.add {a : Nat} {i j : Int} (h : Bt a i) (q : Bt a j) : Bt (a + 1) (i + j) := by
  unfold Bt at *
  have := Int.natAbs_add_le i j
  rw [Nat.pow_succ]
  omega
theorem Bt.neg {a : Nat} {i : Int} (h : Bt a i) : Bt a (-i) := by
  unfold Bt at *
  rw [Int.natAbs_neg]
  exact h
theorem Bt.sub {a : Nat} {i j : Int} (h : Bt a i) (q : Bt a j) : Bt (a + 1) (i - j) := Bt.add h q.neg
theorem Bt.le {a : Nat} {i j : Int} (h : Bt a j) (q : i.natAbs ≤ j.natAbs) : Bt a i := Nat.lt_of_le_of_lt q h
theorem Bt.log {a : Nat} {i : Int} (h : Bt a i) (n : i ≠ 0) : i.natAbs.log2 < a := (Nat.log2_lt (by omega)).mpr h
theorem mulOk_of {a b : Nat} {i j : Int} (h : Bt a i) (q : Bt b j) (s : a + b ≤ 134217728) : mulOk i j := by
  by_cases hi : i = 0
  · subst hi
    exact .inl (by unfold small64; decide)
  · by_cases hj : j = 0
    · subst hj
      exact .inr (.inl (by unfold small64; decide))
    · have h1 := h.log hi
      have h2 := q.log hj
      exact .inr (.inr (by omega))
theorem mulOk_l {i j : Int} (h : small64 i) : mulOk i j := .inl h
theorem mulOk_r {i j : Int} (h : small64 j) : mulOk i j := .inr (.inl h)
theorem bt_fmod {a : Nat} {x P : Int} (hP : 0 < P) (h : Bt a P) : Bt a (x.fmod P) := by
  refine h.le ?_
  rw [Int.fmod_eq_emod_of_nonneg _ (by omega)]
  have := Int.emod_nonneg x (show P ≠ 0 by omega)
  have := Int.emod_lt_of_pos x hP
  omega
theorem small10 : small64 10 := by unfold small64; decide
theorem bt_c {a : Nat} {i : Int} (h : decide (i.natAbs < 2 ^ a) = true) : Bt a i := by
  unfold Bt
  exact of_decide_eq_true h
theorem fmod_nat (a b : Nat) : (a : Int).fmod b = ((a % b : Nat) : Int) := by
  rw [Int.fmod_eq_emod_of_nonneg _ (by omega)] <;> rfl
theorem fmod_pos {a b : Int} (h : 0 < b) : a.fmod b = a % b := Int.fmod_eq_emod_of_nonneg _ (by omega)
theorem fdiv_pos {a b : Int} (h : 0 < b) : a.fdiv b = a / b := Int.fdiv_eq_ediv_of_nonneg _ (by omega)
theorem fmod_dvd {a b : Int} (h : a ∣ b) : b.fmod a = 0 := by
  obtain ⟨c, rfl⟩ := h
  exact Int.mul_fmod_right a c
theorem fdiv_nat (a b : Nat) : (a : Int).fdiv b = ((a / b : Nat) : Int) := by
  rw [Int.fdiv_eq_ediv_of_nonneg _ (by omega)] <;> rfl
theorem absI (i : Int) : (if i < 0 then -i else i) = (i.natAbs : Int) := by omega
/-! ### rules -/
section
variable {Φ : Fs}
theorem whl_at {T : Ev → (Bool → Ev → Prop) → Prop} {B : Ev → En → Prop} {ε : Ev} {E : En} (I : Nat → Ev → Prop) (m : Nat) (h0 : I m ε)
    (h : ∀ m ε1, I m ε1 → T ε1 fun b ε2 => if b = true then B ε2 { E with nx := fun e => ∃ m', m' < m ∧ I m' e, ct := fun e => ∃ m', m' < m ∧ I m' e, bk := E.nx } else E.nx ε2) : whlW T B ε E := ⟨I, ⟨m, h0⟩, h⟩
theorem for_at {t : Tg} {B : Ev → En → Prop} {E : En} (P : List D → Ev → Prop)
    (h : ∀ x r ε, P (x :: r) ε → (∀ e, P r e → forW t B r e E) → tgW t x ε fun ε1 => B ε1 { E with nx := fun e => forW t B r e E, ct := fun e => forW t B r e E, bk := E.nx })
    (h0 : ∀ ε, P [] ε → E.nx ε) : ∀ (xs : List D) (ε : Ev), P xs ε → forW t B xs ε E
  | [], ε, p => h0 ε p
  | x :: r, ε, p => h x r ε p fun e q => for_at P h h0 r e q
theorem lc_map {t : Tg} {ε : Ev} {E : Ev → (D → Ev → Prop) → Prop} (f : D → D) : ∀ (xs acc : List D) (K : List D → Prop),
    (∀ x ∈ xs, ∀ k : D → Ev → Prop, (∀ e, k (f x) e) → tgW t x (wipeE (blind ε) (tgs t)) fun ε1 => E ε1 k) → acc.length + xs.length ≤ 16777216 → K (acc ++ xs.map f) → lcW t ε (fun ε2 k => k true ε2) E xs acc K
  | [], acc, K, _, _, hk => by
    have e : acc ++ ([] : List D).map f = acc := by simp
    exact e ▸ hk
  | x :: r, acc, K, h, hl, hk => by
    have hl2 : acc.length + (r.length + 1) ≤ 16777216 := hl
    refine h x (List.mem_cons_self ..) (fun y e => acc.length < 16777216 ∧ lcW t ε (fun ε2 k => k true ε2) E r (acc ++ [y]) K) fun e => ⟨by omega, lc_map f r (acc ++ [f x]) K (fun y hy => h y (List.mem_cons_of_mem _ hy)) ?_ ?_⟩
    · simp only [List.length_append, List.length_cons, List.length_nil]
      omega
    · simpa using hk
end
theorem atI_nat {xs : List D} {i : Nat} {v : D} (h : xs[i]? = some v) : L2.atI xs (i : Int) = some v := by
  have hi := (List.getElem?_eq_some_iff.mp h).1
  unfold L2.atI L2.ixN
  simp only [show ¬ ((i : Int) < 0) by omega, if_false, show (0 : Int) ≤ i by omega, show (i : Int) < xs.length by omega, and_self, if_true]
  simpa using h
end Rc
namespace Rc
open PySem
/-- what is behind a token stays as it is -/
inductive Tok {α : Type} (x : α) : Type where
  | mk
def callF (Φ : Fs) (f : Nat) (X : XP) (Q : KE) (_ : Tok (X, Q)) (ds : List D) (ε : Ev) : Prop := Φ f ds (fun c => X c ε) fun v => Q v ε
def whlF (T : Ev → (Bool → Ev → Prop) → Prop) (B : Ev → En → Prop) (E : En) (_ : Tok (T, B, E)) (ε : Ev) : Prop := whlW T B ε E
def forF (t : Tg) (B : Ev → En → Prop) (E : En) (_ : Tok (B, E)) (xs : List D) (ε : Ev) : Prop := forW t B xs ε E
def lcF (t : Tg) (C : Ev → (Bool → Ev → Prop) → Prop) (E : Ev → (D → Ev → Prop) → Prop) (K : List D → Prop) (_ : Tok (C, E, K)) (ε : Ev) (xs acc : List D) : Prop := lcW t ε C E xs acc K
def ixF (Q : D → Prop) (_ : Tok Q) (x y : D) : Prop := ixW x y Q
theorem ix_lst {Q : D → Prop} {q : Tok Q} {xs : List D} {i : Int} {v : D} (h : L2.atI xs i = some v) (w : Q v) : ixF Q q (.list xs) (.int i) := ⟨v, h, w⟩
theorem ix_tup {Q : D → Prop} {q : Tok Q} {xs : List D} {i : Int} {v : D} (h : L2.atI xs i = some v) (w : Q v) : ixF Q q (.tuple xs) (.int i) := ⟨v, h, w⟩
section
variable {Φ : Fs} {ε : Ev} {X : XP} {Q : KE} {E : En}
theorem wE_call {f : Nat} {a : IE} : wE Φ (.call f a) ε X Q = wE Φ a ε X (kM fun ds ε1 => callF Φ f X Q .mk ds ε1) := rfl
theorem wE_callP {f : Nat} {a : IE} : wE Φ (.callP f a) ε X Q = wE Φ a ε X (kM fun ds ε1 => callF Φ f X (fun v ε2 => flat v = true ∧ Q v ε2) .mk ds ε1) := rfl
theorem wE_lc {t : Tg} {it e : IE} : wE Φ (.lc t it .nil e) ε X Q = wE Φ it ε X (kM fun xs ε1 => lcF t (fun ε2 k => k true ε2) (fun ε2 k => wE Φ e ε2 (fun _ _ => False) (kD k)) (fun ys => Q (.own ys) ε1) .mk ε1 xs []) := rfl
theorem wE_ix {a b : IE} : wE Φ (.ix a b) ε X Q = pkW a ε (fun T => wE Φ a ε X T) fun x ε1 => wE Φ b ε1 X (kD fun y ε2 => ixF (fun v => Q (.d v) ε2) .mk x y) := rfl
theorem wE_isv {t : Ty} {j : Nat} : wE Φ (.isi t (.var j)) ε X Q = peek ε j fun x ε1 => Q (.d (.bool (isT t x))) ε1 := rfl
theorem wS_whl {c : IE} {b : IS} : wS Φ (.whl c b) ε E = whlF (fun ε1 k => wE Φ c ε1 E.ex (kB k)) (fun ε1 D' => wS Φ b ε1 D') E .mk ε := rfl
theorem wS_for {t : Tg} {it : IE} {b : IS} : wS Φ (.forr t it b) ε E = wE Φ it ε E.ex (kM fun xs ε1 => forF t (fun ε2 D' => wS Φ b ε2 D') E .mk xs ε1) := rfl
end
theorem whl_at' {T : Ev → (Bool → Ev → Prop) → Prop} {B : Ev → En → Prop} {ε : Ev} {E : En} {q : Tok (T, B, E)} (I : Nat → Ev → Prop) (m : Nat) (h0 : I m ε)
    (h : ∀ m ε1, I m ε1 → T ε1 fun b ε2 => if b = true then B ε2 { E with nx := fun e => ∃ m', m' < m ∧ I m' e, ct := fun e => ∃ m', m' < m ∧ I m' e, bk := E.nx } else E.nx ε2) : whlF T B E q ε := whl_at I m h0 h
theorem for_at' {t : Tg} {B : Ev → En → Prop} {E : En} {q : Tok (B, E)} (P : List D → Ev → Prop)
    (h : ∀ x r ε, P (x :: r) ε → (∀ e, P r e → forW t B r e E) → tgW t x ε fun ε1 => B ε1 { E with nx := fun e => forF t B E .mk r e, ct := fun e => forF t B E .mk r e, bk := E.nx })
    (h0 : ∀ ε, P [] ε → E.nx ε) (xs : List D) (ε : Ev) (p : P xs ε) : forF t B E q xs ε := for_at P h h0 xs ε p
theorem lc_map' {t : Tg} {ε : Ev} {E : Ev → (D → Ev → Prop) → Prop} (f : D → D) {xs : List D} {K : List D → Prop} {q : Tok ((fun ε2 k => k true ε2 : Ev → (Bool → Ev → Prop) → Prop), E, K)}
    (h : ∀ x ∈ xs, ∀ k : D → Ev → Prop, (∀ e, k (f x) e) → tgW t x (wipeE (blind ε) (tgs t)) fun ε1 => E ε1 k) (hl : xs.length ≤ 16777216) (hk : K (xs.map f)) : lcF t (fun ε2 k => k true ε2) E K q ε xs [] :=
  lc_map f xs [] K h (by simpa using hl) (by simpa using hk)
end Rc
namespace Rc
open PySem
/-! ### shapes -/
def Sh (n : Nat) (d : D) : Prop := d.canLay0 = true ∧ d.depth ≤ n
theorem shaped_of {n : Nat} {d : D} (h : Sh n d) (q : n ≤ 64) : SeqAt.shaped d = true := by
  unfold SeqAt.shaped
  rw [h.1, decide_eq_true (Nat.le_trans h.2 q)]
  rfl
theorem shAll {n : Nat} : ∀ {xs : List D}, (∀ x ∈ xs, Sh n x) → PyData.canLayAll0 xs = true ∧ PyData.depthAll xs ≤ n
  | [], _ => ⟨rfl, Nat.zero_le _⟩
  | x :: r, h => by
    obtain ⟨h1, h2⟩ := h x (List.mem_cons_self ..)
    obtain ⟨h3, h4⟩ := shAll fun y hy => h y (List.mem_cons_of_mem _ hy)
    refine ⟨?_, ?_⟩
    · unfold PyData.canLayAll0
      rw [h1, h3]
      rfl
    · unfold PyData.depthAll
      omega
theorem shLst {n : Nat} {xs : List D} (h : ∀ x ∈ xs, Sh n x) : Sh (n + 1) (.list xs) := by
  obtain ⟨h1, h2⟩ := shAll h
  refine ⟨by unfold PyData.canLay0; exact h1, ?_⟩
  unfold PyData.depth
  omega
theorem shTup {n : Nat} {xs : List D} (h : ∀ x ∈ xs, Sh n x) : Sh (n + 1) (.tuple xs) := by
  obtain ⟨h1, h2⟩ := shAll h
  refine ⟨by unfold PyData.canLay0; exact h1, ?_⟩
  unfold PyData.depth
  omega
theorem shInt {n : Nat} (i : Int) : Sh n (.int i) := ⟨rfl, Nat.zero_le _⟩
theorem shInts {n : Nat} (xs : List Int) : ∀ x ∈ xs.map PyData.int, Sh n x := fun x h => by
  obtain ⟨i, _, rfl⟩ := List.mem_map.mp h
  exact shInt i
theorem shapedL (xs : List Int) : SeqAt.shaped (.list (xs.map .int)) = true := shaped_of (shLst (n := 0) (shInts xs)) (by decide)
theorem shapedT (xs : List Int) : SeqAt.shaped (.tuple (xs.map .int)) = true := shaped_of (shTup (n := 0) (shInts xs)) (by decide)
theorem eqvInts : ∀ xs ys : List Int, PyData.eqvAll (xs.map .int) (ys.map .int) = decide (xs = ys)
  | [], [] => rfl
  | [], _ :: _ => rfl
  | _ :: _, [] => rfl
  | x :: r, y :: t => by
    show (PyData.eqv (.int x) (.int y) && PyData.eqvAll (r.map .int) (t.map .int)) = _
    rw [eqvInts r t]
    show ((x == y) && decide (r = t)) = _
    by_cases h1 : x = y <;> by_cases h2 : r = t <;> simp [h1, h2]
theorem eqvL (xs ys : List Int) : PyData.eqv (.list (xs.map .int)) (.list (ys.map .int)) = decide (xs = ys) := eqvInts xs ys
theorem eqvT (xs ys : List Int) : PyData.eqv (.tuple (xs.map .int)) (.tuple (ys.map .int)) = decide (xs = ys) := eqvInts xs ys
theorem cut_map {α β : Type} (f : α → β) (xs : List α) (lo hi : Option Int) : cut (xs.map f) lo hi = (cut xs lo hi).map f := by
  unfold cut
  rw [List.length_map, List.map_take, List.map_drop]
theorem cut_len {α : Type} (xs : List α) (lo hi : Option Int) : (cut xs lo hi).length ≤ xs.length := by
  unfold cut
  rw [List.length_take, List.length_drop]
  omega
end Rc
namespace Rc
open PySem
theorem lc_go {α : Type} {t : Tg} {ε : Ev} {E : Ev → (D → Ev → Prop) → Prop} (g f : α → D) : ∀ (as : List α) (acc : List D) (K : List D → Prop),
    (∀ a ∈ as, ∀ k : D → Ev → Prop, (∀ e, k (f a) e) → tgW t (g a) (wipeE (blind ε) (tgs t)) fun ε1 => E ε1 k) → acc.length + as.length ≤ 16777216 → K (acc ++ as.map f) → lcW t ε (fun ε2 k => k true ε2) E (as.map g) acc K
  | [], acc, K, _, _, hk => by
    have e : acc ++ ([] : List α).map f = acc := by simp
    exact e ▸ hk
  | a :: r, acc, K, h, hl, hk => by
    have hl2 : acc.length + (r.length + 1) ≤ 16777216 := hl
    refine h a (List.mem_cons_self ..) (fun y e => acc.length < 16777216 ∧ lcW t ε (fun ε2 k => k true ε2) E (r.map g) (acc ++ [y]) K) fun e => ⟨by omega, lc_go g f r (acc ++ [f a]) K (fun y hy => h y (List.mem_cons_of_mem _ hy)) ?_ ?_⟩
    · simp only [List.length_append, List.length_cons, List.length_nil]
      omega
    · simpa using hk
/-- a comprehension over the images of as -/
theorem lc_as {α : Type} {t : Tg} {ε : Ev} {E : Ev → (D → Ev → Prop) → Prop} (g f : α → D) {as : List α} {K : List D → Prop} {q : Tok ((fun ε2 k => k true ε2 : Ev → (Bool → Ev → Prop) → Prop), E, K)}
    (h : ∀ a ∈ as, ∀ k : D → Ev → Prop, (∀ e, k (f a) e) → tgW t (g a) (wipeE (blind ε) (tgs t)) fun ε1 => E ε1 k) (hl : as.length ≤ 16777216) (hk : K (as.map f)) : lcF t (fun ε2 k => k true ε2) E K q ε (as.map g) [] :=
  lc_go g f as [] K h (by simpa using hl) (by simpa using hk)
end Rc
namespace Rc
def bl1 : Option Val → Option Val
  | some (.d x) => some (.d x)
  | _ => none
theorem blind_cons (o : Option Val) (r : Ev) : blind (o :: r) = bl1 o :: blind r := by
  cases o with
  | none => rfl
  | some v => cases v <;> rfl
theorem blind_nil : blind [] = [] := rfl
end Rc
namespace Rc
open PySem
theorem wE_lcg {Φ : Fs} {ε : Ev} {X : XP} {Q : KE} {t : Tg} {it c e : IE} : wE Φ (.lc t it c e) ε X Q = wE Φ it ε X (kM fun xs ε1 => lcF t (fun ε2 k => if isNil c = true then k true ε2 else wE Φ c ε2 (fun _ _ => False) (kB k)) (fun ε2 k => wE Φ e ε2 (fun _ _ => False) (kD k)) (fun ys => Q (.own ys) ε1) .mk ε1 xs []) := rfl
/-- a comprehension with a test -/
theorem lc_fltGo {α : Type} {t : Tg} {ε : Ev} {C : Ev → (Bool → Ev → Prop) → Prop} {E : Ev → (D → Ev → Prop) → Prop} (g f : α → D) (p : α → Bool) : ∀ (as : List α) (acc : List D) (K : List D → Prop),
    (∀ a ∈ as, ∀ (k1 : D → Ev → Prop) (k0 : Prop), (p a = true → ∀ e, k1 (f a) e) → (p a = false → k0) → tgW t (g a) (wipeE (blind ε) (tgs t)) fun ε1 => C ε1 fun b ε2 => if b = true then E ε2 k1 else k0) →
    acc.length + as.length ≤ 16777216 → K (acc ++ (as.filter p).map f) → lcW t ε C E (as.map g) acc K
  | [], acc, K, _, _, hk => by
    have e : acc ++ (([] : List α).filter p).map f = acc := by simp
    exact e ▸ hk
  | a :: r, acc, K, h, hl, hk => by
    have hl2 : acc.length + (r.length + 1) ≤ 16777216 := hl
    refine h a (List.mem_cons_self ..) (fun y _ => acc.length < 16777216 ∧ lcW t ε C E (r.map g) (acc ++ [y]) K) (lcW t ε C E (r.map g) acc K) (fun hp e => ⟨by omega, lc_fltGo g f p r (acc ++ [f a]) K (fun y hy => h y (List.mem_cons_of_mem _ hy)) ?_ ?_⟩) fun hp => lc_fltGo g f p r acc K (fun y hy => h y (List.mem_cons_of_mem _ hy)) (by omega) ?_
    · simp only [List.length_append, List.length_cons, List.length_nil]
      omega
    · rw [List.filter_cons_of_pos hp] at hk
      simpa using hk
    · rw [List.filter_cons_of_neg (by simp [hp])] at hk
      exact hk
theorem lc_flt {α : Type} {t : Tg} {ε : Ev} {C : Ev → (Bool → Ev → Prop) → Prop} {E : Ev → (D → Ev → Prop) → Prop} {K : List D → Prop} {q : Tok (C, E, K)} (g f : α → D) (p : α → Bool) {as : List α}
    (h : ∀ a ∈ as, ∀ (k1 : D → Ev → Prop) (k0 : Prop), (p a = true → ∀ e, k1 (f a) e) → (p a = false → k0) → tgW t (g a) (wipeE (blind ε) (tgs t)) fun ε1 => C ε1 fun b ε2 => if b = true then E ε2 k1 else k0)
    (hl : as.length ≤ 16777216) (hk : K ((as.filter p).map f)) : lcF t C E K q ε (as.map g) [] := lc_fltGo g f p as [] K h (by simpa using hl) (by simpa using hk)
end Rc
namespace Rc
open PySem
/-! one equation for each kind of operand: no term is doubled -/
theorem pkW_var (j : Nat) (ε : Ev) (T : KE → Prop) (k : D → Ev → Prop) : pkW (.var j) ε T k = peek ε j k := rfl
theorem ptW_nil (ε : Ev) (T : KE → Prop) (k : Option Int → Ev → Prop) : ptW .nil ε T k = k none ε := rfl
def ptK (k : Option Int → Ev → Prop) : D → Ev → Prop := fun y ε1 => match y with | .int h => k (some h) ε1 | _ => False
theorem ptK_i (k : Option Int → Ev → Prop) (h : Int) (ε : Ev) : ptK k (.int h) ε = k (some h) ε := rfl
theorem pkW_cst (c : D) (ε : Ev) (T : KE → Prop) (k : D → Ev → Prop) : pkW (.cst c) ε T k = T (kD k) := rfl
theorem pkW_tup (a : IE) (ε : Ev) (T : KE → Prop) (k : D → Ev → Prop) : pkW (.tup a) ε T k = T (kD k) := rfl
theorem pkW_lst (a : IE) (ε : Ev) (T : KE → Prop) (k : D → Ev → Prop) : pkW (.lst a) ε T k = T (kD k) := rfl
theorem pkW_bin (o : Operator) (a b : IE) (ε : Ev) (T : KE → Prop) (k : D → Ev → Prop) : pkW (.bin o a b) ε T k = T (kD k) := rfl
theorem pkW_neg (a : IE) (ε : Ev) (T : KE → Prop) (k : D → Ev → Prop) : pkW (.neg a) ε T k = T (kD k) := rfl
theorem pkW_ix (a b : IE) (ε : Ev) (T : KE → Prop) (k : D → Ev → Prop) : pkW (.ix a b) ε T k = T (kD k) := rfl
theorem pkW_sl (a b c : IE) (ε : Ev) (T : KE → Prop) (k : D → Ev → Prop) : pkW (.sl a b c) ε T k = T (kD k) := rfl
theorem pkW_rev (a : IE) (ε : Ev) (T : KE → Prop) (k : D → Ev → Prop) : pkW (.rev a) ε T k = T (kD k) := rfl
theorem pkW_call (f : Nat) (a : IE) (ε : Ev) (T : KE → Prop) (k : D → Ev → Prop) : pkW (.call f a) ε T k = T (kD k) := rfl
theorem pkW_callP (f : Nat) (a : IE) (ε : Ev) (T : KE → Prop) (k : D → Ev → Prop) : pkW (.callP f a) ε T k = T (kD k) := rfl
theorem pkW_bi (f : Bi) (a : IE) (ε : Ev) (T : KE → Prop) (k : D → Ev → Prop) : pkW (.bi f a) ε T k = T (kD k) := rfl
theorem pkW_len (a : IE) (ε : Ev) (T : KE → Prop) (k : D → Ev → Prop) : pkW (.len a) ε T k = T (kD k) := rfl
theorem pkW_lc (t : Tg) (a b c : IE) (ε : Ev) (T : KE → Prop) (k : D → Ev → Prop) : pkW (.lc t a b c) ε T k = T (kD k) := rfl
theorem pkW_ite (a b c : IE) (ε : Ev) (T : KE → Prop) (k : D → Ev → Prop) : pkW (.ite a b c) ε T k = T (kD k) := rfl
theorem pkW_gc (f : Nat) (d : D) (ε : Ev) (T : KE → Prop) (k : D → Ev → Prop) : pkW (.gc f d) ε T k = T (kD k) := rfl
theorem pkW_mov (j : Nat) (ε : Ev) (T : KE → Prop) (k : D → Ev → Prop) : pkW (.mov j) ε T k = T (kD k) := rfl
theorem pkW_dsp (l : List (Str × D)) (a : IE) (ε : Ev) (T : KE → Prop) (k : D → Ev → Prop) : pkW (.dsp l a) ε T k = T (kD k) := rfl
theorem pkW_bone (a : IE) (ε : Ev) (T : KE → Prop) (k : D → Ev → Prop) : pkW (.bone a) ε T k = T (kD k) := rfl
theorem pkW_cmp (o : CmpOp) (a b : IE) (ε : Ev) (T : KE → Prop) (k : D → Ev → Prop) : pkW (.cmp o a b) ε T k = T (kD k) := rfl
theorem pkW_cnt (a b : IE) (ε : Ev) (T : KE → Prop) (k : D → Ev → Prop) : pkW (.cnt a b) ε T k = T (kD k) := rfl
theorem ptW_cst (c : D) (ε : Ev) (T : KE → Prop) (k : Option Int → Ev → Prop) : ptW (.cst c) ε T k = T (kD (ptK k)) := rfl
theorem ptW_tup (a : IE) (ε : Ev) (T : KE → Prop) (k : Option Int → Ev → Prop) : ptW (.tup a) ε T k = T (kD (ptK k)) := rfl
theorem ptW_lst (a : IE) (ε : Ev) (T : KE → Prop) (k : Option Int → Ev → Prop) : ptW (.lst a) ε T k = T (kD (ptK k)) := rfl
theorem ptW_bin (o : Operator) (a b : IE) (ε : Ev) (T : KE → Prop) (k : Option Int → Ev → Prop) : ptW (.bin o a b) ε T k = T (kD (ptK k)) := rfl
theorem ptW_neg (a : IE) (ε : Ev) (T : KE → Prop) (k : Option Int → Ev → Prop) : ptW (.neg a) ε T k = T (kD (ptK k)) := rfl
theorem ptW_ix (a b : IE) (ε : Ev) (T : KE → Prop) (k : Option Int → Ev → Prop) : ptW (.ix a b) ε T k = T (kD (ptK k)) := rfl
theorem ptW_sl (a b c : IE) (ε : Ev) (T : KE → Prop) (k : Option Int → Ev → Prop) : ptW (.sl a b c) ε T k = T (kD (ptK k)) := rfl
theorem ptW_rev (a : IE) (ε : Ev) (T : KE → Prop) (k : Option Int → Ev → Prop) : ptW (.rev a) ε T k = T (kD (ptK k)) := rfl
theorem ptW_call (f : Nat) (a : IE) (ε : Ev) (T : KE → Prop) (k : Option Int → Ev → Prop) : ptW (.call f a) ε T k = T (kD (ptK k)) := rfl
theorem ptW_callP (f : Nat) (a : IE) (ε : Ev) (T : KE → Prop) (k : Option Int → Ev → Prop) : ptW (.callP f a) ε T k = T (kD (ptK k)) := rfl
theorem ptW_bi (f : Bi) (a : IE) (ε : Ev) (T : KE → Prop) (k : Option Int → Ev → Prop) : ptW (.bi f a) ε T k = T (kD (ptK k)) := rfl
theorem ptW_len (a : IE) (ε : Ev) (T : KE → Prop) (k : Option Int → Ev → Prop) : ptW (.len a) ε T k = T (kD (ptK k)) := rfl
theorem ptW_lc (t : Tg) (a b c : IE) (ε : Ev) (T : KE → Prop) (k : Option Int → Ev → Prop) : ptW (.lc t a b c) ε T k = T (kD (ptK k)) := rfl
theorem ptW_ite (a b c : IE) (ε : Ev) (T : KE → Prop) (k : Option Int → Ev → Prop) : ptW (.ite a b c) ε T k = T (kD (ptK k)) := rfl
theorem ptW_gc (f : Nat) (d : D) (ε : Ev) (T : KE → Prop) (k : Option Int → Ev → Prop) : ptW (.gc f d) ε T k = T (kD (ptK k)) := rfl
theorem ptW_mov (j : Nat) (ε : Ev) (T : KE → Prop) (k : Option Int → Ev → Prop) : ptW (.mov j) ε T k = T (kD (ptK k)) := rfl
theorem ptW_dsp (l : List (Str × D)) (a : IE) (ε : Ev) (T : KE → Prop) (k : Option Int → Ev → Prop) : ptW (.dsp l a) ε T k = T (kD (ptK k)) := rfl
theorem ptW_bone (a : IE) (ε : Ev) (T : KE → Prop) (k : Option Int → Ev → Prop) : ptW (.bone a) ε T k = T (kD (ptK k)) := rfl
theorem ptW_cmp (o : CmpOp) (a b : IE) (ε : Ev) (T : KE → Prop) (k : Option Int → Ev → Prop) : ptW (.cmp o a b) ε T k = T (kD (ptK k)) := rfl
theorem ptW_cnt (a b : IE) (ε : Ev) (T : KE → Prop) (k : Option Int → Ev → Prop) : ptW (.cnt a b) ε T k = T (kD (ptK k)) := rfl
theorem ptW_var (j : Nat) (ε : Ev) (T : KE → Prop) (k : Option Int → Ev → Prop) : ptW (.var j) ε T k = T (kD (ptK k)) := rfl
end Rc
namespace Rc
open PySem
/-! what a frame holds is put in order before the next step -/
def pvF (K : Ev → Prop) (_ : Tok K) (ε : Ev) : Prop := K ε
theorem pvF_eq {K : Ev → Prop} {q : Tok K} {ε : Ev} : pvF K q ε = K ε := rfl
section
variable {Φ : Fs} {ε : Ev} {E : En}
theorem wS_asg {j : Nat} {e : IE} : wS Φ (.asg j e) ε E = wE Φ e ε E.ex (kV fun v ε1 => pvF E.nx .mk (pv ε1 j (some v))) := rfl
theorem wS_par {i j : Nat} {a b : IE} : wS Φ (.par i j a b) ε E = wE Φ a ε E.ex (kD fun x ε1 => wE Φ b ε1 E.ex (kD fun y ε2 => pvF E.nx .mk (pv (pv ε2 i (some (.d x))) j (some (.d y))))) := rfl
theorem wS_setIx {j : Nat} {k e : IE} : wS Φ (.setIx j k e) ε E = wE Φ e ε E.ex (kD fun v ε1 => ownAt ε1 j fun _ => wE Φ k ε1 E.ex (kD fun i ε2 => match i with
      | .int z => ownAt ε2 j fun xs => ∃ n, L2.ixN xs.length z = some n ∧ pvF E.nx .mk (pv ε2 j (some (.own (xs.set n v))))
      | _ => False)) := rfl
theorem wS_app {j : Nat} {e : IE} : wS Φ (.app j e) ε E = ownAt ε j fun _ => wE Φ e ε E.ex (kD fun v ε1 => ownAt ε1 j fun xs => xs.length < 16777216 ∧ pvF E.nx .mk (pv ε1 j (some (.own (xs ++ [v]))))) := rfl
theorem tgW_one {j : Nat} {x : D} {K : Ev → Prop} : tgW (.one j) x ε K = pvF K .mk (pv ε j (some (.d x))) := rfl
theorem tgW_tup {js : List Nat} {xs : List D} {K : Ev → Prop} : tgW (.tup js) (.tuple xs) ε K = (xs.length = js.length ∧ pvF K .mk (setAll js xs ε)) := rfl
end
end Rc
namespace Rc
open PySem
/-! for x in L: if c: return e, L the frame's own -/
def forPF (t : Tg) (j : Nat) (T : Ev → (Bool → Ev → Prop) → Prop) (Rt : Ev → Prop) (nx : Ev → Prop) (_ : Tok (T, Rt, nx)) (xs : List D) (ε : Ev) : Prop := forPW t j xs T Rt nx xs ε
theorem wS_forP {Φ : Fs} {ε : Ev} {E : En} {t : Tg} {j : Nat} {c e : IE} : wS Φ (.forP t j c e) ε E = ownAt ε j fun xs => forPF t j (fun ε1 k => wE Φ c ε1 E.ex (kB k)) (fun ε1 => wE Φ e ε1 E.ex (kV fun v _ => E.rt v)) E.nx .mk xs ε := rfl
theorem forP_at {t : Tg} {j : Nat} {T : Ev → (Bool → Ev → Prop) → Prop} {Rt : Ev → Prop} {nx : Ev → Prop} {q : Tok (T, Rt, nx)} {xs : List D} {ε : Ev} (I : Ev → Prop)
    (h : ∀ x ∈ xs, ∀ ε, I ε → ∀ K : Bool → Ev → Prop, (∀ ε', I ε' → K false ε') → tgW t x ε fun ε1 => T ε1 K) (hI : ∀ ε, I ε → gv ε j = some (.own xs)) (h0 : I ε) (hn : ∀ ε, I ε → nx ε) : forPF t j T Rt nx q xs ε := by
  have go : ∀ (ys : List D) (ε : Ev), (∀ y ∈ ys, y ∈ xs) → I ε → forPW t j xs T Rt nx ys ε := by
    intro ys
    induction ys with
    | nil => exact fun ε _ i => hn ε i
    | cons y r ih =>
      intro ε hm i
      exact h y (hm y (List.mem_cons_self ..)) ε i (fun b ε2 => if b = true then Rt ε2 else gv ε2 j = some (.own xs) ∧ forPW t j xs T Rt nx r ε2) fun ε' i' => by
        show (if false = true then Rt ε' else gv ε' j = some (.own xs) ∧ forPW t j xs T Rt nx r ε')
        rw [if_neg Bool.false_ne_true]
        exact ⟨hI ε' i', ih ε' (fun z hz => hm z (List.mem_cons_of_mem _ hz)) i'⟩
  exact go xs ε (fun _ h => h) h0
/-! ### a list that is lent -/
def callLF (Φ : Fs) (f j : Nat) (X : XP) (Q : KE) (_ : Tok (X, Q)) (xs ds : List D) (ε : Ev) : Prop := Φ f (.list xs :: ds) (fun c => X c (pv ε j none)) (kT fun v ys => Q v (pv ε j (some (.lent ys))))
def callLPF (Φ : Fs) (f j : Nat) (X : XP) (Q : KE) (_ : Tok (X, Q)) (xs ds : List D) (ε : Ev) : Prop := Φ f (.list xs :: ds) (fun c => X c (pv ε j none)) (kTP fun v ys => Q v (pv ε j (some (.lent ys))))
def lclF (t : Tg) (j : Nat) (E : Ev → (D → Ev → Prop) → Prop) (K : List D → List D → Prop) (_ : Tok (E, K)) (ε : Ev) (xs acc L : List D) : Prop := lclW t ε j E xs acc L K
def lckF (t : Tg) (j : Nat) (E : Ev → (D → Ev → Prop) → Prop) (K : List D → Prop) (_ : Tok (E, K)) (ε : Ev) (L xs acc : List D) : Prop := lckW t ε j L E xs acc K
/-- such a comprehension over the images of as -/
theorem lck_as {α : Type} {t : Tg} {ε : Ev} {j : Nat} {L : List D} {E : Ev → (D → Ev → Prop) → Prop} (g f : α → D) {as : List α} {K : List D → Prop} {q : Tok (E, K)}
    (h : ∀ a ∈ as, ∀ k : D → Ev → Prop, (∀ e, gv e j = some (.own L) → k (f a) e) → tgW t (g a) (pv (wipeE (blind ε) (tgs t)) j (some (.own L))) fun ε1 => E ε1 k) (hl : as.length ≤ 16777216) (hk : K (as.map f)) : lckF t j E K q ε L (as.map g) [] := by
  have go : ∀ (as : List α) (acc : List D), (∀ a ∈ as, ∀ k : D → Ev → Prop, (∀ e, gv e j = some (.own L) → k (f a) e) → tgW t (g a) (pv (wipeE (blind ε) (tgs t)) j (some (.own L))) fun ε1 => E ε1 k) → acc.length + as.length ≤ 16777216 → K (acc ++ as.map f) → lckW t ε j L E (as.map g) acc K := by
    intro as
    induction as with
    | nil =>
      intro acc _ _ hk
      have e : acc ++ ([] : List α).map f = acc := by simp
      exact e ▸ hk
    | cons a r ih =>
      intro acc h hl hk
      have hl2 : acc.length + (r.length + 1) ≤ 16777216 := hl
      refine h a (List.mem_cons_self ..) _ fun e he => ?_
      unfold ownAt
      rw [he]
      refine ⟨by omega, ih (acc ++ [f a]) (fun y hy => h y (List.mem_cons_of_mem _ hy)) ?_ ?_⟩
      · simp only [List.length_append, List.length_cons, List.length_nil]
        omega
      · simpa using hk
  exact go as [] h (by simpa using hl) (by simpa using hk)
section
variable {Φ : Fs} {ε : Ev} {X : XP} {Q : KE} {E : En} {f j n : Nat}
theorem wE_lcK {t : Tg} {it e : IE} : wE Φ (.lcK t it e j) ε X Q = wE Φ it ε X (kM fun xs ε1 => ownAt ε1 j fun L => lckF t j (fun ε2 k => wE Φ e ε2 (fun _ _ => False) (kD k)) (fun ys => Q (.own ys) ε1) .mk ε1 L xs []) := rfl
theorem wE_callL {a : IE} : wE Φ (.callL f j a) ε X Q = lentAt ε j fun _ => wE Φ a ε X (kM fun ds ε1 => lentAt ε1 j fun xs => callLF Φ f j X Q .mk xs ds ε1) := rfl
theorem wE_callLP {a : IE} : wE Φ (.callLP f j a) ε X Q = lentAt ε j fun _ => wE Φ a ε X (kM fun ds ε1 => lentAt ε1 j fun xs => callLPF Φ f j X Q .mk xs ds ε1) := rfl
theorem wE_lemp : wE Φ (.lemp j) ε X Q = lentAt ε j fun xs => SeqAt.shaped (.list xs) = true ∧ Q (.d (.bool xs.isEmpty)) ε := rfl
theorem wE_lix : wE Φ (.lix j n) ε X Q = lentAt ε j fun xs => ∃ v, xs[n]? = some v ∧ Q (.d v) ε := rfl
theorem wE_lpop0 : wE Φ (.lpop0 j) ε X Q = lentAt ε j fun xs => ∃ x r, xs = x :: r ∧ Q (.d x) (pv ε j (some (.lent r))) := rfl
theorem wE_lcL {t : Tg} {it e : IE} : wE Φ (.lcL t it e j) ε X Q = wE Φ it ε X (kM fun xs ε1 => lentAt ε1 j fun L => lclF t j (fun ε2 k => wE Φ e ε2 (fun _ _ => False) (kD k)) (fun ys L' => Q (.own ys) (pv ε1 j (some (.lent L')))) .mk ε1 xs [] L) := rfl
theorem kT_two {k : Val → List D → Prop} {x : D} {xs : List D} : kT k (.two x xs) = k (.d x) xs := rfl
theorem kT_twoO {k : Val → List D → Prop} {x xs : List D} : kT k (.twoO x xs) = k (.own x) xs := rfl
theorem kTP_two {k : Val → List D → Prop} {x : D} {xs : List D} : kTP k (.two x xs) = (noL x = true ∧ noLs xs = true ∧ k (.d x) xs) := rfl
theorem kTP_twoO {k : Val → List D → Prop} {x xs : List D} : kTP k (.twoO x xs) = (noLs x = true ∧ noLs xs = true ∧ k (.own x) xs) := rfl
theorem lentAt_i {xs : List D} {k : List D → Prop} {ε : Ev} (h : gv ε j = some (.lent xs)) : lentAt ε j k = k xs := by
  unfold lentAt
  rw [h]
def ul1 : Option Val → Option Val
  | some (.lent _) => none
  | o => o
theorem unlend_nil : unlend [] = [] := rfl
theorem unlend_cons {o : Option Val} {r : Ev} : unlend (o :: r) = ul1 o :: unlend r := by
  cases o with
  | none => rfl
  | some v => cases v <;> rfl
theorem ul1_n : ul1 none = none := rfl
theorem ul1_d {x : D} : ul1 (some (.d x)) = some (.d x) := rfl
theorem ul1_o {x : List D} : ul1 (some (.own x)) = some (.own x) := rfl
theorem ul1_l {x : List D} : ul1 (some (.lent x)) = none := rfl
theorem wS_lend {r : IS} : wS Φ (.lend j r) ε E = ownAt ε j fun xs => wS Φ r (pv ε j (some (.lent xs))) { nx := fun e => E.nx (unlend e), rt := fun v => noTwo v = true ∧ E.rt v, bk := fun e => E.bk (unlend e), ct := fun e => E.ct (unlend e), ex := fun c e => E.ex c (unlend e) } := rfl
theorem wS_lfn {r : IS} {xs : List D} : wS Φ (.lfn r) (some (.d (.list xs)) :: ε) E = wS Φ r (some (.lent xs) :: ε) { E with nx := fun _ => False } := rfl
def kR (E : En) : KE := fun v ε1 => match v with
  | .d x => lentAt ε1 0 fun xs => E.rt (.two x xs)
  | .own ys => lentAt ε1 0 fun xs => E.rt (.twoO ys xs)
  | _ => False
theorem kR_d {x : D} : kR E (.d x) ε = lentAt ε 0 fun xs => E.rt (.two x xs) := rfl
theorem kR_o {x : List D} : kR E (.own x) ε = lentAt ε 0 fun xs => E.rt (.twoO x xs) := rfl
theorem wS_retL {e : IE} : wS Φ (.retL e) ε E = wE Φ e ε E.ex (kR E) := rfl
theorem wS_lset {e : IE} : wS Φ (.lset j n e) ε E = wE Φ e ε E.ex (kD fun v ε1 => lentAt ε1 j fun xs => n < xs.length ∧ pvF E.nx .mk (pv ε1 j (some (.lent (xs.set n v))))) := rfl
theorem wS_asgN {t : Tg} {e : IE} : wS Φ (.asgN t e) ε E = wE Φ e ε E.ex (kD fun x ε1 => tgW t x ε1 E.nx) := rfl
theorem tgW_nst {js : List Nat} {xs : List D} {y : D} {K : Ev → Prop} : tgW (.nst js j) (.tuple [.tuple xs, y]) ε K = (xs.length = js.length ∧ pvF K .mk (pv (setAll js xs ε) j (some (.d y)))) := rfl
theorem noTwo_d {x : D} : noTwo (.d x) = true := rfl
theorem noTwo_o {x : List D} : noTwo (.own x) = true := rfl
/-- such a comprehension, turn by turn -/
theorem lcl_at {t : Tg} {E' : Ev → (D → Ev → Prop) → Prop} {K : List D → List D → Prop} {q : Tok (E', K)} (P : List D → List D → List D → Prop)
    (h : ∀ x r acc L, P (x :: r) acc L → ∀ k : D → Ev → Prop, (∀ y ε' L', P r (acc ++ [y]) L' → gv ε' j = some (.lent L') → k y ε') → acc.length < 16777216 → tgW t x (pv (wipeE (blind ε) (tgs t)) j (some (.lent L))) fun ε1 => E' ε1 k)
    (hK : ∀ acc L, P [] acc L → K acc L) : ∀ (xs acc L : List D), P xs acc L → acc.length + xs.length ≤ 16777216 → lclF t j E' K q ε xs acc L
  | [], acc, L, p, _ => hK acc L p
  | x :: r, acc, L, p, hl => by
    refine h x r acc L p _ (fun y ε' L' p' e => ?_) (by simp at hl; omega)
    rw [lentAt_i e]
    exact ⟨by simp at hl; omega, lcl_at (q := q) P h hK r (acc ++ [y]) L' p' (by simp at hl ⊢; omega)⟩
end
theorem pkW_callL (f j : Nat) (a : IE) (ε : Ev) (T : KE → Prop) (k : D → Ev → Prop) : pkW (.callL f j a) ε T k = T (kD k) := rfl
theorem pkW_callLP (f j : Nat) (a : IE) (ε : Ev) (T : KE → Prop) (k : D → Ev → Prop) : pkW (.callLP f j a) ε T k = T (kD k) := rfl
theorem pkW_lix (j n : Nat) (ε : Ev) (T : KE → Prop) (k : D → Ev → Prop) : pkW (.lix j n) ε T k = T (kD k) := rfl
theorem pkW_lemp (j : Nat) (ε : Ev) (T : KE → Prop) (k : D → Ev → Prop) : pkW (.lemp j) ε T k = T (kD k) := rfl
theorem pkW_lpop0 (j : Nat) (ε : Ev) (T : KE → Prop) (k : D → Ev → Prop) : pkW (.lpop0 j) ε T k = T (kD k) := rfl
theorem pkW_lcL (t : Tg) (a b : IE) (j : Nat) (ε : Ev) (T : KE → Prop) (k : D → Ev → Prop) : pkW (.lcL t a b j) ε T k = T (kD k) := rfl
theorem pkW_lcK (t : Tg) (a b : IE) (j : Nat) (ε : Ev) (T : KE → Prop) (k : D → Ev → Prop) : pkW (.lcK t a b j) ε T k = T (kD k) := rfl
theorem ptW_callL (f j : Nat) (a : IE) (ε : Ev) (T : KE → Prop) (k : Option Int → Ev → Prop) : ptW (.callL f j a) ε T k = T (kD (ptK k)) := rfl
theorem ptW_lix (j n : Nat) (ε : Ev) (T : KE → Prop) (k : Option Int → Ev → Prop) : ptW (.lix j n) ε T k = T (kD (ptK k)) := rfl
def geF (Q : Bool → Prop) (_ : Tok Q) (a b : List D) : Prop := cmpW .GtE (.tuple a) (.tuple b) Q
theorem cmp_geT {a b : List D} {Q : Bool → Prop} : cmpW .GtE (.tuple a) (.tuple b) Q = geF Q .mk a b := rfl
theorem ge_T {a b : List D} {ns ms : List Int} {Q : Bool → Prop} {q : Tok Q} (h1 : asInts a = some ns) (h2 : asInts b = some ms) (h : Q (geI ns ms)) : geF Q q a b := ⟨ns, ms, h1, h2, h⟩
/-! ### dicts -/
def dGetF (v : Val) (Q : Option D → Prop) (_ : Tok Q) (y : D) : Prop := dGetW v y Q
def dPutF (v : Val) (K : Val → Prop) (_ : Tok K) (y x : D) : Prop := dPutW v y x K
def dSrtF (v : Val) (Q : List D → Prop) (_ : Tok Q) : Prop := dSrtW v Q
def srtF (Q : List D → Prop) (_ : Tok Q) (x : D) : Prop := srtW x Q
def lcdF (t : Tg) (j : Nat) (v : Val) (C : Ev → (Bool → Ev → Prop) → Prop) (E : Ev → (D → Ev → Prop) → Prop) (K : List D → Prop) (_ : Tok (C, E, K)) (ε : Ev) (xs acc : List D) : Prop := lcdW t ε j v C E xs acc K
theorem dg_I {kvs : List (Int × D)} {i : Int} {Q : Option D → Prop} {q : Tok Q} (h : Q (lkp kvs i)) : dGetF (.dI kvs) Q q (.int i) := ⟨i, rfl, h⟩
theorem dg_T {kvs : List (List Int × D)} {k : List Int} {y : D} {Q : Option D → Prop} {q : Tok Q} (e : keyT y = some k) (h : Q (lkp kvs k)) : dGetF (.dT kvs) Q q y := ⟨k, e, h⟩
theorem dp_I {kvs : List (Int × D)} {i : Int} {x : D} {K : Val → Prop} {q : Tok K} (l : kvs.length < 16777216) (h : K (.dI (putL kvs i x))) : dPutF (.dI kvs) K q (.int i) x := ⟨i, rfl, l, h⟩
theorem dp_T {kvs : List (List Int × D)} {k : List Int} {y x : D} {K : Val → Prop} {q : Tok K} (e : keyT y = some k) (l : kvs.length < 16777216) (h : K (.dT (putL kvs k x))) : dPutF (.dT kvs) K q y x := ⟨k, e, l, h⟩
theorem ds_I {kvs : List (Int × D)} {Q : List D → Prop} {q : Tok Q} (l : kvs.length < 64) (h : Q (((kvs.map (·.1)).mergeSort fun x y => decide (x ≤ y)).map .int)) : dSrtF (.dI kvs) Q q := ⟨l, h⟩
theorem srt_l {xs : List D} {Q : List D → Prop} {q : Tok Q} (h1 : PySem.W.AllAlike xs) (h2 : PySem.W.Sortable xs) (h3 : xs.length ≤ 16777216) (h4 : ∀ d ∈ xs, d.depth ≤ 16) (h : Q (xs.mergeSort (PySem.W.dataLe false id))) : srtF Q q (.list xs) := ⟨h1, h2, ⟨h3, h4⟩, h⟩
theorem itemsD_I (kvs : List (Int × D)) : itemsD (.dI kvs) = kvs.map fun kv => .tuple [.int kv.1, kv.2] := rfl
theorem itemsD_T (kvs : List (List Int × D)) : itemsD (.dT kvs) = kvs.map fun kv => .tuple [.tuple (kv.1.map .int), kv.2] := rfl
theorem keyT_l (k : List Int) : keyT (.tuple (k.map .int)) = some k := by
  show asInts (k.map .int) = some k
  induction k with
  | nil => rfl
  | cons i r ih =>
    show (asInts (r.map .int)).map (i :: ·) = _
    rw [ih]; rfl
section
variable {Φ : Fs} {ε : Ev} {X : XP} {Q : KE} {E : En} {j : Nat}
theorem wE_dget {k x : IE} : wE Φ (.dget j k x) ε X Q = dictAt ε j fun _ => wE Φ k ε X (kD fun y ε1 => wE Φ x ε1 X (kD fun z ε2 => dictAt ε2 j fun v => dGetF v (fun o => Q (.d (o.getD z)) ε2) .mk y)) := rfl
theorem wE_dix {k : IE} : wE Φ (.dix j k) ε X Q = dictAt ε j fun _ => wE Φ k ε X (kD fun y ε1 => dictAt ε1 j fun v => dGetF v (fun o => ∃ d, o = some d ∧ Q (.d d) ε1) .mk y) := rfl
theorem wE_dsrt : wE Φ (.dsrt j) ε X Q = dictAt ε j fun v => dSrtF v (fun ys => Q (.own ys) ε) .mk := rfl
theorem wE_dlc {t : Tg} {c e : IE} : wE Φ (.dlc t c e j) ε X Q = dictAt ε j fun v => lcF t (fun ε2 k => if isNil c = true then k true ε2 else wE Φ c ε2 (fun _ _ => False) (kB k)) (fun ε2 k => wE Φ e ε2 (fun _ _ => False) (kD k)) (fun ys => Q (.own ys) ε) .mk ε (itemsD v) [] := rfl
theorem wE_lcD {t : Tg} {it c e : IE} : wE Φ (.lcD t it c e j) ε X Q = wE Φ it ε X (kM fun xs ε1 => dictAt ε1 j fun v => lcdF t j v (fun ε2 k => if isNil c = true then k true ε2 else wE Φ c ε2 (fun _ _ => False) (kB k)) (fun ε2 k => wE Φ e ε2 (fun _ _ => False) (kD k)) (fun ys => Q (.own ys) ε1) .mk ε1 xs []) := rfl
theorem wE_srt {a : IE} : wE Φ (.srt a) ε X Q = wE Φ a ε X (kD fun x ε1 => srtF (fun ys => Q (.own ys) ε1) .mk x) := rfl
theorem wS_dnewT : wS Φ (.dnew j true) ε E = pvF E.nx .mk (pv ε j (some (.dT []))) := rfl
theorem wS_dnewI : wS Φ (.dnew j false) ε E = pvF E.nx .mk (pv ε j (some (.dI []))) := rfl
theorem wS_dset {k e : IE} : wS Φ (.dset j k e) ε E = wE Φ e ε E.ex (kD fun v ε1 => dictAt ε1 j fun _ => wE Φ k ε1 E.ex (kD fun y ε2 => dictAt ε2 j fun dv => dPutF dv (fun dv' => pvF E.nx .mk (pv ε2 j (some dv'))) .mk y v)) := rfl
/-- a comprehension that looks at a dict, over the images of as -/
theorem lcd_flt {α : Type} {t : Tg} {v : Val} {C : Ev → (Bool → Ev → Prop) → Prop} {E' : Ev → (D → Ev → Prop) → Prop} {K : List D → Prop} {q : Tok (C, E', K)} (g f : α → D) (p : α → Bool) {as : List α} (c : isDc v = true)
    (h : ∀ a ∈ as, ∀ (k1 : D → Ev → Prop) (k0 : Ev → Prop), (p a = true → ∀ e, gv e j = some v → k1 (f a) e) → (p a = false → ∀ e, gv e j = some v → k0 e) → tgW t (g a) (pv (wipeE (blind ε) (tgs t)) j (some v)) fun ε1 => C ε1 fun b ε2 => if b = true then E' ε2 k1 else k0 ε2)
    (hl : as.length ≤ 16777216) (hk : K ((as.filter p).map f)) : lcdF t j v C E' K q ε (as.map g) [] := by
  have da : ∀ {e : Ev} {k : Val → Prop}, gv e j = some v → k v → dictAt e j k := fun {e k} h1 h2 => by
    unfold dictAt
    rw [h1]
    cases v with
    | dI _ => exact h2
    | dT _ => exact h2
    | _ => cases c
  have go : ∀ (as : List α) (acc : List D), (∀ a ∈ as, ∀ (k1 : D → Ev → Prop) (k0 : Ev → Prop), (p a = true → ∀ e, gv e j = some v → k1 (f a) e) → (p a = false → ∀ e, gv e j = some v → k0 e) → tgW t (g a) (pv (wipeE (blind ε) (tgs t)) j (some v)) fun ε1 => C ε1 fun b ε2 => if b = true then E' ε2 k1 else k0 ε2) →
      acc.length + as.length ≤ 16777216 → K (acc ++ (as.filter p).map f) → lcdW t ε j v C E' (as.map g) acc K := by
    intro as
    induction as with
    | nil =>
      intro acc _ _ hk
      have e : acc ++ (([] : List α).filter p).map f = acc := by simp
      exact e ▸ hk
    | cons a r ih =>
      intro acc h hl hk
      have hl2 : acc.length + (r.length + 1) ≤ 16777216 := hl
      refine h a (List.mem_cons_self ..) (fun y ε3 => dictAt ε3 j fun _ => acc.length < 16777216 ∧ lcdW t ε j v C E' (r.map g) (acc ++ [y]) K) (fun ε2 => dictAt ε2 j fun _ => lcdW t ε j v C E' (r.map g) acc K)
        (fun hp e he => da he ⟨by omega, ih (acc ++ [f a]) (fun y hy => h y (List.mem_cons_of_mem _ hy)) ?_ ?_⟩) fun hp e he => da he (ih acc (fun y hy => h y (List.mem_cons_of_mem _ hy)) (by omega) ?_)
      · simp only [List.length_append, List.length_cons, List.length_nil]
        omega
      · rw [List.filter_cons_of_pos hp] at hk
        simpa using hk
      · rw [List.filter_cons_of_neg (by simp [hp])] at hk
        exact hk
  exact go as [] h (by simpa using hl) (by simpa using hk)
end
theorem pkW_dget (j : Nat) (a b : IE) (ε : Ev) (T : KE → Prop) (k : D → Ev → Prop) : pkW (.dget j a b) ε T k = T (kD k) := rfl
theorem ptW_dget (j : Nat) (a b : IE) (ε : Ev) (T : KE → Prop) (k : Option Int → Ev → Prop) : ptW (.dget j a b) ε T k = T (kD (ptK k)) := rfl
theorem pkW_dix (j : Nat) (a : IE) (ε : Ev) (T : KE → Prop) (k : D → Ev → Prop) : pkW (.dix j a) ε T k = T (kD k) := rfl
theorem ptW_dix (j : Nat) (a : IE) (ε : Ev) (T : KE → Prop) (k : Option Int → Ev → Prop) : ptW (.dix j a) ε T k = T (kD (ptK k)) := rfl
theorem pkW_dsrt (j : Nat) (ε : Ev) (T : KE → Prop) (k : D → Ev → Prop) : pkW (.dsrt j) ε T k = T (kD k) := rfl
theorem ptW_dsrt (j : Nat) (ε : Ev) (T : KE → Prop) (k : Option Int → Ev → Prop) : ptW (.dsrt j) ε T k = T (kD (ptK k)) := rfl
theorem pkW_dlc (t : Tg) (a b : IE) (j : Nat) (ε : Ev) (T : KE → Prop) (k : D → Ev → Prop) : pkW (.dlc t a b j) ε T k = T (kD k) := rfl
theorem ptW_dlc (t : Tg) (a b : IE) (j : Nat) (ε : Ev) (T : KE → Prop) (k : Option Int → Ev → Prop) : ptW (.dlc t a b j) ε T k = T (kD (ptK k)) := rfl
theorem pkW_lcD (t : Tg) (a b c : IE) (j : Nat) (ε : Ev) (T : KE → Prop) (k : D → Ev → Prop) : pkW (.lcD t a b c j) ε T k = T (kD k) := rfl
theorem ptW_lcD (t : Tg) (a b c : IE) (j : Nat) (ε : Ev) (T : KE → Prop) (k : Option Int → Ev → Prop) : ptW (.lcD t a b c j) ε T k = T (kD (ptK k)) := rfl
theorem pkW_srt (a : IE) (ε : Ev) (T : KE → Prop) (k : D → Ev → Prop) : pkW (.srt a) ε T k = T (kD k) := rfl
theorem ptW_srt (a : IE) (ε : Ev) (T : KE → Prop) (k : Option Int → Ev → Prop) : ptW (.srt a) ε T k = T (kD (ptK k)) := rfl
theorem wE_lit {Φ : Fs} {ε : Ev} {X : XP} {Q : KE} {d : D} : wE Φ (.lit d) ε X Q = Q (.d d) ε := rfl
theorem pkW_lit (d : D) (ε : Ev) (T : KE → Prop) (k : D → Ev → Prop) : pkW (.lit d) ε T k = T (kD k) := rfl
theorem ptW_lit (d : D) (ε : Ev) (T : KE → Prop) (k : Option Int → Ev → Prop) : ptW (.lit d) ε T k = T (kD (ptK k)) := rfl
/-! ### a def that borrows, lent a list told anew; list(reversed(xs)); len(set(ints)); {} -/
def callLN (Φ : Fs) (f : Nat) (X : XP) (Q : KE) (_ : Tok (X, Q)) (ds : List D) (ε : Ev) : Prop := Φ f ds (fun c => X c ε) (kT fun v _ => Q v ε)
def kF (Φ : Fs) (f : Nat) (ds : List D) (X : XP) (Q : KE) : KE := fun v ε => match v with
  | .own xs => callLN Φ f X Q .mk (.list xs :: ds) ε
  | _ => False
theorem kF_o {Φ : Fs} {f : Nat} {ds : List D} {X : XP} {Q : KE} {xs : List D} {ε : Ev} : kF Φ f ds X Q (.own xs) ε = callLN Φ f X Q .mk (.list xs :: ds) ε := rfl
theorem wE_callF {Φ : Fs} {f g : Nat} {a : IE} {ds : List D} {ε : Ev} {X : XP} {Q : KE} : wE Φ (.callF f g a ds) ε X Q = wE Φ a ε X (kM fun us ε1 => callF Φ g X (kF Φ f ds X Q) .mk us ε1) := rfl
def rvlK (Q : KE) : D → Ev → Prop := fun x ε1 => match x with
  | .list xs => Q (.own xs.reverse) ε1
  | _ => False
theorem rvlK_l {Q : KE} {xs : List D} {ε : Ev} : rvlK Q (.list xs) ε = Q (.own xs.reverse) ε := rfl
theorem wE_rvl {Φ : Fs} {a : IE} {ε : Ev} {X : XP} {Q : KE} : wE Φ (.rvl a) ε X Q = wE Φ a ε X (kD (rvlK Q)) := rfl
def lsetF (Q : KE) (_ : Tok Q) (xs : List D) (ε : Ev) : Prop := ∃ ns, asInts xs = some ns ∧ ns.Nodup ∧ ns.length ≤ 4000 ∧ Q (.d (.int xs.length)) ε
def lsetK (Q : KE) : D → Ev → Prop := fun x ε1 => match x with
  | .list xs => lsetF Q .mk xs ε1
  | _ => False
theorem lsetK_l {Q : KE} {xs : List D} {ε : Ev} : lsetK Q (.list xs) ε = lsetF Q .mk xs ε := rfl
theorem wE_lset {Φ : Fs} {a : IE} {ε : Ev} {X : XP} {Q : KE} : wE Φ (.lset a) ε X Q = wE Φ a ε X (kD (lsetK Q)) := rfl
theorem wE_emp {Φ : Fs} {ε : Ev} {X : XP} {Q : KE} : wE Φ .emp ε X Q = Q (.d (.dict [])) ε := rfl
theorem pkW_callF (f g : Nat) (a : IE) (ds : List D) (ε : Ev) (T : KE → Prop) (k : D → Ev → Prop) : pkW (.callF f g a ds) ε T k = T (kD k) := rfl
theorem ptW_callF (f g : Nat) (a : IE) (ds : List D) (ε : Ev) (T : KE → Prop) (k : Option Int → Ev → Prop) : ptW (.callF f g a ds) ε T k = T (kD (ptK k)) := rfl
theorem pkW_rvl (a : IE) (ε : Ev) (T : KE → Prop) (k : D → Ev → Prop) : pkW (.rvl a) ε T k = T (kD k) := rfl
theorem ptW_rvl (a : IE) (ε : Ev) (T : KE → Prop) (k : Option Int → Ev → Prop) : ptW (.rvl a) ε T k = T (kD (ptK k)) := rfl
theorem pkW_lset (a : IE) (ε : Ev) (T : KE → Prop) (k : D → Ev → Prop) : pkW (.lset a) ε T k = T (kD k) := rfl
theorem ptW_lset (a : IE) (ε : Ev) (T : KE → Prop) (k : Option Int → Ev → Prop) : ptW (.lset a) ε T k = T (kD (ptK k)) := rfl
theorem pkW_emp (ε : Ev) (T : KE → Prop) (k : D → Ev → Prop) : pkW .emp ε T k = T (kD k) := rfl
theorem ptW_emp (ε : Ev) (T : KE → Prop) (k : Option Int → Ev → Prop) : ptW .emp ε T k = T (kD (ptK k)) := rfl
theorem wE_lcO {Φ : Fs} {t : Tg} {j : Nat} {c e : IE} {ε : Ev} {X : XP} {Q : KE} : wE Φ (.lcO t j c e) ε X Q = ownAt ε j fun L => lcF t (fun ε2 k => if isNil c = true then k true ε2 else wE Φ c ε2 (fun _ _ => False) (kB k)) (fun ε2 k => wE Φ e ε2 (fun _ _ => False) (kD k)) (fun ys => noLs ys = true ∧ ntF ε ∧ Q (.own ys) ε) .mk (pv ε j (some (.d (.list L)))) L [] := rfl
theorem pkW_lcO (t : Tg) (j : Nat) (a b : IE) (ε : Ev) (T : KE → Prop) (k : D → Ev → Prop) : pkW (.lcO t j a b) ε T k = T (kD k) := rfl
theorem ptW_lcO (t : Tg) (j : Nat) (a b : IE) (ε : Ev) (T : KE → Prop) (k : Option Int → Ev → Prop) : ptW (.lcO t j a b) ε T k = T (kD (ptK k)) := rfl
end Rc

/-! Fractions. -/
namespace Rc
open PySem
def fr (q : Rat) : D := .tuple [.int q.num, .int q.den]
/-- top and bottom below 2 ^ a -/
def Sz (a : Nat) (q : Rat) : Prop := Bt a q.num ∧ Bt a q.den
theorem Sz.mono {a b : Nat} {q : Rat} (h : Sz a q) (l : a ≤ b) : Sz b q := ⟨h.1.mono l, h.2.mono l⟩
theorem den0 (q : Rat) : (q.den : Int) ≠ 0 := by have := q.den_nz; omega
theorem denP (q : Rat) : (0 : Int) < q.den := by have := q.den_pos; omega
def gsg (t b : Int) : Int := if b < 0 then 0 - (Int.gcd t b : Int) else Int.gcd t b
theorem gsg0 {t b : Int} (hb : b ≠ 0) : gsg t b ≠ 0 := by
  unfold gsg
  have := Int.gcd_pos_of_ne_zero_right t hb
  split <;> omega
theorem fr_num {t b : Int} (hb : b ≠ 0) : t.fdiv (gsg t b) = (Rat.divInt t b).num := by
  have d : (Int.gcd t b : Int) ∣ t := Int.gcd_dvd_left t b
  rw [Rat.num_divInt, Int.gcd_comm b t]
  unfold gsg
  split
  · rename_i h
    have d2 : (0 - (Int.gcd t b : Int)) ∣ t := by rw [Int.zero_sub]; exact Int.neg_dvd.mpr d
    rw [Int.fdiv_eq_ediv_of_dvd d2, Int.zero_sub, Int.ediv_neg, Int.sign_eq_neg_one_of_neg h]
    obtain ⟨u, hu⟩ := d
    have g0 : (Int.gcd t b : Int) ≠ 0 := by have := Int.gcd_pos_of_ne_zero_right t hb; omega
    generalize (Int.gcd t b : Int) = g at *
    subst hu
    rw [Int.mul_ediv_cancel_left _ g0, show -1 * (g * u) = g * (-u) by rw [Int.mul_neg, Int.neg_one_mul], Int.mul_ediv_cancel_left _ g0]
  · rename_i h
    rw [Int.fdiv_eq_ediv_of_dvd d, Int.sign_eq_one_of_pos (by omega), Int.one_mul]
theorem fr_den {t b : Int} (hb : b ≠ 0) : b.fdiv (gsg t b) = (Rat.divInt t b).den := by
  have d : (Int.gcd t b : Int) ∣ b := Int.gcd_dvd_right t b
  rw [Rat.den_divInt, Int.gcd_comm b t, if_neg hb, Int.natCast_ediv]
  unfold gsg
  split
  · rename_i h
    have d2 : (0 - (Int.gcd t b : Int)) ∣ b := by rw [Int.zero_sub]; exact Int.neg_dvd.mpr d
    rw [Int.fdiv_eq_ediv_of_dvd d2, Int.zero_sub, Int.ediv_neg]
    obtain ⟨u, hu⟩ := d
    have g0 : (Int.gcd t b : Int) ≠ 0 := by have := Int.gcd_pos_of_ne_zero_right t hb; omega
    have e : (b.natAbs : Int) = -b := by omega
    rw [e]
    generalize (Int.gcd t b : Int) = g at *
    subst hu
    rw [Int.mul_ediv_cancel_left _ g0, ← Int.mul_neg, Int.mul_ediv_cancel_left _ g0]
  · rename_i h
    rw [Int.fdiv_eq_ediv_of_dvd d]
    have e : (b.natAbs : Int) = b := by omega
    rw [e]
theorem bt_div {a : Nat} {x g : Int} (h : Bt a x) : Bt a (x / g) := h.le (Int.natAbs_ediv_le_natAbs x g)
theorem sz_divInt {a : Nat} {t b : Int} (hb : b ≠ 0) (h1 : Bt a t) (h2 : Bt a b) : Sz a (Rat.divInt t b) := by
  refine ⟨?_, ?_⟩
  · rw [Rat.num_divInt]
    refine bt_div (h1.le ?_)
    rw [Int.natAbs_mul, Int.natAbs_sign_of_ne_zero hb, Nat.one_mul]
    exact Nat.le_refl _
  · rw [Rat.den_divInt, if_neg hb]
    exact h2.le (Nat.div_le_self _ _)
theorem gsgB {a : Nat} {t b : Int} (hb : b ≠ 0) (h : Bt a b) : Bt a (gsg t b) := by
  refine h.le ?_
  have := Nat.le_of_dvd (by omega) (Int.gcd_dvd_natAbs_right t b)
  unfold gsg
  split <;> omega
theorem gsgL {t b : Int} (hb : b ≠ 0) (h : Bt 9000 b) : (gsg t b).natAbs.log2 < 9000 := (gsgB hb h).log (gsg0 hb)
theorem frac_add (p q : Rat) : Rat.divInt (p.num * q.den + q.num * p.den) (p.den * q.den) = p + q := by
  rw [Rat.add_def', ← Rat.divInt_ofNat, Int.natCast_mul]
theorem frac_sub (p q : Rat) : Rat.divInt (p.num * q.den - q.num * p.den) (p.den * q.den) = p - q := by
  rw [Rat.sub_def', ← Rat.divInt_ofNat, Int.natCast_mul]
theorem frac_mul (p q : Rat) : Rat.divInt (p.num * q.num) (p.den * q.den) = p * q := by
  rw [Rat.mul_def', ← Rat.divInt_ofNat, Int.natCast_mul]
theorem frac_div (p q : Rat) : Rat.divInt (p.num * q.den) (p.den * q.num) = p / q := by
  rw [Rat.div_def, Rat.inv_def, ← Rat.divInt_mul_divInt, Rat.num_divInt_den]
theorem frac_self (p : Rat) : Rat.divInt p.num p.den = p := Rat.num_divInt_den p
theorem fr_eq {p q : Rat} : PyData.eqv (fr p) (fr q) = decide (p = q) := by
  show PyData.eqvAll [.int p.num, .int p.den] [.int q.num, .int q.den] = _
  rw [show [PyData.int p.num, .int p.den] = [p.num, (p.den : Int)].map .int from rfl, show [PyData.int q.num, .int q.den] = [q.num, (q.den : Int)].map .int from rfl, eqvInts]
  by_cases h : p = q
  · subst h
    rw [decide_eq_true rfl, decide_eq_true rfl]
  · rw [decide_eq_false h, decide_eq_false]
    intro e
    have e1 : p.num = q.num ∧ (p.den : Int) = q.den := by simpa using e
    exact h (Rat.ext e1.1 (by omega))
theorem fr_sh (p : Rat) : SeqAt.shaped (fr p) = true := shapedT [p.num, (p.den : Int)]
theorem num0 {q : Rat} : q.num = 0 ↔ q = 0 := Rat.num_eq_zero
theorem fr_c {p : Rat} {n d : Int} (h1 : p.num = n) (h2 : (p.den : Int) = d) : PyData.tuple [.int n, .int d] = fr p := by
  rw [← h1, ← h2]
  rfl
theorem fr0 : PyData.tuple [.int 0, .int 1] = fr 0 := rfl
theorem fr1 : PyData.tuple [.int 1, .int 1] = fr 1 := rfl
end Rc
namespace Rc
open PySem
theorem mul_den0 (p q : Rat) : (p.den : Int) * q.den ≠ 0 := Int.mul_ne_zero (den0 p) (den0 q)
theorem sz_add {a : Nat} {p q : Rat} (h : Sz a p) (g : Sz a q) : Sz (2 * a + 1) (p + q) := by
  rw [← frac_add]
  exact sz_divInt (mul_den0 p q) ((Bt.add (Bt.mul h.1 g.2) (Bt.mul g.1 h.2)).mono (by omega)) ((Bt.mul h.2 g.2).mono (by omega))
theorem sz_sub {a : Nat} {p q : Rat} (h : Sz a p) (g : Sz a q) : Sz (2 * a + 1) (p - q) := by
  rw [← frac_sub]
  exact sz_divInt (mul_den0 p q) ((Bt.sub (Bt.mul h.1 g.2) (Bt.mul g.1 h.2)).mono (by omega)) ((Bt.mul h.2 g.2).mono (by omega))
theorem sz_mul {a : Nat} {p q : Rat} (h : Sz a p) (g : Sz a q) : Sz (2 * a + 1) (p * q) := by
  rw [← frac_mul]
  exact sz_divInt (mul_den0 p q) ((Bt.mul h.1 g.1).mono (by omega)) ((Bt.mul h.2 g.2).mono (by omega))
theorem sz_div {a : Nat} {p q : Rat} (h : Sz a p) (g : Sz a q) (q0 : q ≠ 0) : Sz (2 * a + 1) (p / q) := by
  rw [← frac_div]
  exact sz_divInt (Int.mul_ne_zero (den0 p) (fun e => q0 (num0.mp e))) ((Bt.mul h.1 g.2).mono (by omega)) ((Bt.mul h.2 g.1).mono (by omega))
theorem sz0 {a : Nat} (h : 1 ≤ a) : Sz a 0 := ⟨(bt_c (a := 1) (by decide)).mono h, (bt_c (a := 1) (by decide)).mono h⟩
theorem sz1 {a : Nat} (h : 1 ≤ a) : Sz a 1 := ⟨(bt_c (a := 1) (by decide)).mono h, (bt_c (a := 1) (by decide)).mono h⟩
theorem ix_fr0 {p : Rat} {Q : D → Prop} {t : Tok Q} : ixF Q t (fr p) (.int 0) = Q (.int p.num) := by
  show (∃ v, L2.atI [PyData.int p.num, .int p.den] 0 = some v ∧ Q v) = _
  simp [L2.atI, L2.ixN]
theorem ix_fr1 {p : Rat} {Q : D → Prop} {t : Tok Q} : ixF Q t (fr p) (.int 1) = Q (.int p.den) := by
  show (∃ v, L2.atI [PyData.int p.num, .int p.den] 1 = some v ∧ Q v) = _
  simp [L2.atI, L2.ixN]
theorem cmp_fr {p q : Rat} {Q : Bool → Prop} : cmpW .Eq (fr p) (fr q) Q = Q (decide (p = q)) := by
  show (SeqAt.shaped (fr p) = true ∧ SeqAt.shaped (fr q) = true ∧ Q (PyData.eqv (fr p) (fr q))) = _
  rw [fr_sh, fr_sh, fr_eq]
  simp
theorem cmp_frn {p q : Rat} {Q : Bool → Prop} : cmpW .NotEq (fr p) (fr q) Q = Q (!decide (p = q)) := by
  show (SeqAt.shaped (fr p) = true ∧ SeqAt.shaped (fr q) = true ∧ Q (!PyData.eqv (fr p) (fr q))) = _
  rw [fr_sh, fr_sh, fr_eq]
  simp
theorem cmp_fr0 {p : Rat} {Q : Bool → Prop} : cmpW .NotEq (fr p) (.tuple [.int 0, .int 1]) Q = Q (!decide (p = 0)) := cmp_frn (q := 0)
end Rc
namespace Rc
theorem lt_fr {p q : Rat} : decide (p.num * q.den < q.num * p.den) = decide (p < q) := by
  rw [decide_eq_decide]
  exact (Rat.lt_iff p q).symm
end Rc
namespace Rc
theorem s10 : small64 10 = True := eq_true small10
end Rc
namespace Rc
theorem la_2 : ((Int.natAbs 2).log2 < 9000) = True := eq_true (by decide)
theorem la_3 : ((Int.natAbs 3).log2 < 9000) = True := eq_true (by decide)
theorem la_4 : ((Int.natAbs 4).log2 < 9000) = True := eq_true (by decide)
theorem la_5 : ((Int.natAbs 5).log2 < 9000) = True := eq_true (by decide)
theorem la_6 : ((Int.natAbs 6).log2 < 9000) = True := eq_true (by decide)
theorem la_7 : ((Int.natAbs 7).log2 < 9000) = True := eq_true (by decide)
theorem la_8 : ((Int.natAbs 8).log2 < 9000) = True := eq_true (by decide)
theorem la_9 : ((Int.natAbs 9).log2 < 9000) = True := eq_true (by decide)
theorem la_10 : ((Int.natAbs 10).log2 < 9000) = True := eq_true (by decide)
theorem la_11 : ((Int.natAbs 11).log2 < 9000) = True := eq_true (by decide)
theorem la_12 : ((Int.natAbs 12).log2 < 9000) = True := eq_true (by decide)
theorem la_13 : ((Int.natAbs 13).log2 < 9000) = True := eq_true (by decide)
theorem la_14 : ((Int.natAbs 14).log2 < 9000) = True := eq_true (by decide)
theorem la_15 : ((Int.natAbs 15).log2 < 9000) = True := eq_true (by decide)
theorem la_16 : ((Int.natAbs 16).log2 < 9000) = True := eq_true (by decide)
theorem la_18 : ((Int.natAbs 18).log2 < 9000) = True := eq_true (by decide)
theorem la_19 : ((Int.natAbs 19).log2 < 9000) = True := eq_true (by decide)
theorem la_20 : ((Int.natAbs 20).log2 < 9000) = True := eq_true (by decide)
theorem la_21 : ((Int.natAbs 21).log2 < 9000) = True := eq_true (by decide)
theorem la_24 : ((Int.natAbs 24).log2 < 9000) = True := eq_true (by decide)
theorem la_25 : ((Int.natAbs 25).log2 < 9000) = True := eq_true (by decide)
theorem la_28 : ((Int.natAbs 28).log2 < 9000) = True := eq_true (by decide)
theorem la_30 : ((Int.natAbs 30).log2 < 9000) = True := eq_true (by decide)
theorem la_35 : ((Int.natAbs 35).log2 < 9000) = True := eq_true (by decide)
theorem la_36 : ((Int.natAbs 36).log2 < 9000) = True := eq_true (by decide)
theorem la_39 : ((Int.natAbs 39).log2 < 9000) = True := eq_true (by decide)
theorem la_40 : ((Int.natAbs 40).log2 < 9000) = True := eq_true (by decide)
theorem la_41 : ((Int.natAbs 41).log2 < 9000) = True := eq_true (by decide)
theorem la_44 : ((Int.natAbs 44).log2 < 9000) = True := eq_true (by decide)
theorem la_45 : ((Int.natAbs 45).log2 < 9000) = True := eq_true (by decide)
theorem la_49 : ((Int.natAbs 49).log2 < 9000) = True := eq_true (by decide)
theorem la_50 : ((Int.natAbs 50).log2 < 9000) = True := eq_true (by decide)
theorem la_52 : ((Int.natAbs 52).log2 < 9000) = True := eq_true (by decide)
theorem la_54 : ((Int.natAbs 54).log2 < 9000) = True := eq_true (by decide)
theorem la_57 : ((Int.natAbs 57).log2 < 9000) = True := eq_true (by decide)
theorem la_63 : ((Int.natAbs 63).log2 < 9000) = True := eq_true (by decide)
theorem la_64 : ((Int.natAbs 64).log2 < 9000) = True := eq_true (by decide)
theorem la_65 : ((Int.natAbs 65).log2 < 9000) = True := eq_true (by decide)
theorem la_72 : ((Int.natAbs 72).log2 < 9000) = True := eq_true (by decide)
theorem la_78 : ((Int.natAbs 78).log2 < 9000) = True := eq_true (by decide)
theorem la_81 : ((Int.natAbs 81).log2 < 9000) = True := eq_true (by decide)
theorem la_90 : ((Int.natAbs 90).log2 < 9000) = True := eq_true (by decide)
theorem la_100 : ((Int.natAbs 100).log2 < 9000) = True := eq_true (by decide)
theorem la_121 : ((Int.natAbs 121).log2 < 9000) = True := eq_true (by decide)
theorem la_123 : ((Int.natAbs 123).log2 < 9000) = True := eq_true (by decide)
theorem la_125 : ((Int.natAbs 125).log2 < 9000) = True := eq_true (by decide)
theorem la_126 : ((Int.natAbs 126).log2 < 9000) = True := eq_true (by decide)
theorem la_144 : ((Int.natAbs 144).log2 < 9000) = True := eq_true (by decide)
theorem la_162 : ((Int.natAbs 162).log2 < 9000) = True := eq_true (by decide)
theorem la_168 : ((Int.natAbs 168).log2 < 9000) = True := eq_true (by decide)
theorem la_176 : ((Int.natAbs 176).log2 < 9000) = True := eq_true (by decide)
theorem la_196 : ((Int.natAbs 196).log2 < 9000) = True := eq_true (by decide)
theorem la_200 : ((Int.natAbs 200).log2 < 9000) = True := eq_true (by decide)
theorem la_216 : ((Int.natAbs 216).log2 < 9000) = True := eq_true (by decide)
theorem la_240 : ((Int.natAbs 240).log2 < 9000) = True := eq_true (by decide)
theorem la_360 : ((Int.natAbs 360).log2 < 9000) = True := eq_true (by decide)
theorem la_369 : ((Int.natAbs 369).log2 < 9000) = True := eq_true (by decide)
theorem la_400 : ((Int.natAbs 400).log2 < 9000) = True := eq_true (by decide)
theorem la_402 : ((Int.natAbs 402).log2 < 9000) = True := eq_true (by decide)
theorem la_441 : ((Int.natAbs 441).log2 < 9000) = True := eq_true (by decide)
theorem la_540 : ((Int.natAbs 540).log2 < 9000) = True := eq_true (by decide)
theorem la_550 : ((Int.natAbs 550).log2 < 9000) = True := eq_true (by decide)
theorem la_900 : ((Int.natAbs 900).log2 < 9000) = True := eq_true (by decide)
theorem la_907 : ((Int.natAbs 907).log2 < 9000) = True := eq_true (by decide)
theorem la_997 : ((Int.natAbs 997).log2 < 9000) = True := eq_true (by decide)
theorem la_1009 : ((Int.natAbs 1009).log2 < 9000) = True := eq_true (by decide)
theorem la_1100 : ((Int.natAbs 1100).log2 < 9000) = True := eq_true (by decide)
theorem la_1152 : ((Int.natAbs 1152).log2 < 9000) = True := eq_true (by decide)
theorem la_1440 : ((Int.natAbs 1440).log2 < 9000) = True := eq_true (by decide)
theorem la_1764 : ((Int.natAbs 1764).log2 < 9000) = True := eq_true (by decide)
theorem la_2001 : ((Int.natAbs 2001).log2 < 9000) = True := eq_true (by decide)
theorem la_2003 : ((Int.natAbs 2003).log2 < 9000) = True := eq_true (by decide)
theorem la_2200 : ((Int.natAbs 2200).log2 < 9000) = True := eq_true (by decide)
theorem la_3150 : ((Int.natAbs 3150).log2 < 9000) = True := eq_true (by decide)
theorem la_4099 : ((Int.natAbs 4099).log2 < 9000) = True := eq_true (by decide)
theorem la_16807 : ((Int.natAbs 16807).log2 < 9000) = True := eq_true (by decide)
theorem la_22500 : ((Int.natAbs 22500).log2 < 9000) = True := eq_true (by decide)
theorem la_24200 : ((Int.natAbs 24200).log2 < 9000) = True := eq_true (by decide)
theorem la_72600 : ((Int.natAbs 72600).log2 < 9000) = True := eq_true (by decide)
end Rc
namespace Rc
open PySem
theorem cmp_bb {a b : Bool} {Q : Bool → Prop} : cmpW .Eq (.bool a) (.bool b) Q = Q (a == b) := by
  show (SeqAt.shaped (.bool a) = true ∧ SeqAt.shaped (.bool b) = true ∧ Q (a == b)) = _
  exact propext ⟨fun h => h.2.2, fun h => ⟨rfl, rfl, h⟩⟩
theorem cmp_bbn {a b : Bool} {Q : Bool → Prop} : cmpW .NotEq (.bool a) (.bool b) Q = Q (!(a == b)) := by
  show (SeqAt.shaped (.bool a) = true ∧ SeqAt.shaped (.bool b) = true ∧ Q (!(a == b))) = _
  exact propext ⟨fun h => h.2.2, fun h => ⟨rfl, rfl, h⟩⟩
theorem num_pos {p : Rat} : 0 < p.num ↔ 0 < p := by
  rw [Rat.lt_iff]
  simp
theorem num_neg {p : Rat} : p.num < 0 ↔ p < 0 := by
  rw [Rat.lt_iff]
  simp
end Rc
namespace Rc
open PySem
theorem cmp_ll {a b : List D} {Q : Bool → Prop} : cmpW .Eq (.list a) (.list b) Q = (SeqAt.shaped (.list a) = true ∧ SeqAt.shaped (.list b) = true ∧ Q (PyData.eqv (.list a) (.list b))) := rfl
theorem cmp_lln {a b : List D} {Q : Bool → Prop} : cmpW .NotEq (.list a) (.list b) Q = (SeqAt.shaped (.list a) = true ∧ SeqAt.shaped (.list b) = true ∧ Q (!PyData.eqv (.list a) (.list b))) := rfl
theorem cmp_tt {a b : List D} {Q : Bool → Prop} : cmpW .Eq (.tuple a) (.tuple b) Q = (SeqAt.shaped (.tuple a) = true ∧ SeqAt.shaped (.tuple b) = true ∧ Q (PyData.eqv (.tuple a) (.tuple b))) := rfl
theorem cmp_ttn {a b : List D} {Q : Bool → Prop} : cmpW .NotEq (.tuple a) (.tuple b) Q = (SeqAt.shaped (.tuple a) = true ∧ SeqAt.shaped (.tuple b) = true ∧ Q (!PyData.eqv (.tuple a) (.tuple b))) := rfl
end Rc

/-! Whole numbers, polynomials as lists. -/
namespace Rc
open PySem
def isW : D → Bool
  | .int _ => true
  | _ => false
theorem asInts_some : ∀ {xs : List D} {ns : List Int}, asInts xs = some ns → xs = ns.map .int
  | [], ns, h => by cases h; rfl
  | .int i :: r, ns, h => by
    have h2 : (asInts r).map (i :: ·) = some ns := h
    cases e : asInts r with
    | none => rw [e] at h2; cases h2
    | some ms =>
      rw [e] at h2
      cases h2
      rw [asInts_some e]
      rfl
  | .none :: _, _, h => by cases h
  | .bool _ :: _, _, h => by cases h
  | .str _ :: _, _, h => by cases h
  | .list _ :: _, _, h => by cases h
  | .tuple _ :: _, _, h => by cases h
  | .dict _ :: _, _, h => by cases h
theorem all_isW : ∀ xs : List D, (xs.map isW).all id = (asInts xs).isSome
  | [] => rfl
  | x :: r => by
    have ih := all_isW r
    cases x with
    | int i =>
      show (true && (r.map isW).all id) = ((asInts r).map (i :: ·)).isSome
      rw [ih]
      cases asInts r <;> rfl
    | _ => rfl
theorem asBools_map {α : Type} (f : α → Bool) : ∀ xs : List α, asBools (xs.map fun d => PyData.bool (f d)) = some (xs.map f)
  | [] => rfl
  | x :: r => by
    show (asBools (r.map fun d => PyData.bool (f d))).map (f x :: ·) = _
    rw [asBools_map f r]
    rfl
def isPolyV : D → Bool
  | .tuple xs => match asInts xs with
    | some ns => decide (ns = []) || decide (ns.getLast? ≠ some 0)
    | none => false
  | _ => false
theorem atI_last {ns : List Int} (h : ns ≠ []) : L2.atI (ns.map PyData.int) (-1) = some (.int (ns.getLast h)) := by
  have hl : 0 < ns.length := List.length_pos_iff.mpr h
  unfold L2.atI L2.ixN
  rw [List.length_map]
  rw [if_neg (by decide), if_pos (by omega)]
  show (ns.map PyData.int)[((-1 : Int) + ns.length).toNat]? = _
  rw [show ((-1 : Int) + ns.length).toNat = ns.length - 1 by omega, List.getElem?_map, ← List.getLast?_eq_getElem?, List.getLast?_eq_some_getLast h]
  rfl
/-- without the noughts at the end -/
def trim (xs : List Int) : List Int := (xs.reverse.dropWhile (· == 0)).reverse
theorem trim_snoc0 (xs : List Int) : trim (xs ++ [0]) = trim xs := by
  unfold trim
  rw [List.reverse_append]
  simp
theorem trim_snoc {xs : List Int} {x : Int} (h : x ≠ 0) : trim (xs ++ [x]) = xs ++ [x] := by
  unfold trim
  rw [List.reverse_append]
  simp [List.dropWhile_cons, h]
def tz (xs : List Int) : D := .tuple (xs.map .int)
theorem cut_take {α : Type} {xs : List α} {m : Nat} (h : m ≤ xs.length) : cut xs none (some (m : Int)) = xs.take m := by
  unfold cut
  rw [HT.sIx_none, HT.sIx_nat, Nat.min_eq_left h]
  simp
theorem bitAnd_le {i m : Int} (h : 0 < i) (hm : 0 ≤ m := by decide) : 0 ≤ Builtin.bitAnd i m ∧ Builtin.bitAnd i m ≤ m := by
  obtain ⟨a, rfl⟩ := Int.eq_ofNat_of_zero_le (show 0 ≤ i by omega)
  obtain ⟨b, rfl⟩ := Int.eq_ofNat_of_zero_le hm
  show 0 ≤ ((a &&& b : Nat) : Int) ∧ ((a &&& b : Nat) : Int) ≤ b
  have := @Nat.and_le_right a b
  omega
theorem lc_goP {α : Type} {t : Tg} {ε : Ev} {E : Ev → (D → Ev → Prop) → Prop} (g : α → D) (P : D → Prop) : ∀ (as : List α) (acc : List D) (K : List D → Prop),
    (∀ a ∈ as, ∀ k : D → Ev → Prop, (∀ y e, P y → k y e) → tgW t (g a) (wipeE (blind ε) (tgs t)) fun ε1 => E ε1 k) → acc.length + as.length ≤ 16777216 →
    (∀ ys : List D, ys.length = as.length → (∀ y ∈ ys, P y) → K (acc ++ ys)) → lcW t ε (fun ε2 k => k true ε2) E (as.map g) acc K
  | [], acc, K, _, _, hk => by
    have := hk [] rfl (fun y hy => by cases hy)
    rw [List.append_nil] at this
    exact this
  | a :: r, acc, K, h, hl, hk => by
    have hl2 : acc.length + (r.length + 1) ≤ 16777216 := hl
    refine h a (List.mem_cons_self ..) (fun y e => acc.length < 16777216 ∧ lcW t ε (fun ε2 k => k true ε2) E (r.map g) (acc ++ [y]) K) fun y e hy => ⟨by omega, lc_goP g P r (acc ++ [y]) K (fun z hz => h z (List.mem_cons_of_mem _ hz)) ?_ fun ys hys hp => ?_⟩
    · simp only [List.length_append, List.length_cons, List.length_nil]
      omega
    · have := hk (y :: ys) (by simp [hys]) (fun z hz => by
        rcases List.mem_cons.mp hz with rfl | hz
        · exact hy
        · exact hp z hz)
      simpa using this
/-- a comprehension that tells whole numbers, not told which -/
theorem lc_ints {α : Type} {t : Tg} {ε : Ev} {E : Ev → (D → Ev → Prop) → Prop} (g : α → D) (P : Int → Prop) {as : List α} {K : List D → Prop} {q : Tok ((fun ε2 k => k true ε2 : Ev → (Bool → Ev → Prop) → Prop), E, K)}
    (h : ∀ a ∈ as, ∀ k : D → Ev → Prop, (∀ i e, P i → k (.int i) e) → tgW t (g a) (wipeE (blind ε) (tgs t)) fun ε1 => E ε1 k) (hl : as.length ≤ 16777216)
    (hk : ∀ is : List Int, is.length = as.length → (∀ i ∈ is, P i) → K (is.map .int)) : lcF t (fun ε2 k => k true ε2) E K q ε (as.map g) [] := by
  refine lc_goP g (fun y => ∃ i, y = .int i ∧ P i) as [] K (fun a ha k hk => h a ha k fun i e hi => hk _ e ⟨i, rfl, hi⟩) (by simpa using hl) fun ys hys hp => ?_
  have : ∀ ys : List D, (∀ y ∈ ys, ∃ i, y = .int i ∧ P i) → ∃ is : List Int, ys = is.map .int ∧ ∀ i ∈ is, P i := by
    intro ys
    induction ys with
    | nil => exact fun _ => ⟨[], rfl, fun i hi => by cases hi⟩
    | cons y r ih =>
      intro h
      obtain ⟨i, rfl, hi⟩ := h y (List.mem_cons_self ..)
      obtain ⟨is, rfl, hs⟩ := ih fun z hz => h z (List.mem_cons_of_mem _ hz)
      exact ⟨i :: is, rfl, fun j hj => by
        rcases List.mem_cons.mp hj with rfl | hj
        · exact hi
        · exact hs j hj⟩
  obtain ⟨is, rfl, hs⟩ := this ys hp
  exact hk is (by simpa using hys) hs
end Rc
namespace Rc
open PySem
theorem isPolyV_n {xs : List D} (e : asInts xs = none) : isPolyV (.tuple xs) = false := by
  show (match asInts xs with
    | some ns => decide (ns = []) || decide (ns.getLast? ≠ some 0)
    | none => false) = false
  rw [e]
theorem isPolyV_s {xs : List D} {ns : List Int} (e : asInts xs = some ns) : isPolyV (.tuple xs) = (decide (ns = []) || decide (ns.getLast? ≠ some 0)) := by
  show (match asInts xs with
    | some ns => decide (ns = []) || decide (ns.getLast? ≠ some 0)
    | none => false) = _
  rw [e]
theorem asInts_map : ∀ ns : List Int, asInts (ns.map .int) = some ns
  | [] => rfl
  | i :: r => by
    show (asInts (r.map .int)).map (i :: ·) = _
    rw [asInts_map r]
    rfl
end Rc
namespace Rc
open PySem
theorem rep0 (n : Nat) : (List.replicate n [PyData.int 0]).flatten = (List.replicate n (0 : Int)).map .int := by
  simp [List.map_replicate]
theorem trim_len (xs : List Int) : (trim xs).length ≤ xs.length := by
  unfold trim
  rw [List.length_reverse]
  have := (List.dropWhile_suffix (l := xs.reverse) (· == (0 : Int))).length_le
  rw [List.length_reverse] at this
  exact this
theorem trim_last (xs : List Int) : (trim xs).getLast? ≠ some 0 := by
  unfold trim
  rw [List.getLast?_reverse]
  intro h
  have := List.head?_dropWhile_not (· == (0 : Int)) xs.reverse
  rw [h] at this
  simp at this
theorem isPolyV_tz {xs : List Int} : isPolyV (.tuple ((trim xs).map .int)) = true := by
  rw [isPolyV_s (asInts_map _)]
  simp [trim_last]
theorem shapedB {α : Type} (f : α → Bool) (xs : List α) : SeqAt.shaped (.list (xs.map fun x => .bool (f x))) = true := shaped_of (shLst (n := 0) fun x h => by
  obtain ⟨i, _, rfl⟩ := List.mem_map.mp h
  exact ⟨rfl, Nat.zero_le _⟩) (by decide)
theorem eqvB {α : Type} (f : α → Bool) : ∀ xs : List α, PyData.eqv (.list (xs.map fun x => .bool (f x))) (.list (xs.map fun x => .bool (f x))) = true
  | [] => rfl
  | x :: r => by
    have ih : PyData.eqvAll (r.map fun x => PyData.bool (f x)) (r.map fun x => PyData.bool (f x)) = true := eqvB f r
    show ((f x == f x) && PyData.eqvAll (r.map fun x => PyData.bool (f x)) (r.map fun x => PyData.bool (f x))) = true
    rw [ih]
    simp
end Rc
namespace Rc
open PySem
theorem bi_list_any {xs : List D} {d : D} {Q : Val → Prop} (hd : d = .list xs ∨ d = .tuple xs) : biW .list [d] Q = Q (.own xs) := by
  rcases hd with rfl | rfl <;> rfl
end Rc
namespace Rc
open PySem
/-- in lowest terms, with a bottom above 0 -/
def fracV : D → Bool
  | .tuple [.int a, .int b] => decide (0 < b) && decide (Int.gcd a b = 1)
  | _ => false
theorem fracV_len {xs : List D} (h : xs.length ≠ 2) : fracV (.tuple xs) = false := by
  unfold fracV
  split
  · rename_i a b e
    cases e
    exact absurd rfl h
  · rfl
theorem fracV_l {x y : D} (h : isW x = false) : fracV (.tuple [x, y]) = false := by
  cases x <;> first | rfl | cases h
theorem fracV_r {x : Int} {y : D} (h : isW y = false) : fracV (.tuple [.int x, y]) = false := by
  cases y <;> first | rfl | cases h
end Rc
namespace Rc
theorem cut_takeAny {α : Type} {xs : List α} {m : Nat} : cut xs none (some (m : Int)) = xs.take m := by
  unfold cut
  rw [HT.sIx_none, HT.sIx_nat]
  by_cases h : m ≤ xs.length
  · rw [Nat.min_eq_left h]
    simp
  · rw [Nat.min_eq_right (by omega)]
    simp
    rw [List.take_of_length_le (by omega)]
end Rc

/-! Polynomials: lists of weights by what they have at each place. -/
namespace Rc
open PySem
def cf (xs : List Int) (n : Nat) : Int := xs.getD n 0
theorem cf_nil (n : Nat) : cf [] n = 0 := rfl
theorem cf_0 (x : Int) (r : List Int) : cf (x :: r) 0 = x := rfl
theorem cf_s (x : Int) (r : List Int) (n : Nat) : cf (x :: r) (n + 1) = cf r n := rfl
def trimR : List Int → List Int
  | [] => []
  | x :: r => match trimR r with
    | [] => if x = 0 then [] else [x]
    | y :: t => x :: y :: t
theorem trim_cons (x : Int) (r : List Int) : trim (x :: r) = match trim r with
    | [] => if x = 0 then [] else [x]
    | y :: t => x :: y :: t := by
  unfold trim
  rw [List.reverse_cons, List.dropWhile_append]
  cases h : r.reverse.dropWhile (· == (0 : Int)) with
  | nil =>
    simp only [List.isEmpty_nil, if_true, List.reverse_nil]
    by_cases hx : x = 0
    · subst hx
      rfl
    · have : ((x == (0 : Int)) = false) := by simpa using hx
      simp [List.dropWhile_cons, this, hx]
  | cons a l =>
    simp only [List.isEmpty_cons, Bool.false_eq_true, if_false, List.reverse_append, List.reverse_cons, List.reverse_nil, List.nil_append, List.singleton_append]
    cases e : l.reverse ++ [a] with
    | nil => simp at e
    | cons y t => rfl
theorem trim_eq : ∀ xs : List Int, trim xs = trimR xs
  | [] => rfl
  | x :: r => by
    rw [trim_cons, trim_eq r]
    rfl
theorem trimR_nil : ∀ {xs : List Int}, (∀ n, cf xs n = 0) → trimR xs = []
  | [], _ => rfl
  | x :: r, h => by
    have h0 : x = 0 := h 0
    have h1 := trimR_nil (xs := r) fun n => h (n + 1)
    unfold trimR
    rw [h1, if_pos h0]
theorem cf_trimR : ∀ (xs : List Int) (n : Nat), cf (trimR xs) n = cf xs n
  | [], _ => rfl
  | x :: r, n => by
    have ih := cf_trimR r
    unfold trimR
    cases e : trimR r with
    | nil =>
      rw [e] at ih
      cases n with
      | zero =>
        by_cases hx : x = 0
        · rw [if_pos hx, cf_0, hx]
          rfl
        · rw [if_neg hx, cf_0, cf_0]
      | succ n =>
        rw [cf_s, ← ih n]
        by_cases hx : x = 0
        · rw [if_pos hx]
          rfl
        · rw [if_neg hx]
          rfl
    | cons y t =>
      rw [e] at ih
      cases n with
      | zero => rfl
      | succ n => exact ih n
theorem trimR_ext : ∀ {xs ys : List Int}, (∀ n, cf xs n = cf ys n) → trimR xs = trimR ys
  | [], ys, h => by rw [trimR_nil (xs := ys) fun n => (h n).symm.trans (cf_nil n)]; rfl
  | x :: r, [], h => by rw [trimR_nil (xs := x :: r) fun n => h n]; rfl
  | x :: r, y :: t, h => by
    have e : x = y := h 0
    have ih := trimR_ext (xs := r) (ys := t) fun n => h (n + 1)
    subst e
    unfold trimR
    rw [ih]
theorem trim_ext {xs ys : List Int} (h : ∀ n, cf xs n = cf ys n) : trim xs = trim ys := by
  rw [trim_eq, trim_eq, trimR_ext h]
theorem cf_trim (xs : List Int) (n : Nat) : cf (trim xs) n = cf xs n := by rw [trim_eq, cf_trimR]
theorem trim_trim (xs : List Int) : trim (trim xs) = trim xs := trim_ext (cf_trim xs)
/-- in plain form -/
def Pn (xs : List Int) : Prop := trim xs = xs
theorem pn_trim (xs : List Int) : Pn (trim xs) := trim_trim xs
theorem pn_ext {xs ys : List Int} (hx : Pn xs) (hy : Pn ys) (h : ∀ n, cf xs n = cf ys n) : xs = ys := by
  rw [← hx, ← hy, trim_ext h]
theorem cf_ge {xs : List Int} {n : Nat} (h : xs.length ≤ n) : cf xs n = 0 := by
  unfold cf
  rw [List.getD_eq_getElem?_getD, List.getElem?_eq_none h]
  rfl
theorem cf_lt {xs : List Int} {n : Nat} (h : n < xs.length) : cf xs n = xs[n] := by
  unfold cf
  rw [List.getD_eq_getElem?_getD, List.getElem?_eq_getElem h]
  rfl
/-! ### sums, multiples, products by places -/
def pS (f g : Nat → Int) : Nat → Int := fun n => f n + g n
def pK (x : Int) (f : Nat → Int) : Nat → Int := fun n => x * f n
def sh (k : Nat) (f : Nat → Int) : Nat → Int := fun n => if k ≤ n then f (n - k) else 0
def mulF : List Int → (Nat → Int) → Nat → Int
  | [], _ => fun _ => 0
  | x :: r, g => fun n => x * g n + sh 1 (mulF r g) n
def mulL (a b : List Int) : List Int := (List.range (a.length + b.length)).map (mulF a (cf b))
def addL (a b : List Int) : List Int := (List.range (max a.length b.length)).map fun n => cf a n + cf b n
theorem cf_range {m : Nat} {f : Nat → Int} (h : ∀ n, m ≤ n → f n = 0) (n : Nat) : cf ((List.range m).map f) n = f n := by
  by_cases hn : n < m
  · rw [cf_lt (by simpa using hn)]
    simp
  · rw [cf_ge (by simpa using hn), h n (by omega)]
theorem cf_addL (a b : List Int) (n : Nat) : cf (addL a b) n = cf a n + cf b n := cf_range (fun n hn => by rw [cf_ge (by omega), cf_ge (by omega)]; rfl) n
theorem mulF_ge : ∀ (a : List Int) {g : Nat → Int} {m : Nat}, (∀ n, m ≤ n → g n = 0) → ∀ n, a.length + m ≤ n → mulF a g n = 0
  | [], _, _, _, _, _ => rfl
  | x :: r, g, m, h, n, hn => by
    have hn2 : r.length + 1 + m ≤ n := hn
    show x * g n + sh 1 (mulF r g) n = 0
    unfold sh
    rw [h n (by omega), if_pos (by omega), mulF_ge r h (n - 1) (by omega)]
    simp
theorem cf_mulL (a b : List Int) (n : Nat) : cf (mulL a b) n = mulF a (cf b) n := cf_range (fun n hn => mulF_ge a (fun k hk => cf_ge hk) n hn) n
theorem sh_add (k : Nat) (f g : Nat → Int) (n : Nat) : sh k (fun i => f i + g i) n = sh k f n + sh k g n := by
  unfold sh
  split <;> rfl
theorem sh_mul (k : Nat) (x : Int) (f : Nat → Int) (n : Nat) : sh k (fun i => x * f i) n = x * sh k f n := by
  unfold sh
  split
  · rfl
  · simp
theorem sh_congr {k : Nat} {f g : Nat → Int} (h : ∀ n, f n = g n) (n : Nat) : sh k f n = sh k g n := by
  unfold sh
  split
  · exact h _
  · rfl
theorem mulF_congr : ∀ (a : List Int) {f g : Nat → Int}, (∀ n, f n = g n) → ∀ n, mulF a f n = mulF a g n
  | [], _, _, _, _ => rfl
  | x :: r, f, g, h, n => by
    show x * f n + sh 1 (mulF r f) n = x * g n + sh 1 (mulF r g) n
    rw [h n, sh_congr (mulF_congr r h)]
theorem mulF_add : ∀ (a : List Int) (f g : Nat → Int) (n : Nat), mulF a (fun i => f i + g i) n = mulF a f n + mulF a g n
  | [], _, _, _ => rfl
  | x :: r, f, g, n => by
    show x * (f n + g n) + sh 1 (mulF r fun i => f i + g i) n = (x * f n + sh 1 (mulF r f) n) + (x * g n + sh 1 (mulF r g) n)
    rw [sh_congr (mulF_add r f g), sh_add, Int.mul_add]
    omega
theorem mulF_k : ∀ (a : List Int) (x : Int) (f : Nat → Int) (n : Nat), mulF a (fun i => x * f i) n = x * mulF a f n
  | [], x, _, _ => (Int.mul_zero x).symm
  | y :: r, x, f, n => by
    show y * (x * f n) + sh 1 (mulF r fun i => x * f i) n = x * (y * f n + sh 1 (mulF r f) n)
    rw [sh_congr (mulF_k r x f), sh_mul, Int.mul_add, Int.mul_left_comm]
theorem sh_sh (j k : Nat) (f : Nat → Int) (n : Nat) : sh j (sh k f) n = sh (j + k) f n := by
  unfold sh
  by_cases h : j + k ≤ n
  · rw [if_pos (by omega), if_pos (by omega), if_pos h, Nat.sub_sub]
  · rw [if_neg h]
    split
    · rw [if_neg (by omega)]
    · rfl
theorem mulF_sh : ∀ (a : List Int) (f : Nat → Int) (n : Nat), mulF a (sh 1 f) n = sh 1 (mulF a f) n
  | [], f, n => by
    show (0 : Int) = sh 1 (fun _ => 0) n
    unfold sh
    split <;> rfl
  | y :: r, f, n => by
    show y * sh 1 f n + sh 1 (mulF r (sh 1 f)) n = sh 1 (fun i => y * f i + sh 1 (mulF r f) i) n
    rw [sh_add, sh_mul, sh_congr (mulF_sh r f)]
/-- the place 0 and what is behind -/
theorem cf_cons (y : Int) (t : List Int) (n : Nat) : cf (y :: t) n = (if n = 0 then y else 0) + sh 1 (cf t) n := by
  unfold sh
  cases n with
  | zero => rw [if_pos rfl, if_neg (by decide), cf_0]; omega
  | succ n => rw [if_neg (by omega), if_pos (by omega), cf_s]; simp
theorem mulF_one : ∀ (a : List Int) (y : Int) (n : Nat), mulF a (fun i => if i = 0 then y else 0) n = cf a n * y
  | [], y, n => (Int.zero_mul y).symm
  | x :: r, y, n => by
    show x * (if n = 0 then y else 0) + sh 1 (mulF r fun i => if i = 0 then y else 0) n = cf (x :: r) n * y
    rw [sh_congr (mulF_one r y), cf_cons]
    unfold sh
    cases n with
    | zero => simp
    | succ n => simp
theorem mulF_comm : ∀ (a b : List Int) (n : Nat), mulF a (cf b) n = mulF b (cf a) n
  | a, [], n => by
    show mulF a (fun _ => 0) n = 0
    have := mulF_k a 0 (fun _ => 0) n
    simpa using this
  | a, y :: t, n => by
    rw [mulF_congr a (cf_cons y t) n, mulF_add, mulF_one, mulF_sh, sh_congr (mulF_comm a t)]
    show _ = y * cf a n + sh 1 (mulF t (cf a)) n
    rw [Int.mul_comm]
theorem mulF_assoc : ∀ (a : List Int) (b : List Int) (g : Nat → Int) (n : Nat), mulF a (mulF b g) n = mulF (mulL a b) g n := by
  have key : ∀ (xs : List Int) (f : Nat → Int), (∀ n, cf xs n = f n) → ∀ (ys : List Int) (g : Nat → Int), (∀ n, cf ys n = f n) → ∀ n, mulF xs g n = mulF ys g n := by
    intro xs
    induction xs with
    | nil =>
      intro f hf ys
      induction ys generalizing f with
      | nil => exact fun g _ n => rfl
      | cons y t ih =>
        intro g hy n
        have h0 : y = 0 := (hy 0).trans (hf 0).symm
        have := ih (fun n => cf t n) (fun n => by have a := hf (n + 1); have b := hy (n + 1); rw [cf_s] at b; rw [cf_nil] at *; omega) g (fun _ => rfl)
        show 0 = y * g n + sh 1 (mulF t g) n
        rw [h0, sh_congr (fun n => (this n).symm)]
        unfold sh
        show 0 = 0 * g n + if 1 ≤ n then 0 else 0
        simp
    | cons x r ih =>
      intro f hf ys g hy n
      cases ys with
      | nil =>
        have h0 : x = 0 := (hf 0).trans (hy 0).symm
        have := ih (fun n => cf r n) (fun _ => rfl) [] g (fun n => by have a := hf (n + 1); have b := hy (n + 1); rw [cf_s] at a; rw [cf_nil] at *; omega)
        show x * g n + sh 1 (mulF r g) n = 0
        rw [h0, sh_congr this]
        unfold sh
        show 0 * g n + (if 1 ≤ n then 0 else 0) = 0
        simp
      | cons y t =>
        have h0 : x = y := (hf 0).trans (hy 0).symm
        have := ih (fun n => cf r n) (fun _ => rfl) t g (fun n => ((hy (n + 1)).trans (hf (n + 1)).symm))
        show x * g n + sh 1 (mulF r g) n = y * g n + sh 1 (mulF t g) n
        rw [h0, sh_congr this]
  have add : ∀ (xs ys : List Int) (g : Nat → Int) (n : Nat), mulF (addL xs ys) g n = mulF xs g n + mulF ys g n := by
    intro xs
    induction xs with
    | nil =>
      intro ys g n
      rw [key (addL [] ys) (cf ys) (fun n => by rw [cf_addL, cf_nil]; omega) ys g (fun _ => rfl) n]
      show _ = 0 + _
      omega
    | cons x r ih =>
      intro ys g n
      cases ys with
      | nil =>
        rw [key (addL (x :: r) []) (cf (x :: r)) (fun n => by rw [cf_addL, cf_nil]; omega) (x :: r) g (fun _ => rfl) n]
        show _ = _ + 0
        omega
      | cons y t =>
        rw [key (addL (x :: r) (y :: t)) (cf ((x + y) :: addL r t)) (fun n => by
          cases n with
          | zero => rw [cf_addL]; rfl
          | succ n => rw [cf_addL, cf_s, cf_s, cf_s, cf_addL]) ((x + y) :: addL r t) g (fun _ => rfl) n]
        show (x + y) * g n + sh 1 (mulF (addL r t) g) n = (x * g n + sh 1 (mulF r g) n) + (y * g n + sh 1 (mulF t g) n)
        rw [sh_congr (ih t g), sh_add, Int.add_mul]
        omega
  have scl : ∀ (xs : List Int) (c : Int) (g : Nat → Int) (n : Nat), mulF (xs.map (c * ·)) g n = c * mulF xs g n := by
    intro xs
    induction xs with
    | nil => exact fun c g n => (Int.mul_zero c).symm
    | cons x r ih =>
      intro c g n
      show c * x * g n + sh 1 (mulF (r.map (c * ·)) g) n = c * (x * g n + sh 1 (mulF r g) n)
      rw [sh_congr (ih c g), sh_mul, Int.mul_add, Int.mul_assoc]
  have cfm : ∀ (xs : List Int) (c : Int) (n : Nat), cf (xs.map (c * ·)) n = c * cf xs n := by
    intro xs c n
    by_cases h : n < xs.length
    · rw [cf_lt (by simpa using h), cf_lt h]
      simp
    · rw [cf_ge (by simpa using h), cf_ge (by omega)]
      simp
  intro a
  induction a with
  | nil =>
    intro b g n
    rw [key (mulL [] b) (fun _ => 0) (fun n => by rw [cf_mulL]; rfl) [] g (fun _ => rfl) n]
    rfl
  | cons x r ih =>
    intro b g n
    rw [key (mulL (x :: r) b) (cf (addL (b.map (x * ·)) (0 :: mulL r b))) (fun n => by
      rw [cf_mulL, cf_addL, cfm, cf_cons]
      show x * cf b n + sh 1 (mulF r (cf b)) n = _
      rw [sh_congr (cf_mulL r b)]
      simp) _ g (fun _ => rfl) n, add, scl]
    show x * mulF b g n + sh 1 (mulF r (mulF b g)) n = x * mulF b g n + (0 * g n + sh 1 (mulF (mulL r b) g) n)
    rw [sh_congr (ih b g)]
    omega
end Rc

/-! Polynomials alike; how great their weights are. -/
namespace Rc
open PySem
def E (a b : List Int) : Prop := ∀ n, cf a n = cf b n
theorem E.rfl {a : List Int} : E a a := fun _ => Eq.refl _
theorem E.symm {a b : List Int} (h : E a b) : E b a := fun n => (h n).symm
theorem E.trans {a b c : List Int} (h : E a b) (g : E b c) : E a c := fun n => (h n).trans (g n)
theorem E.trim {a b : List Int} (h : E a b) : Rc.trim a = Rc.trim b := trim_ext h
theorem e_trim (a : List Int) : E (trim a) a := cf_trim a
theorem e_add {a a' b b' : List Int} (h : E a a') (g : E b b') : E (addL a b) (addL a' b') := fun n => by rw [cf_addL, cf_addL, h n, g n]
theorem e_mul {a a' b b' : List Int} (h : E a a') (g : E b b') : E (mulL a b) (mulL a' b') := fun n => by
  rw [cf_mulL, cf_mulL, mulF_congr a g n, mulF_comm, mulF_congr b' h n, mulF_comm]
theorem e_addC (a b : List Int) : E (addL a b) (addL b a) := fun n => by rw [cf_addL, cf_addL]; omega
theorem e_addA (a b c : List Int) : E (addL (addL a b) c) (addL a (addL b c)) := fun n => by simp only [cf_addL]; omega
theorem e_mulC (a b : List Int) : E (mulL a b) (mulL b a) := fun n => by rw [cf_mulL, cf_mulL, mulF_comm]
theorem e_mulA (a b c : List Int) : E (mulL (mulL a b) c) (mulL a (mulL b c)) := fun n => by
  rw [cf_mulL, ← mulF_assoc, cf_mulL, mulF_congr a (cf_mulL b c) n]
theorem e_dist (a b c : List Int) : E (mulL a (addL b c)) (addL (mulL a b) (mulL a c)) := fun n => by
  rw [cf_mulL, cf_addL, cf_mulL, cf_mulL, mulF_congr a (cf_addL b c) n, mulF_add]
theorem e_one (a : List Int) : E (mulL a [1]) a := fun n => by
  rw [cf_mulL, mulF_congr a (g := fun i => if i = 0 then 1 else 0) (fun i => by cases i <;> simp [cf]) n, mulF_one, Int.mul_one]
theorem e_nil (a : List Int) : E (mulL a []) [] := fun n => by
  rw [cf_mulL, mulF_comm]
  rfl
def sclL (a : List Int) (c : Int) : List Int := a.map (· * c)
theorem cf_sclL (a : List Int) (c : Int) (n : Nat) : cf (sclL a c) n = cf a n * c := by
  unfold sclL
  by_cases h : n < a.length
  · rw [cf_lt (by simpa using h), cf_lt h]
    simp
  · rw [cf_ge (by simpa using h), cf_ge (by omega)]
    simp
/-- so many weights, so great -/
def Bl (n p : Nat) (a : List Int) : Prop := a.length ≤ n ∧ ∀ x ∈ a, Bt p x
theorem Bl.mono {n m p q : Nat} {a : List Int} (h : Bl n p a) (l : n ≤ m) (k : p ≤ q) : Bl m q a := ⟨Nat.le_trans h.1 l, fun x hx => (h.2 x hx).mono k⟩
theorem bt0 {p : Nat} : Bt p 0 := by
  unfold Bt
  exact Nat.two_pow_pos p
theorem bl_cf {n p : Nat} {a : List Int} (h : Bl n p a) (i : Nat) : Bt p (cf a i) := by
  by_cases hi : i < a.length
  · rw [cf_lt hi]
    exact h.2 _ (List.getElem_mem hi)
  · rw [cf_ge (by omega)]
    exact bt0
theorem bl_trim {n p : Nat} {a : List Int} (h : Bl n p a) : Bl n p (trim a) := by
  refine ⟨Nat.le_trans (trim_len a) h.1, fun x hx => ?_⟩
  unfold trim at hx
  rw [List.mem_reverse] at hx
  exact h.2 x (List.mem_reverse.mp ((List.dropWhile_sublist _).subset hx))
theorem bl_add {n m p : Nat} {a b : List Int} (h : Bl n p a) (g : Bl m p b) : Bl (n + m) (p + 1) (addL a b) := by
  refine ⟨?_, fun x hx => ?_⟩
  · have h1 := h.1
    have g1 := g.1
    unfold addL
    rw [List.length_map, List.length_range]
    omega
  · obtain ⟨i, _, rfl⟩ := List.mem_map.mp hx
    exact Bt.add (bl_cf h i) (bl_cf g i)
theorem bt_sh {p : Nat} {f : Nat → Int} (h : ∀ n, Bt p (f n)) (k n : Nat) : Bt p (sh k f n) := by
  unfold sh
  split
  · exact h _
  · exact bt0
theorem bt_mulF {p q : Nat} : ∀ (a : List Int) {f : Nat → Int}, (∀ x ∈ a, Bt p x) → (∀ n, Bt q (f n)) → ∀ n, Bt (p + q + a.length) (mulF a f n)
  | [], _, _, _, _ => bt0
  | x :: r, f, h, g, n => by
    have ih := bt_mulF r (fun y hy => h y (List.mem_cons_of_mem _ hy)) g
    have h1 := (Bt.mul (h x (List.mem_cons_self ..)) (g n)).mono (show p + q ≤ p + q + r.length by omega)
    exact Bt.add h1 (bt_sh ih 1 n)
theorem bl_mul {n m p q : Nat} {a b : List Int} (h : Bl n p a) (g : Bl m q b) : Bl (n + m) (p + q + n) (mulL a b) := by
  refine ⟨?_, fun x hx => ?_⟩
  · have h1 := h.1
    have g1 := g.1
    unfold mulL
    rw [List.length_map, List.length_range]
    omega
  · obtain ⟨i, _, rfl⟩ := List.mem_map.mp hx
    exact (bt_mulF a h.2 (bl_cf g) i).mono (by have := h.1; omega)
theorem bl_scl {n p q : Nat} {a : List Int} {c : Int} (h : Bl n p a) (g : Bt q c) : Bl n (p + q) (sclL a c) := by
  refine ⟨by unfold sclL; rw [List.length_map]; exact h.1, fun x hx => ?_⟩
  obtain ⟨y, hy, rfl⟩ := List.mem_map.mp hx
  exact Bt.mul (h.2 y hy) g
theorem blOne : Bl 1 1 [1] := ⟨by decide, fun x hx => by
  rw [List.mem_singleton] at hx
  subst hx
  exact bt_c (by decide)⟩
theorem bl0 {n p : Nat} : Bl n p [] := ⟨Nat.zero_le _, fun x hx => by cases hx⟩
def powL (a : List Int) : Nat → List Int
  | 0 => [1]
  | m + 1 => trim (mulL (powL a m) a)
theorem e_pow (a : List Int) (m : Nat) : ∀ j, E (mulL (powL a m) (powL a j)) (powL a (m + j))
  | 0 => e_one _
  | j + 1 => by
    refine (e_mul E.rfl (e_trim _)).trans (((e_mulA _ _ _).symm).trans ((e_mul (e_pow a m j) E.rfl).trans ?_))
    exact (e_trim _).symm
theorem pn_pow (a : List Int) : ∀ m, Pn (powL a m)
  | 0 => by
    show trim [1] = [1]
    decide
  | m + 1 => pn_trim _
theorem bl_pow {n p : Nat} {a : List Int} (h : Bl n p a) : ∀ m, Bl (1 + m * n) (1 + m * (p + 1 + 100)) (powL a m) ∨ 100 < 1 + m * n
  | 0 => .inl (by rw [Nat.zero_mul, Nat.zero_mul]; exact blOne)
  | m + 1 => by
    have e1 : (m + 1) * n = m * n + n := Nat.succ_mul m n
    have e2 : (m + 1) * (p + 1 + 100) = m * (p + 1 + 100) + (p + 1 + 100) := Nat.succ_mul m _
    rw [e1, e2]
    rcases bl_pow h m with g | g
    · by_cases hb : 100 < 1 + m * n
      · right; omega
      · left
        exact (bl_trim (bl_mul g h)).mono (by omega) (by omega)
    · right; omega
/-! ### as data -/
theorem items_tz (a : List Int) : items (tz a) = some (a.map .int) := rfl
theorem len_tz {a : List Int} {Q : Int → Prop} : lenW (tz a) Q = Q a.length := by
  show Q ((a.map PyData.int).length : Int) = _
  rw [List.length_map]
theorem cmp_tz {a b : List Int} {Q : Bool → Prop} : cmpW .Eq (tz a) (tz b) Q = Q (decide (a = b)) := by
  show (SeqAt.shaped (tz a) = true ∧ SeqAt.shaped (tz b) = true ∧ Q (PyData.eqv (tz a) (tz b))) = _
  rw [show PyData.eqv (tz a) (tz b) = decide (a = b) from eqvT a b]
  exact propext ⟨fun h => h.2.2, fun h => ⟨shapedT a, shapedT b, h⟩⟩
theorem cmp_tzn {a b : List Int} {Q : Bool → Prop} : cmpW .NotEq (tz a) (tz b) Q = Q (!decide (a = b)) := by
  show (SeqAt.shaped (tz a) = true ∧ SeqAt.shaped (tz b) = true ∧ Q (!PyData.eqv (tz a) (tz b))) = _
  rw [show PyData.eqv (tz a) (tz b) = decide (a = b) from eqvT a b]
  exact propext ⟨fun h => h.2.2, fun h => ⟨shapedT a, shapedT b, h⟩⟩
theorem cmp_tz0 {a : List Int} {Q : Bool → Prop} : cmpW .Eq (tz a) (.tuple []) Q = Q (decide (a = [])) := cmp_tz (b := [])
theorem cmp_tzn0 {a : List Int} {Q : Bool → Prop} : cmpW .NotEq (tz a) (.tuple []) Q = Q (!decide (a = [])) := cmp_tzn (b := [])
theorem enums_map (n : Nat) : ∀ a : List Int, enums n (a.map .int) = (a.zipIdx n).map fun q => .tuple [.int q.2, .int q.1]
  | [] => rfl
  | x :: r => by
    show PyData.tuple [.int n, .int x] :: enums (n + 1) (r.map .int) = _
    rw [enums_map (n + 1) r]
    rfl
end Rc
namespace Rc
open PySem
theorem len_trim {xs : List Int} {d : Nat} (h : cf xs d ≠ 0) (g : ∀ n, d < n → cf xs n = 0) : (trim xs).length = d + 1 := by
  have h1 : d < (trim xs).length := by
    refine Nat.lt_of_not_le fun hl => h ?_
    rw [← cf_trim, cf_ge hl]
  refine Nat.le_antisymm ?_ h1
  refine Nat.le_of_not_lt fun hl => ?_
  have hne : trim xs ≠ [] := fun e => by rw [e] at hl; cases hl
  have e := trim_last xs
  rw [List.getLast?_eq_some_getLast hne] at e
  have : (trim xs).getLast hne = 0 := by
    rw [List.getLast_eq_getElem, ← cf_lt, cf_trim]
    exact g _ (by omega)
  rw [this] at e
  exact e rfl
theorem pn_lead {a : List Int} (h : Pn a) (h0 : a ≠ []) : cf a (a.length - 1) ≠ 0 := by
  have e := trim_last a
  have hl := List.length_pos_iff.mpr h0
  rw [h, List.getLast?_eq_some_getLast h0, List.getLast_eq_getElem] at e
  rw [cf_lt (by omega)]
  exact fun z => e (congrArg some z)
theorem mulF_top : ∀ (a : List Int) {g : Nat → Int} {m : Nat}, a ≠ [] → (∀ n, m < n → g n = 0) → mulF a g (a.length - 1 + m) = cf a (a.length - 1) * g m
  | [], _, _, h, _ => absurd rfl h
  | [x], g, m, _, h => by
    show x * g (1 - 1 + m) + sh 1 (fun _ => 0) (1 - 1 + m) = x * g m
    have : sh 1 (fun _ => (0 : Int)) (1 - 1 + m) = 0 := by
      unfold sh
      split <;> rfl
    rw [this, show 1 - 1 + m = m by omega]
    omega
  | x :: y :: r, g, m, _, h => by
    have ih := mulF_top (y :: r) (by simp) h
    have l1 : (x :: y :: r).length - 1 = (y :: r).length - 1 + 1 := by simp
    show x * g ((x :: y :: r).length - 1 + m) + sh 1 (mulF (y :: r) g) ((x :: y :: r).length - 1 + m) = _
    rw [l1, cf_s, h _ (by omega)]
    unfold sh
    rw [if_pos (by omega), show (y :: r).length - 1 + 1 + m - 1 = (y :: r).length - 1 + m by omega, ih]
    omega
theorem mulF_gt : ∀ (a : List Int) {g : Nat → Int} {m : Nat}, (∀ n, m ≤ n → g n = 0) → ∀ n, a.length + m ≤ n + 1 → mulF a g n = 0
  | [], _, _, _, _, _ => rfl
  | x :: r, g, m, h, n, hn => by
    have hn2 : r.length + 1 + m ≤ n + 1 := hn
    show x * g n + sh 1 (mulF r g) n = 0
    unfold sh
    rw [h n (by omega)]
    split
    · rw [mulF_gt r h (n - 1) (by omega)]
      simp
    · simp
theorem len_mul {a b : List Int} (ha : Pn a) (hb : Pn b) (a0 : a ≠ []) (b0 : b ≠ []) : (trim (mulL a b)).length = a.length + b.length - 1 := by
  have la := List.length_pos_iff.mpr a0
  have lb := List.length_pos_iff.mpr b0
  rw [len_trim (d := a.length - 1 + (b.length - 1))]
  · omega
  · rw [cf_mulL, mulF_top a a0 (fun n hn => cf_ge (by omega))]
    exact Int.mul_ne_zero (pn_lead ha a0) (pn_lead hb b0)
  · intro n hn
    rw [cf_mulL]
    exact mulF_gt a (m := b.length) (fun k hk => cf_ge hk) n (by omega)
theorem len_addL (a b : List Int) : (addL a b).length = max a.length b.length := by
  unfold addL
  rw [List.length_map, List.length_range]
end Rc
namespace Rc
open PySem
theorem bi_list_tz {a : List Int} {Q : Val → Prop} : biW .list [tz a] Q = Q (.own (a.map .int)) := rfl
theorem add_tz {x : List D} {a : List Int} {Q : Val → Prop} : opW .Add (.tuple x) (tz a) Q = (x.length + a.length ≤ 16777216 ∧ Q (.d (.tuple (x ++ a.map .int)))) := by
  show (x.length + (a.map PyData.int).length ≤ 16777216 ∧ Q (.d (.tuple (x ++ a.map .int)))) = _
  rw [List.length_map]
theorem rng'_cons (K m : Nat) : (List.range' K (m + 1)).map (fun (i : Nat) => PyData.int i) = .int K :: (List.range' (K + 1) m).map (fun (i : Nat) => PyData.int i) := by
  rw [List.range'_succ]
  rfl
theorem drop_cons {a : List Int} {K : Nat} (h : K < a.length) : a.drop K = a[K] :: a.drop (K + 1) := List.drop_eq_getElem_cons h
theorem cf_set {gs : List Int} {j : Nat} (h : j < gs.length) (v : Int) (i : Nat) : cf (gs.set j (gs[j] + v)) i = cf gs i + (if i = j then v else 0) := by
  unfold cf
  rw [List.getD_eq_getElem?_getD, List.getD_eq_getElem?_getD, List.getElem?_set]
  by_cases hi : j = i
  · subst hi
    simp [h]
  · rw [if_neg hi, if_neg (fun h => hi h.symm)]
    simp
theorem sh_head (y z : Int) (zs : List Int) (k i : Nat) : sh k (fun n => y * cf (z :: zs) n) i = (if i = k then y * z else 0) + sh (k + 1) (fun n => y * cf zs n) i := by
  unfold sh
  by_cases h1 : i = k
  · subst h1
    rw [if_pos (by omega), if_pos rfl, if_neg (by omega), Nat.sub_self]
    show y * z = y * z + 0
    omega
  · by_cases h2 : k ≤ i
    · rw [if_pos h2, if_neg h1, if_pos (by omega), show i - k = (i - (k + 1)) + 1 by omega]
      show y * cf zs _ = 0 + y * cf zs _
      omega
    · rw [if_neg h2, if_neg h1, if_neg (by omega)]
      rfl
theorem cf_rep0 (N i : Nat) : cf (List.replicate N 0) i = 0 := by
  by_cases hi : i < N
  · rw [cf_lt (by simpa using hi)]
    simp
  · exact cf_ge (by simpa using hi)
end Rc

/-! Values at fractions. -/
namespace Rc
open PySem
def hT (x y : Int) : List Int → Int
  | [] => 0
  | w :: r => hT x y r * x + w * y ^ r.length
def ev (q : Rat) : List Int → Rat
  | [] => 0
  | w :: r => (w : Rat) + q * ev q r
theorem num_eq (q : Rat) : (q.num : Rat) = q * (q.den : Rat) := by
  have h := Rat.num_divInt_den q
  rw [Rat.divInt_eq_div] at h
  have y0 : ((q.den : Int) : Rat) ≠ 0 := by
    intro e
    have := q.den_nz
    exact this (by exact_mod_cast e)
  have := Rat.div_mul_cancel (a := (q.num : Rat)) y0
  rw [h] at this
  exact this.symm
theorem rpow_ne {y : Rat} (h : y ≠ 0) : ∀ n : Nat, y ^ n ≠ 0
  | 0 => by rw [Rat.pow_zero]; decide
  | n + 1 => by
    rw [Rat.pow_succ]
    have := rpow_ne h n
    intro e
    rcases Rat.mul_eq_zero.mp e with g | g
    · exact this g
    · exact h g
theorem hT_ev (q : Rat) : ∀ a : List Int, (hT q.num q.den a : Rat) * (q.den : Rat) = ev q a * (q.den : Rat) ^ a.length
  | [] => by
    show ((0 : Int) : Rat) * _ = 0 * _
    simp
  | w :: r => by
    have ih := hT_ev q r
    show ((hT q.num q.den r * q.num + w * (q.den : Int) ^ r.length : Int) : Rat) * (q.den : Rat) = ((w : Rat) + q * ev q r) * (q.den : Rat) ^ (r.length + 1)
    rw [Rat.intCast_add, Rat.intCast_mul, Rat.intCast_mul, num_eq, Rat.intCast_pow, Rat.intCast_natCast, Rat.pow_succ]
    generalize (hT q.num q.den r : Rat) = t at *
    generalize (q.den : Rat) ^ r.length = z at *
    generalize (q.den : Rat) = y at *
    grind
theorem ev_trimR (q : Rat) : ∀ a : List Int, ev q (trimR a) = ev q a
  | [] => rfl
  | x :: r => by
    have ih := ev_trimR q r
    unfold trimR
    cases e : trimR r with
    | nil =>
      rw [e] at ih
      have ih2 : (0 : Rat) = ev q r := ih
      show ev q (if x = 0 then [] else [x]) = (x : Rat) + q * ev q r
      rw [← ih2]
      by_cases hx : x = 0
      · rw [if_pos hx, hx]
        show (0 : Rat) = ((0 : Int) : Rat) + q * 0
        simp [Rat.add_zero]
      · rw [if_neg hx]
        rfl
    | cons y t =>
      rw [e] at ih
      show (x : Rat) + q * ev q (y :: t) = (x : Rat) + q * ev q r
      rw [ih]
theorem ev_E {q : Rat} {a b : List Int} (h : E a b) : ev q a = ev q b := by
  rw [← ev_trimR q a, ← ev_trimR q b, trimR_ext h]
theorem ev_trim (q : Rat) (a : List Int) : ev q (trim a) = ev q a := ev_E (e_trim a)
theorem ev_add (q : Rat) : ∀ a b : List Int, ev q (addL a b) = ev q a + ev q b
  | [], b => by
    rw [ev_E (b := b) fun n => by rw [cf_addL, cf_nil]; omega]
    show _ = 0 + _
    rw [Rat.zero_add]
  | x :: r, [] => by
    rw [ev_E (b := x :: r) fun n => by rw [cf_addL, cf_nil]; omega]
    show _ = _ + 0
    rw [Rat.add_zero]
  | x :: r, y :: t => by
    rw [ev_E (b := (x + y) :: addL r t) fun n => by
      cases n with
      | zero => rw [cf_addL]; rfl
      | succ n => rw [cf_addL, cf_s, cf_s, cf_s, cf_addL]]
    show ((x + y : Int) : Rat) + q * ev q (addL r t) = ((x : Rat) + q * ev q r) + ((y : Rat) + q * ev q t)
    rw [ev_add q r t, Rat.intCast_add]
    grind
theorem ev_scl (q : Rat) (c : Int) : ∀ a : List Int, ev q (sclL a c) = ev q a * (c : Rat)
  | [] => by
    show (0 : Rat) = 0 * _
    rw [Rat.zero_mul]
  | x :: r => by
    have ih := ev_scl q c r
    show ((x * c : Int) : Rat) + q * ev q (sclL r c) = ((x : Rat) + q * ev q r) * (c : Rat)
    rw [ih, Rat.intCast_mul]
    grind
theorem ev_mul (q : Rat) : ∀ a b : List Int, ev q (mulL a b) = ev q a * ev q b
  | [], b => by
    rw [ev_E (b := []) fun n => by rw [cf_mulL]; rfl]
    show (0 : Rat) = 0 * _
    rw [Rat.zero_mul]
  | x :: r, b => by
    rw [ev_E (b := addL (sclL b x) (0 :: mulL r b)) fun n => by
      rw [cf_mulL, cf_addL, cf_sclL, cf_cons]
      show x * cf b n + sh 1 (mulF r (cf b)) n = _
      rw [sh_congr (cf_mulL r b), Int.mul_comm]
      simp, ev_add, ev_scl]
    show ev q b * (x : Rat) + (((0 : Int) : Rat) + q * ev q (mulL r b)) = ((x : Rat) + q * ev q r) * ev q b
    rw [ev_mul q r b]
    simp
    grind
theorem pow_ne (q : Rat) (n : Nat) : (q.den : Int) ^ n ≠ 0 := by
  have := Int.pow_pos (m := n) (denP q)
  omega
theorem ev_div (q : Rat) (a : List Int) : Rat.divInt (hT q.num q.den a) ((q.den : Int) ^ (a.length - 1)) = ev q a := by
  have h := hT_ev q a
  have y0 : (q.den : Rat) ≠ 0 := by
    intro e
    have := q.den_nz
    exact this (by exact_mod_cast e)
  cases a with
  | nil => exact Rat.zero_divInt _
  | cons w r =>
    rw [Rat.divInt_eq_div, Rat.intCast_pow, Rat.intCast_natCast]
    show _ / (q.den : Rat) ^ (r.length + 1 - 1) = _
    rw [Nat.add_sub_cancel]
    have h2 : (hT q.num q.den (w :: r) : Rat) * (q.den : Rat) = ev q (w :: r) * (q.den : Rat) ^ (r.length + 1) := h
    rw [Rat.pow_succ] at h2
    have z0 : (q.den : Rat) ^ r.length ≠ 0 := rpow_ne y0 _
    generalize (hT q.num q.den (w :: r) : Rat) = t at *
    generalize (q.den : Rat) ^ r.length = z at *
    generalize (q.den : Rat) = y at *
    generalize ev q (w :: r) = e at *
    grind
end Rc
namespace Rc
open PySem
theorem sgn_ite (n : Int) : ((if 0 < n then 1 else 0) - (if n < 0 then 1 else 0) : Int) = n.sign := by
  by_cases h1 : 0 < n
  · rw [Int.sign_eq_one_of_pos h1]
    simp [h1, show ¬ n < 0 by omega]
  · by_cases h2 : n < 0
    · rw [Int.sign_eq_neg_one_of_neg h2]
      simp [h1, h2]
    · rw [show n = 0 by omega]
      decide
theorem bt_pow {s : Nat} {y : Int} (h : Bt s y) : ∀ n : Nat, Bt (s * n + 1) (y ^ n)
  | 0 => by
    rw [Nat.mul_zero, Int.pow_zero]
    exact bt_c (by decide)
  | n + 1 => by
    rw [Int.pow_succ]
    exact (Bt.mul (bt_pow h n) h).mono (by rw [Nat.mul_succ]; omega)
theorem bt_hT {p s : Nat} {x y : Int} (hx : Bt s x) (hy : Bt s y) : ∀ a : List Int, (∀ w ∈ a, Bt p w) → Bt (p + 1 + (s + 1) * a.length) (hT x y a)
  | [], _ => bt0
  | w :: r, h => by
    have ih := bt_hT hx hy r fun z hz => h z (List.mem_cons_of_mem _ hz)
    have h1 := Bt.mul ih hx
    have h2 := Bt.mul (h w (List.mem_cons_self ..)) (bt_pow hy r.length)
    have e : (s + 1) * (r.length + 1) = (s + 1) * r.length + (s + 1) := Nat.mul_succ _ _
    have e2 : (s + 1) * r.length = s * r.length + r.length := Nat.succ_mul _ _
    show Bt (p + 1 + (s + 1) * (r.length + 1)) (hT x y r * x + w * y ^ r.length)
    rw [e]
    exact (Bt.add (h1.mono (show _ ≤ p + 1 + (s + 1) * r.length + s by omega)) (h2.mono (by omega))).mono (by omega)
theorem len_fr {q : Rat} {Q : Int → Prop} : lenW (fr q) Q = Q 2 := rfl
theorem isT_fr {q : Rat} : isT .tuple (fr q) = true := rfl
theorem fr_gcd (q : Rat) : Int.gcd q.num q.den = 1 := q.reduced
theorem ev_den {s : Nat} {q : Rat} (hy : Bt s q.den) (a : List Int) : Bt (s * (a.length - 1) + 1) (ev q a).den := by
  rw [← ev_div, Rat.den_divInt, if_neg (pow_ne q _)]
  exact (bt_pow hy (a.length - 1)).le (Nat.div_le_self _ _)
theorem ev_num {p s : Nat} {q : Rat} (h : Sz s q) {a : List Int} (ha : ∀ w ∈ a, Bt p w) : Bt (p + 1 + (s + 1) * a.length) (ev q a).num := by
  rw [← ev_div, Rat.num_divInt]
  refine bt_div ((bt_hT h.1 h.2 a ha).le ?_)
  rw [Int.natAbs_mul, Int.natAbs_sign_of_ne_zero (pow_ne q _), Nat.one_mul]
  exact Nat.le_refl _
theorem ev_cross (q : Rat) (a : List Int) : (ev q a).num * (q.den : Int) ^ a.length = ((ev q a).den : Int) * (hT q.num q.den a * q.den) := by
  have h := hT_ev q a
  have e := num_eq (ev q a)
  have key : (((ev q a).num * (q.den : Int) ^ a.length : Int) : Rat) = ((((ev q a).den : Int) * (hT q.num q.den a * q.den) : Int) : Rat) := by
    rw [Rat.intCast_mul, Rat.intCast_mul, Rat.intCast_mul, Rat.intCast_pow, Rat.intCast_natCast, Rat.intCast_natCast, h, e]
    generalize (q.den : Rat) ^ a.length = z
    generalize ((ev q a).den : Rat) = d
    grind
  exact Rat.intCast_inj.mp key
theorem sign_y (q : Rat) (t : Int) : (t * (q.den : Int)).sign = t.sign := by
  rw [Int.sign_mul, Int.sign_eq_one_of_pos (denP q), Int.mul_one]
end Rc
namespace Rc
open PySem
theorem trim_rep {a : List Int} (h : Pn a) (h0 : a ≠ []) : ∀ m : Nat, trim (List.replicate m 0 ++ a) = List.replicate m 0 ++ a
  | 0 => h
  | m + 1 => by
    have ih := trim_rep h h0 m
    show trim (0 :: (List.replicate m 0 ++ a)) = 0 :: (List.replicate m 0 ++ a)
    rw [trim_cons, ih]
    cases e : List.replicate m (0 : Int) ++ a with
    | nil =>
      have := (List.append_eq_nil_iff.mp e).2
      exact absurd this h0
    | cons y t => rfl
theorem trim_rep0 (m : Nat) : trim (List.replicate m 0 ++ ([] : List Int)) = [] := by
  rw [List.append_nil]
  exact trim_ext (ys := []) fun n => by rw [cf_rep0]; rfl
theorem eqvTz : ∀ ls : List (List Int), PyData.eqvAll (ls.map tz) (ls.map tz) = true
  | [] => rfl
  | a :: r => by
    have h1 : PyData.eqv (tz a) (tz a) = true := (eqvT a a).trans (decide_eq_true rfl)
    show (PyData.eqv (tz a) (tz a) && PyData.eqvAll (r.map tz) (r.map tz)) = true
    rw [h1, eqvTz r]
    rfl
theorem shapedTz (ls : List (List Int)) : SeqAt.shaped (.list (ls.map tz)) = true := shaped_of (shLst (n := 1) fun x h => by
  obtain ⟨a, _, rfl⟩ := List.mem_map.mp h
  exact shTup (shInts a)) (by decide)
theorem neg_scl (b : List Int) (n : Nat) : cf (b.map (- ·)) n = cf b n * (-1) := by
  rw [← cf_sclL]
  congr 1
  unfold sclL
  exact List.map_congr_left fun x _ => by omega
end Rc
namespace Rc
open PySem
theorem isPolyV_tq {a : List Int} (h : Pn a) : isPolyV (tz a) = true := by
  rw [← h]
  exact isPolyV_tz
end Rc
namespace Rc
open PySem
theorem isN_non : isNone .none = true := rfl
theorem isN_tup {xs : List D} : isNone (.tuple xs) = false := rfl
theorem isN_lst {xs : List D} : isNone (.list xs) = false := rfl
theorem isN_int {i : Int} : isNone (.int i) = false := rfl
theorem isN_str {x : Str} : isNone (.str x) = false := rfl
theorem isN_bl {b : Bool} : isNone (.bool b) = false := rfl
theorem isN_fr {q : Rat} : isNone (fr q) = false := rfl
theorem isN_tz {a : List Int} : isNone (tz a) = false := rfl
end Rc
namespace Rc
open PySem
theorem add_ttz {a b : List Int} {Q : Val → Prop} : opW .Add (tz a) (tz b) Q = (a.length + b.length ≤ 16777216 ∧ Q (.d (tz (a ++ b)))) := by
  show ((a.map PyData.int).length + (b.map PyData.int).length ≤ 16777216 ∧ Q (.d (.tuple (a.map .int ++ b.map .int)))) = _
  rw [List.length_map, List.length_map, ← List.map_append]
  rfl
theorem isT_tz {a : List Int} : isT .tuple (tz a) = true := rfl
theorem sl_tz {a : List Int} {lo hi : Option Int} {Q : Val → Prop} : slW (tz a) lo hi Q = Q (.d (tz (cut a lo hi))) := by
  show Q (.d (.tuple (cut (a.map PyData.int) lo hi))) = _
  rw [cut_map]
  rfl
end Rc
namespace Rc
open PySem
theorem ix_go {xs : List D} {n : Nat} {x : D} {Q : D → Prop} (h : xs[n]? = some x) : (∃ v, L2.atI xs (n : Int) = some v ∧ Q v) = Q x := by
  have e := atI_nat h
  refine propext ⟨fun ⟨v, h1, h2⟩ => ?_, fun q => ⟨x, e, q⟩⟩
  rw [e] at h1
  cases h1
  exact h2
theorem ix_t0 {x0 : D} {xs : List D} {Q : D → Prop} {t : Tok Q} : ixF Q t (.tuple (x0 :: xs)) (.int 0) = Q x0 := ix_go (n := 0) rfl
theorem ix_t1 {x0 x1 : D} {xs : List D} {Q : D → Prop} {t : Tok Q} : ixF Q t (.tuple (x0 :: x1 :: xs)) (.int 1) = Q x1 := ix_go (n := 1) rfl
theorem ix_t2 {x0 x1 x2 : D} {xs : List D} {Q : D → Prop} {t : Tok Q} : ixF Q t (.tuple (x0 :: x1 :: x2 :: xs)) (.int 2) = Q x2 := ix_go (n := 2) rfl
theorem ix_t3 {x0 x1 x2 x3 : D} {xs : List D} {Q : D → Prop} {t : Tok Q} : ixF Q t (.tuple (x0 :: x1 :: x2 :: x3 :: xs)) (.int 3) = Q x3 := ix_go (n := 3) rfl
theorem ix_t4 {x0 x1 x2 x3 x4 : D} {xs : List D} {Q : D → Prop} {t : Tok Q} : ixF Q t (.tuple (x0 :: x1 :: x2 :: x3 :: x4 :: xs)) (.int 4) = Q x4 := ix_go (n := 4) rfl
theorem ix_t5 {x0 x1 x2 x3 x4 x5 : D} {xs : List D} {Q : D → Prop} {t : Tok Q} : ixF Q t (.tuple (x0 :: x1 :: x2 :: x3 :: x4 :: x5 :: xs)) (.int 5) = Q x5 := ix_go (n := 5) rfl
theorem ix_t6 {x0 x1 x2 x3 x4 x5 x6 : D} {xs : List D} {Q : D → Prop} {t : Tok Q} : ixF Q t (.tuple (x0 :: x1 :: x2 :: x3 :: x4 :: x5 :: x6 :: xs)) (.int 6) = Q x6 := ix_go (n := 6) rfl
theorem ix_l0 {x0 : D} {xs : List D} {Q : D → Prop} {t : Tok Q} : ixF Q t (.list (x0 :: xs)) (.int 0) = Q x0 := ix_go (n := 0) rfl
theorem ix_l1 {x0 x1 : D} {xs : List D} {Q : D → Prop} {t : Tok Q} : ixF Q t (.list (x0 :: x1 :: xs)) (.int 1) = Q x1 := ix_go (n := 1) rfl
theorem ix_l2 {x0 x1 x2 : D} {xs : List D} {Q : D → Prop} {t : Tok Q} : ixF Q t (.list (x0 :: x1 :: x2 :: xs)) (.int 2) = Q x2 := ix_go (n := 2) rfl
theorem ix_l3 {x0 x1 x2 x3 : D} {xs : List D} {Q : D → Prop} {t : Tok Q} : ixF Q t (.list (x0 :: x1 :: x2 :: x3 :: xs)) (.int 3) = Q x3 := ix_go (n := 3) rfl
theorem ix_l4 {x0 x1 x2 x3 x4 : D} {xs : List D} {Q : D → Prop} {t : Tok Q} : ixF Q t (.list (x0 :: x1 :: x2 :: x3 :: x4 :: xs)) (.int 4) = Q x4 := ix_go (n := 4) rfl
theorem ix_l5 {x0 x1 x2 x3 x4 x5 : D} {xs : List D} {Q : D → Prop} {t : Tok Q} : ixF Q t (.list (x0 :: x1 :: x2 :: x3 :: x4 :: x5 :: xs)) (.int 5) = Q x5 := ix_go (n := 5) rfl
theorem ix_l6 {x0 x1 x2 x3 x4 x5 x6 : D} {xs : List D} {Q : D → Prop} {t : Tok Q} : ixF Q t (.list (x0 :: x1 :: x2 :: x3 :: x4 :: x5 :: x6 :: xs)) (.int 6) = Q x6 := ix_go (n := 6) rfl
end Rc

/-! The long list, used once: its equations have their names from here on. -/
namespace Rc
open PySem
theorem zAll {P : Prop} (h : P) : P := by
  have h2 : True ∧ P := ⟨True.intro, h⟩
  simp only [↓wE.eq_1, ↓wE.eq_2, ↓wE.eq_3, ↓wE.eq_4, ↓wE.eq_5, ↓wE.eq_6, ↓wE.eq_7, ↓wE.eq_8, ↓wE.eq_9, ↓wE.eq_10, ↓wE.eq_11, ↓wE.eq_12, ↓wE.eq_13, ↓wE.eq_14, ↓wE.eq_15, ↓wE.eq_16, ↓wE.eq_18, ↓wE.eq_19, ↓wE.eq_22, ↓wE.eq_23, ↓wE.eq_24, ↓wE.eq_25, ↓wE.eq_26, ↓wE.eq_27, ↓wE.eq_28, ↓wE.eq_29, ↓wE.eq_30, ↓wE.eq_31, ↓wE.eq_32, ↓wE.eq_34, ↓wE.eq_35, ↓wE.eq_36, ↓wE.eq_37, ↓wE.eq_38, ↓wE.eq_39, ↓wE.eq_40, ↓wE.eq_41, ↓wE_call, ↓wE_callP, ↓wE_lc, ↓wE_lcg, ↓wE_isv, ↓wE_ix, ↓ix_fr0, ↓ix_fr1, ↓cmp_fr, ↓cmp_frn, ↓cmp_fr0, ↓cmp_tz, ↓cmp_tzn, ↓cmp_tz0, ↓cmp_tzn0, ↓bi_list_tz, ↓add_tz,  ↓len_tz, ↓len_fr, ↓isT_fr, items_tz, ↓cmp_bb, ↓cmp_bbn, ↓wS_whl, ↓wS_for, ↓wS_forP, ↓wS_asg, ↓wS_par, ↓wS_setIx, ↓wS_app, ↓tgW_one, ↓tgW_tup, pvF_eq, ↓wS.eq_1, ↓wS.eq_2, ↓wS.eq_3, ↓wS.eq_5, ↓wS.eq_7, ↓wS.eq_10, ↓wS.eq_11, ↓wS.eq_12, ↓wS.eq_13, ↓wS.eq_14, ↓wS.eq_15, ↓wS.eq_16, ↓wS.eq_17, ↓wS.eq_20, ↓wS.eq_21, ↓wS.eq_22, ↓wS.eq_23, ↓wS.eq_24, ↓wS.eq_25, ↓wS.eq_26, ↓wS.eq_27, ↓wS.eq_28, ↓wS.eq_29, ↓wS.eq_30, ↓augW.eq_1, ↓augW.eq_2, ↓augW.eq_3, ↓augW.eq_4, ↓inW.eq_1, ↓inW.eq_2, ↓inW.eq_3, ↓inW.eq_4, ↓zipW.eq_1, ↓zipW.eq_2, ↓zipW.eq_3, ↓cntW.eq_1, ↓dspW.eq_1, ↓idxW.eq_1, ↓opW.eq_1, ↓opW.eq_2, ↓opW.eq_3, ↓opW.eq_4, ↓opW.eq_5, ↓opW.eq_6, ↓opW.eq_7, ↓opW.eq_8, ↓opW.eq_9, ↓opW.eq_10, ↓opW.eq_11, ↓opW.eq_12, ↓opW.eq_13, ↓opW.eq_14, ↓cmpW.eq_1, ↓cmpW.eq_2, ↓cmpW.eq_5, ↓cmpW.eq_6, ↓cmpW.eq_7, ↓cmpW.eq_8, ↓cmpW.eq_9, ↓cmpW.eq_10, ↓cmpW.eq_11, ↓cmpW.eq_12, ↓cmp_ll, ↓cmp_lln, ↓cmp_tt, ↓cmp_ttn, ↓biW.eq_1, ↓biW.eq_2, ↓biW.eq_3, ↓biW.eq_4, ↓biW.eq_5, ↓biW.eq_6, ↓biW.eq_7, ↓biW.eq_8, ↓biW.eq_9, ↓biW.eq_10, ↓biW.eq_11, ↓biW.eq_12, ↓biW.eq_13, ↓biW.eq_14, ↓biW.eq_15, ↓biW.eq_16, ↓biW.eq_17, ↓lenW.eq_1, ↓lenW.eq_2, ↓slW.eq_1, ↓slW.eq_2, ↓revW.eq_1, ↓revW.eq_2, ↓pkW_var, ↓ptW_nil, ↓ptK_i, ↓pkW_cst, ↓pkW_tup, ↓pkW_lst, ↓pkW_bin, ↓pkW_neg, ↓pkW_ix, ↓pkW_sl, ↓pkW_rev, ↓pkW_call, ↓pkW_callP, ↓pkW_bi, ↓pkW_len, ↓pkW_lc, ↓pkW_ite, ↓pkW_gc, ↓pkW_mov, ↓pkW_dsp, ↓pkW_bone, ↓pkW_cmp, ↓pkW_cnt, ↓ptW_cst, ↓ptW_tup, ↓ptW_lst, ↓ptW_bin, ↓ptW_neg, ↓ptW_ix, ↓ptW_sl, ↓ptW_rev, ↓ptW_call, ↓ptW_callP, ↓ptW_bi, ↓ptW_len, ↓ptW_lc, ↓ptW_ite, ↓ptW_gc, ↓ptW_mov, ↓ptW_dsp, ↓ptW_bone, ↓ptW_cmp, ↓ptW_cnt, ↓ptW_var, ↓peek, ↓ownAt, ↓kD.eq_1, ↓kD.eq_2, ↓kM.eq_1, ↓kB.eq_1, ↓kV.eq_1, ↓kV.eq_2, ↓setW, ↓rngW1.eq_1, ↓rngW2.eq_1, ↓rngWd.eq_1, isVar, isNil, isT, gv, pv, setAll, ev0, items.eq_1, items.eq_2, tgs, wipeE, blind_cons, blind_nil, bl1, runB, List.map_cons, List.map_nil, List.replicate, List.cons_append, List.nil_append, if_true, if_false, ite_true, ite_false, reduceCtorEq, Bool.true_and, Bool.and_true, Bool.not_true, Bool.not_false, Bool.false_eq_true, ↓reduceIte, Nat.reduceSub, Nat.reduceAdd, List.length_cons, List.length_nil, decide_eq_true_eq, Bool.not_eq_true', decide_eq_false_iff_not, Bool.and_false, Bool.false_and, true_and, and_true, Nat.sub_self, Nat.succ_eq_add_one, flat, Nat.reduceLeDiff, Int.reduceLE, Int.reduceLT, Int.reduceEq, ne_eq, not_false_eq_true, s10, la_2, la_3, la_4, la_5, la_6, la_7, la_8, la_9, la_10, la_11, la_12, la_13, la_14, la_15, la_16, la_18, la_19, la_20, la_21, la_24, la_25, la_28, la_30, la_35, la_36, la_39, la_40, la_41, la_44, la_45, la_49, la_50, la_52, la_54, la_57, la_63, la_64, la_65, la_72, la_78, la_81, la_90, la_100, la_121, la_123, la_125, la_126, la_144, la_162, la_168, la_176, la_196, la_200, la_216, la_240, la_360, la_369, la_400, la_402, la_441, la_540, la_550, la_900, la_907, la_997, la_1009, la_1100, la_1152, la_1440, la_1764, la_2001, la_2003, la_2200, la_3150, la_4099, la_16807, la_22500, la_24200, la_72600, Nat.reduceLT, ↓ix_t0, ↓ix_t1, ↓ix_t2, ↓ix_t3, ↓ix_t4, ↓ix_t5, ↓ix_t6, ↓ix_l0, ↓ix_l1, ↓ix_l2, ↓ix_l3, ↓ix_l4, ↓ix_l5, ↓ix_l6, ↓add_ttz, ↓isT_tz, ↓sl_tz, isN_non, isN_tup, isN_lst, isN_int, isN_str, isN_bl, isN_fr, isN_tz, ↓hS.eq_1, ↓hS.eq_2, ↓hS.eq_3, ↓hS.eq_4, hE, hB, ↓hide.eq_1, ↓hide.eq_2, isS, Nat.reduceBEq, Bool.or_true, Bool.or_false, Bool.true_or, Bool.false_or, beq_self_eq_true, not_true_eq_false, Int.cast_ofNat_Int, ↓wE_callL, ↓wE_callLP, ↓kR_d, ↓kR_o, ↓kT_twoO, ↓kTP_two, ↓kTP_twoO, ↓pkW_callLP, ↓wE_lemp, ↓wE_lix, ↓wE_lpop0, ↓wE_lcL, ↓wE_lcK, ↓pkW_lcK, ↓kT_two, ↓lentAt, unlend_nil, unlend_cons, ul1_n, ul1_d, ul1_o, ul1_l, ↓wS_lend, ↓wS_lfn, ↓wS_retL, ↓wS_lset, ↓wS_asgN, ↓tgW_nst, noTwo_d, noTwo_o, ↓pkW_callL, ↓pkW_lix, ↓pkW_lemp, ↓pkW_lpop0, ↓pkW_lcL, ↓ptW_callL, ↓ptW_lix, ↓wE_lit, ↓pkW_lit, ↓ptW_lit, ↓cmp_geT, ↓wE_dget, ↓wE_dix, ↓wE_dsrt, ↓wE_dlc, ↓wE_lcD, ↓wE_srt, ↓wS_dnewT, ↓wS_dnewI, ↓wS_dset, ↓dictAt, itemsD_I, itemsD_T, ↓pkW_dget, ↓ptW_dget, ↓pkW_dix, ↓ptW_dix, ↓pkW_dsrt, ↓ptW_dsrt, ↓pkW_dlc, ↓ptW_dlc, ↓pkW_lcD, ↓ptW_lcD, ↓pkW_srt, ↓ptW_srt, ↓wE_callF, ↓kF_o, ↓wE_rvl, ↓rvlK_l, ↓wE_lset, ↓lsetK_l, ↓wE_emp, ↓wE_lcO, ↓pkW_lcO, ↓ptW_lcO, hTx, ↓hS.eq_5, ↓pkW_callF, ↓ptW_callF, ↓pkW_rvl, ↓ptW_rvl, ↓pkW_lset, ↓ptW_lset, ↓pkW_emp, ↓ptW_emp] at h2
  exact h2
end Rc

/-! Forms: rows of terms (powers, weight), gathered in a dict and sorted. -/
namespace Rc
open PySem
abbrev Tm := List Int × Int
def td (t : Tm) : D := .tuple [.tuple (t.1.map .int), .int t.2]
/-- the weight that stands by k -/
def wt (kv : List Tm) (k : List Int) : Int := ((kv.find? fun p => decide (p.1 = k)).map (·.2)).getD 0
def pt (kv : List Tm) (k : List Int) (w : Int) : List Tm := if (kv.any fun p => decide (p.1 = k)) = true then kv.map (fun p => if p.1 = k then (p.1, w) else p) else kv ++ [(k, w)]
def ad (kv : List Tm) (t : Tm) : List Tm := pt kv t.1 (wt kv t.1 + t.2)
def gath (ts : List Tm) : List Tm := ts.foldl ad []
/-- the sum of the weights by k -/
def cs : List Tm → List Int → Int
  | [], _ => 0
  | t :: r, k => (if t.1 = k then t.2 else 0) + cs r k
def toD (kv : List Tm) : List (List Int × D) := kv.map fun p => (p.1, .int p.2)
theorem toD_len (kv : List Tm) : (toD kv).length = kv.length := by unfold toD; rw [List.length_map]
theorem wt_nil (k : List Int) : wt [] k = 0 := rfl
theorem wt_cons (p : Tm) (r : List Tm) (k : List Int) : wt (p :: r) k = if p.1 = k then p.2 else wt r k := by
  unfold wt
  rw [List.find?_cons]
  by_cases e : p.1 = k
  · rw [decide_eq_true e, if_pos e]; rfl
  · rw [decide_eq_false e, if_neg e]
theorem lkp_toD (kv : List Tm) (k : List Int) : (lkp (toD kv) k).getD (.int 0) = .int (wt kv k) := by
  induction kv with
  | nil => rfl
  | cons p r ih =>
    rw [wt_cons]
    unfold toD at ih ⊢
    unfold lkp at ih ⊢
    rw [List.map_cons, List.find?_cons]
    by_cases e : p.1 = k
    · rw [if_pos e, decide_eq_true e]; rfl
    · rw [if_neg e, decide_eq_false e]; exact ih
theorem putL_toD (kv : List Tm) (k : List Int) (w : Int) : putL (toD kv) k (.int w) = toD (pt kv k w) := by
  have an : ((toD kv).any fun p => decide (p.1 = k)) = kv.any fun p => decide (p.1 = k) := by
    unfold toD
    rw [List.any_map]; rfl
  unfold putL pt
  rw [an]
  split
  · unfold toD
    rw [List.map_map, List.map_map]
    refine List.map_congr_left fun p _ => ?_
    show (if p.1 = k then (p.1, PyData.int w) else (p.1, .int p.2)) = ((if p.1 = k then (p.1, w) else p).1, PyData.int (if p.1 = k then (p.1, w) else p).2)
    by_cases e : p.1 = k
    · rw [if_pos e, if_pos e]
    · rw [if_neg e, if_neg e]
  · unfold toD
    rw [List.map_append]; rfl
theorem pt_keys (kv : List Tm) (k : List Int) (w : Int) : (pt kv k w).map (·.1) = if k ∈ kv.map (·.1) then kv.map (·.1) else kv.map (·.1) ++ [k] := by
  have an : (kv.any fun p => decide (p.1 = k)) = true ↔ k ∈ kv.map (·.1) := by
    rw [List.any_eq_true, List.mem_map]
    constructor
    · rintro ⟨p, h1, h2⟩; exact ⟨p, h1, of_decide_eq_true h2⟩
    · rintro ⟨p, h1, h2⟩; exact ⟨p, h1, decide_eq_true h2⟩
  unfold pt
  by_cases h : k ∈ kv.map (·.1)
  · rw [if_pos (an.mpr h), if_pos h, List.map_map]
    refine List.map_congr_left fun p _ => ?_
    show (if p.1 = k then (p.1, w) else p).1 = p.1
    split <;> rfl
  · rw [if_neg (fun z => h (an.mp z)), if_neg h, List.map_append]; rfl
theorem pt_nodup {kv : List Tm} {k : List Int} {w : Int} (h : (kv.map (·.1)).Nodup) : ((pt kv k w).map (·.1)).Nodup := by
  rw [pt_keys]
  split
  · exact h
  · rename_i hk
    rw [List.nodup_append]
    refine ⟨h, by simp, fun a ha b hb => ?_⟩
    have : b = k := by simpa using hb
    subst this
    exact fun e => hk (e ▸ ha)
theorem pt_wt (kv : List Tm) (k j : List Int) (w : Int) : wt (pt kv k w) j = if j = k then w else wt kv j := by
  have g1 : ∀ kv : List Tm, k ∈ kv.map (·.1) → wt (kv.map (fun p => if p.1 = k then (p.1, w) else p)) j = if j = k then w else wt kv j := by
    intro kv
    induction kv with
    | nil => intro h; cases h
    | cons p r ih =>
      intro h
      rw [List.map_cons, wt_cons, wt_cons]
      by_cases e : p.1 = k
      · rw [if_pos e]
        show (if p.1 = j then w else _) = _
        by_cases ej : j = k
        · rw [if_pos (e.trans ej.symm), if_pos ej]
        · rw [if_neg (fun z => ej (z.symm.trans e)), if_neg ej, if_neg (fun z => ej (z.symm.trans e))]
          by_cases hr : k ∈ r.map (·.1)
          · rw [ih hr, if_neg ej]
          · have : r.map (fun p => if p.1 = k then (p.1, w) else p) = r := by
              conv => rhs; rw [← List.map_id r]
              refine List.map_congr_left fun q hq => if_neg fun z => hr (List.mem_map.mpr ⟨q, hq, z⟩)
            rw [this]
      · rw [if_neg e]
        have hr : k ∈ r.map (·.1) := by
          rcases List.mem_cons.mp h with z | z
          · exact absurd z.symm e
          · exact z
        rw [ih hr]
        by_cases ej : j = k
        · rw [if_pos ej, if_pos ej, if_neg (fun z => e (z.trans ej))]
        · rw [if_neg ej, if_neg ej]
  have g2 : ∀ kv : List Tm, k ∉ kv.map (·.1) → wt (kv ++ [(k, w)]) j = if j = k then w else wt kv j := by
    intro kv
    induction kv with
    | nil =>
      intro _
      show wt [(k, w)] j = _
      rw [wt_cons, wt_nil]
      by_cases ej : j = k
      · rw [if_pos ej.symm, if_pos ej]
      · rw [if_neg (fun z => ej z.symm), if_neg ej]
    | cons p r ih =>
      intro h
      have h1 : ¬ p.1 = k := fun z => h (by rw [List.map_cons, z]; exact List.mem_cons_self ..)
      have h2 : k ∉ r.map (·.1) := fun z => h (List.mem_cons_of_mem _ z)
      rw [List.cons_append, wt_cons, wt_cons, ih h2]
      by_cases ej : j = k
      · rw [if_pos ej, if_pos ej, if_neg (fun z => h1 (z.trans ej))]
      · rw [if_neg ej, if_neg ej]
  have an : (kv.any fun p => decide (p.1 = k)) = true ↔ k ∈ kv.map (·.1) := by
    rw [List.any_eq_true, List.mem_map]
    constructor
    · rintro ⟨p, h1, h2⟩; exact ⟨p, h1, of_decide_eq_true h2⟩
    · rintro ⟨p, h1, h2⟩; exact ⟨p, h1, decide_eq_true h2⟩
  unfold pt
  by_cases h : k ∈ kv.map (·.1)
  · rw [if_pos (an.mpr h)]; exact g1 kv h
  · rw [if_neg (fun z => h (an.mp z))]; exact g2 kv h
theorem gath_go (ts : List Tm) : ∀ kv : List Tm, (kv.map (·.1)).Nodup → ((ts.foldl ad kv).map (·.1)).Nodup ∧ (∀ k, wt (ts.foldl ad kv) k = wt kv k + cs ts k) ∧ (∀ k ∈ (ts.foldl ad kv).map (·.1), k ∈ kv.map (·.1) ∨ k ∈ ts.map (·.1)) ∧ (ts.foldl ad kv).length ≤ kv.length + ts.length := by
  induction ts with
  | nil =>
    intro kv h
    refine ⟨h, fun k => ?_, fun k hk => .inl hk, Nat.le_refl _⟩
    show wt kv k = wt kv k + 0
    omega
  | cons t r ih =>
    intro kv h
    obtain ⟨a1, a2, a3, a4⟩ := ih (ad kv t) (pt_nodup h)
    refine ⟨a1, fun k => ?_, fun k hk => ?_, ?_⟩
    · show wt (r.foldl ad (ad kv t)) k = _
      rw [a2 k]
      unfold ad
      rw [pt_wt]
      show _ = wt kv k + ((if t.1 = k then t.2 else 0) + cs r k)
      by_cases e : k = t.1
      · rw [if_pos e, if_pos e.symm, e]; omega
      · rw [if_neg e, if_neg (fun z => e z.symm)]; omega
    · rcases a3 k hk with z | z
      · unfold ad at z
        rw [pt_keys] at z
        split at z
        · exact .inl z
        · rcases List.mem_append.mp z with z | z
          · exact .inl z
          · exact .inr (by rw [List.map_cons]; exact List.mem_cons.mpr (.inl (by simpa using z)))
      · exact .inr (List.mem_cons_of_mem _ z)
    · have : (ad kv t).length ≤ kv.length + 1 := by
        unfold ad pt
        split
        · rw [List.length_map]; omega
        · rw [List.length_append]; simp
      show (r.foldl ad (ad kv t)).length ≤ _
      rw [List.length_cons]
      omega
theorem gath_nodup (ts : List Tm) : ((gath ts).map (·.1)).Nodup := (gath_go ts [] List.nodup_nil).1
theorem gath_wt (ts : List Tm) (k : List Int) : wt (gath ts) k = cs ts k := by
  have := (gath_go ts [] List.nodup_nil).2.1 k
  rw [wt_nil] at this
  show wt (ts.foldl ad []) k = _
  omega
theorem gath_mem {ts : List Tm} {k : List Int} (h : k ∈ (gath ts).map (·.1)) : k ∈ ts.map (·.1) := by
  rcases (gath_go ts [] List.nodup_nil).2.2.1 k h with z | z
  · cases z
  · exact z
theorem gath_len (ts : List Tm) : (gath ts).length ≤ ts.length := by
  have := (gath_go ts [] List.nodup_nil).2.2.2
  show (ts.foldl ad []).length ≤ _
  simpa using this
theorem wt_mem {kv : List Tm} (h : (kv.map (·.1)).Nodup) : ∀ {t : Tm}, t ∈ kv → wt kv t.1 = t.2 := by
  induction kv with
  | nil => intro t h; cases h
  | cons p r ih =>
    intro t ht
    rw [List.map_cons, List.nodup_cons] at h
    rw [wt_cons]
    rcases List.mem_cons.mp ht with e | ht
    · subst e; rw [if_pos rfl]
    · rw [if_neg (fun z => h.1 (by rw [z]; exact List.mem_map_of_mem ht))]
      exact ih h.2 ht
theorem wt_none {kv : List Tm} {k : List Int} (h : k ∉ kv.map (·.1)) : wt kv k = 0 := by
  induction kv with
  | nil => rfl
  | cons p r ih =>
    rw [wt_cons, if_neg (fun z => h (by rw [List.map_cons, z]; exact List.mem_cons_self ..))]
    exact ih fun z => h (List.mem_cons_of_mem _ z)
/-! ### in order -/
theorem ge_lt : ∀ a b : List Int, geI a b = !decide (a < b)
  | a, [] => by
    unfold geI
    rw [decide_eq_false (List.not_lt_nil a)]; rfl
  | [], y :: t => by
    unfold geI
    rw [decide_eq_true (List.nil_lt_cons y t)]; rfl
  | x :: r, y :: t => by
    unfold geI
    by_cases e : x = y
    · subst e
      rw [if_pos rfl, ge_lt r t]
      congr 1
      rw [decide_eq_decide, List.cons_lt_cons_iff]
      constructor
      · exact fun h => .inr ⟨rfl, h⟩
      · rintro (h | ⟨_, h⟩)
        · omega
        · exact h
    · rw [if_neg e]
      rw [← decide_not, decide_eq_decide, List.cons_lt_cons_iff]
      constructor
      · rintro h (q | ⟨q, _⟩)
        · omega
        · exact e q
      · intro h
        have : ¬ x < y := fun q => h (.inl q)
        omega
theorem ge_anti : ∀ {a b : List Int}, geI a b = true → geI b a = true → a = b
  | [], [], _, _ => rfl
  | [], _ :: _, h, _ => by cases h
  | _ :: _, [], _, h => by cases h
  | x :: r, y :: t, h, h' => by
    unfold geI at h h'
    by_cases e : x = y
    · subst e
      rw [if_pos rfl] at h h'
      rw [ge_anti h h']
    · rw [if_neg e, decide_eq_true_eq] at h
      rw [if_neg (Ne.symm e), decide_eq_true_eq] at h'
      omega
/-- a row of terms in order, none twice, no weight 0 -/
structure Fm (f : List Tm) : Prop where
  up : f.Pairwise fun a b => geI a.1 b.1 = false
  nz : ∀ t ∈ f, t.2 ≠ 0
def leT (a b : Tm) : Bool := PySem.W.dataLe false td a b
def frm (ts : List Tm) : List Tm := ((gath ts).filter fun t => decide (t.2 ≠ 0)).mergeSort leT
theorem sort_td (l : List Tm) : (l.map td).mergeSort (PySem.W.dataLe false id) = (l.mergeSort leT).map td :=
  (List.map_mergeSort (r := leT) (s := PySem.W.dataLe false id) (f := td) (l := l) (fun a _ b _ => rfl)).symm
theorem al_ints : ∀ {a b : List Int}, PySem.W.alike (.tuple (a.map .int)) (.tuple (b.map .int)) = true := fun {a b} => by
  show PySem.W.alikeAll _ _ = true
  exact PySem.W.alike_ints a b
theorem al_td (a b : Tm) : PySem.W.alike (td a) (td b) = true := by
  show PySem.W.alikeAll [_, _] [_, _] = true
  rw [PySem.W.alikeAll, PySem.W.alikeAll, PySem.W.alikeAll]
  rw [al_ints]
  rfl
theorem lt_td {a b : Tm} (h : a.1 ≠ b.1) : PySem.W.dataLt (td a) (td b) = decide (a.1 < b.1) := by
  unfold td
  rw [PySem.W.dataLt_pair al_ints rfl]
  have e : PyData.eqv (.tuple (a.1.map .int)) (.tuple (b.1.map .int)) = false := by rw [eqvT, decide_eq_false h]
  rw [e, if_neg Bool.false_ne_true, PySem.W.dataLt_tuple]
  exact PySem.W.dataLt_ints a.1 b.1
theorem leT_of {a b : Tm} (h : leT a b = true) (ne : a.1 ≠ b.1) : geI a.1 b.1 = false := by
  have h : (!PySem.W.dataLt (td b) (td a)) = true := h
  rw [lt_td (Ne.symm ne), ← ge_lt] at h
  cases z : geI a.1 b.1 with
  | false => rfl
  | true => exact absurd (ge_anti z h) ne
theorem leT_tot : PySem.W.TotalLe leT := PySem.W.sortLe_total (PyProof.Rows.listOrd PyProof.Rows.itemOrd) false (fun b => PySem.W.keyToks (td b))
theorem frm_perm (ts : List Tm) : (frm ts).Perm ((gath ts).filter fun t => decide (t.2 ≠ 0)) := List.mergeSort_perm _ _
theorem frm_nodup (ts : List Tm) : ((frm ts).map (·.1)).Nodup := by
  have h1 : (((gath ts).filter fun t => decide (t.2 ≠ 0)).map (·.1)).Nodup := List.Nodup.sublist (List.Sublist.map _ List.filter_sublist) (gath_nodup ts)
  exact ((frm_perm ts).map _).nodup_iff.mpr h1
theorem frm_ok (ts : List Tm) : Fm (frm ts) where
  up := by
    have s : (frm ts).Pairwise fun a b => leT a b = true := List.pairwise_mergeSort (fun a b c => leT_tot.trans a b c) (fun a b => by
      rcases leT_tot.total a b with h | h <;> simp [h]) _
    have n : (frm ts).Pairwise fun a b => a.1 ≠ b.1 := by
      have := frm_nodup ts
      rw [List.Nodup, List.pairwise_map] at this
      exact this
    exact List.Pairwise.imp (fun ⟨h1, h2⟩ => leT_of h1 h2) (s.and n)
  nz := fun t ht => by
    have := (frm_perm ts).mem_iff.mp ht
    rw [List.mem_filter] at this
    exact of_decide_eq_true this.2
theorem frm_mem {ts : List Tm} {t : Tm} (h : t ∈ frm ts) : t.1 ∈ ts.map (·.1) ∧ cs ts t.1 = t.2 := by
  have := (frm_perm ts).mem_iff.mp h
  rw [List.mem_filter] at this
  exact ⟨gath_mem (List.mem_map_of_mem this.1), by rw [← gath_wt, wt_mem (gath_nodup ts) this.1]⟩
theorem frm_len (ts : List Tm) : (frm ts).length ≤ ts.length := by
  rw [(frm_perm ts).length_eq]
  exact Nat.le_trans (List.length_filter_le _ _) (gath_len ts)
theorem td_depth (t : Tm) : (td t).depth ≤ 16 := by
  have := (shTup (n := 1) (xs := [.tuple (t.1.map .int), .int t.2]) fun x hx => by
    simp only [List.mem_cons, List.not_mem_nil, or_false] at hx
    rcases hx with rfl | rfl
    · exact shTup (shInts t.1)
    · exact shInt _).2
  unfold td
  omega
/-- drawn numbers -/
def Dr (xs : List D) : Prop := ∃ ns : List Int, xs = ns.map .int ∧ ∀ z ∈ ns, 0 ≤ z ∧ z < 10 ^ 41
/-- a drawn term, powers to m -/
def Tk (m : Nat) (t : Tm) : Prop := ∃ i j l : Int, t.1 = [i, j, l] ∧ (0 ≤ i ∧ i ≤ m) ∧ (0 ≤ j ∧ j ≤ m) ∧ (0 ≤ l ∧ l ≤ m) ∧ Bt 70 t.2
/-! ### what is a form -/
def nonneg : D → Bool
  | .int i => decide (0 ≤ i)
  | _ => false
/-- whether a thing is a term -/
def isTm : D → Bool
  | .tuple [.tuple ps, .int w] => decide (w ≠ 0) && (decide (ps.length = 3) && ps.all nonneg)
  | _ => false
/-- each one before the next -/
def chn : List Tm → Bool
  | a :: b :: r => !geI a.1 b.1 && chn (b :: r)
  | _ => true
theorem nonneg_ints : ∀ {ps : List D}, ps.all nonneg = true → ∃ k : List Int, ps = k.map .int ∧ ∀ z ∈ k, 0 ≤ z
  | [], _ => ⟨[], rfl, fun z hz => by cases hz⟩
  | p :: r, h => by
    rw [List.all_cons, Bool.and_eq_true] at h
    obtain ⟨k, e, hk⟩ := nonneg_ints h.2
    cases p with
    | int i =>
      refine ⟨i :: k, by rw [e]; rfl, fun z hz => ?_⟩
      rcases List.mem_cons.mp hz with e | hz
      · rw [e]; exact of_decide_eq_true h.1
      · exact hk z hz
    | _ => cases h.1
theorem isTm_td {d : D} (h : isTm d = true) : ∃ t : Tm, d = td t ∧ t.2 ≠ 0 ∧ t.1.length = 3 ∧ ∀ z ∈ t.1, 0 ≤ z := by
  unfold isTm at h
  split at h
  · rename_i ps w
    simp only [Bool.and_eq_true, decide_eq_true_eq] at h
    obtain ⟨h1, h2, h3⟩ := h
    obtain ⟨k, rfl, hk⟩ := nonneg_ints h3
    exact ⟨(k, w), rfl, h1, by simpa using h2, hk⟩
  · cases h
theorem td_isTm {t : Tm} (h1 : t.2 ≠ 0) (h2 : t.1.length = 3) (h3 : ∀ z ∈ t.1, 0 ≤ z) : isTm (td t) = true := by
  show (decide (t.2 ≠ 0) && (decide ((t.1.map PyData.int).length = 3) && (t.1.map PyData.int).all nonneg)) = true
  rw [List.length_map, decide_eq_true h1, decide_eq_true h2, Bool.true_and, Bool.true_and, List.all_eq_true]
  intro x hx
  obtain ⟨z, hz, rfl⟩ := List.mem_map.mp hx
  exact decide_eq_true (h3 z hz)
theorem allTm {xs : List D} (h : xs.all isTm = true) : ∃ ts : List Tm, xs = ts.map td := by
  induction xs with
  | nil => exact ⟨[], rfl⟩
  | cons x r ih =>
    rw [List.all_cons, Bool.and_eq_true] at h
    obtain ⟨t, e, _⟩ := isTm_td h.1
    obtain ⟨ts, e2⟩ := ih h.2
    exact ⟨t :: ts, by rw [e, e2]; rfl⟩
theorem chn_pw : ∀ {ts : List Tm}, ts.Pairwise (fun a b => geI a.1 b.1 = false) → chn ts = true
  | [], _ => rfl
  | [_], _ => rfl
  | a :: b :: r, h => by
    rw [List.pairwise_cons] at h
    show (!geI a.1 b.1 && chn (b :: r)) = true
    rw [h.1 b (List.mem_cons_self ..), chn_pw h.2]; rfl
theorem chn_mid : ∀ {a : List Tm} {x y : Tm} {b : List Tm}, geI x.1 y.1 = true → chn (a ++ x :: y :: b) = false
  | [], x, y, b, h => by
    show (!geI x.1 y.1 && chn (y :: b)) = false
    rw [h]; rfl
  | [c], x, y, b, h => by
    show (!geI c.1 x.1 && chn ([] ++ x :: y :: b)) = false
    rw [chn_mid h, Bool.and_false]
  | c :: d :: a, x, y, b, h => by
    show (!geI c.1 d.1 && chn ((d :: a) ++ x :: y :: b)) = false
    rw [chn_mid h, Bool.and_false]
theorem ge_self : ∀ a : List Int, geI a a = true
  | [] => rfl
  | x :: r => by
    unfold geI
    rw [if_pos rfl]; exact ge_self r
theorem ge_flip {a b : List Int} (h : geI a b = false) : geI b a = true := by
  rw [ge_lt] at h ⊢
  rw [Bool.not_eq_false', decide_eq_true_eq] at h
  rw [Bool.not_eq_true', decide_eq_false_iff_not]
  exact fun z => absurd (List.lt_trans h z) (List.lt_irrefl a)
/-- whether a thing is a form -/
def isFm : D → Bool
  | .tuple xs => xs.all isTm && (match xs with
    | [] => true
    | xs => chn (xs.map fun d => match d with
      | .tuple [.tuple ps, .int w] => ((asInts ps).getD [], w)
      | _ => ([], 0)))
  | _ => false
theorem isFm_td {ts : List Tm} (h : (ts.map td).all isTm = true) : isFm (.tuple (ts.map td)) = chn ts := by
  have e : (ts.map td).map (fun d => match d with
      | PyData.tuple [.tuple ps, .int w] => (((asInts ps).getD [], w) : Tm)
      | _ => ([], 0)) = ts := by
    rw [List.map_map]
    conv => rhs; rw [← List.map_id ts]
    refine List.map_congr_left fun t _ => ?_
    show ((asInts (t.1.map .int)).getD [], t.2) = t
    have : asInts (t.1.map .int) = some t.1 := keyT_l t.1
    rw [this]; rfl
  show ((ts.map td).all isTm && _) = _
  rw [h, Bool.true_and]
  cases ts with
  | nil => rfl
  | cons t r => exact congrArg chn e
theorem isFm_no {xs : List D} (h : xs.all isTm = false) : isFm (.tuple xs) = false := by
  show (xs.all isTm && _) = false
  rw [h]; rfl
theorem atI_in {xs : List D} {r : Int} (h0 : 0 ≤ r) (h1 : r < (xs.length : Int)) : ∃ v, L2.atI xs r = some v ∧ v ∈ xs := by
  obtain ⟨n, rfl⟩ : ∃ n : Nat, r = n := ⟨r.toNat, by omega⟩
  have hn : n < xs.length := by omega
  exact ⟨xs[n], atI_nat (by simp [hn]), List.getElem_mem hn⟩
theorem shTd (n : Nat) (t : Tm) : Sh (n + 2) (td t) := shTup fun x hx => by
  simp only [List.mem_cons, List.not_mem_nil, or_false] at hx
  rcases hx with rfl | rfl
  · exact shTup (shInts t.1)
  · exact shInt _
theorem shTds (n : Nat) (ts : List Tm) : Sh (n + 3) (.tuple (ts.map td)) := shTup fun x hx => by
  obtain ⟨t, _, rfl⟩ := List.mem_map.mp hx
  exact shTd n t
theorem eqv_empT : ∀ xs : List D, PyData.eqv (.tuple xs) (.tuple []) = xs.isEmpty
  | [] => rfl
  | _ :: _ => rfl
theorem ix_in {Q : D → Prop} {q : Tok Q} {xs : List D} {i : Int} (h0 : 0 ≤ i) (h1 : i < (xs.length : Int)) (h : ∀ v ∈ xs, Q v) : ixF Q q (.list xs) (.int i) := by
  obtain ⟨v, hv, hm⟩ := atI_in h0 h1
  exact ix_lst hv (h v hm)
theorem fm_k {f : List Tm} (h : Fm f) (k : ∀ t ∈ f, t.1.length = 3 ∧ ∀ z ∈ t.1, 0 ≤ z) : (f.map td).all isTm = true := by
  rw [List.all_eq_true]
  intro x hx
  obtain ⟨t, ht, rfl⟩ := List.mem_map.mp hx
  exact td_isTm (h.nz t ht) (k t ht).1 (k t ht).2
theorem all_out {a b : List D} {x : D} (h : isTm x = false) : (a ++ [x] ++ b).all isTm = false := by
  rw [List.all_append, List.all_append]
  simp [h]
theorem cut_to {α : Type} (xs : List α) (n : Nat) : cut xs none (some (n : Int)) = xs.take n := by
  unfold cut
  rw [HT.sIx_none, HT.sIx_nat, List.drop_zero, Nat.sub_zero]
  rcases Nat.le_total n xs.length with h | h
  · rw [Nat.min_eq_left h]
  · rw [Nat.min_eq_right h, List.take_length, List.take_of_length_le h]
theorem cut_from {α : Type} (xs : List α) (n : Nat) : cut xs (some (n : Int)) none = xs.drop n := by
  unfold cut
  rw [HT.sIx_none, HT.sIx_nat]
  rcases Nat.le_total n xs.length with h | h
  · rw [Nat.min_eq_left h, List.take_of_length_le (by rw [List.length_drop]; omega)]
  · rw [Nat.min_eq_right h, List.drop_length, List.take_nil, List.drop_eq_nil_of_le h]
end Rc

/-! Forms: one form of each sum; sums, products, values. -/
namespace Rc
open PySem
theorem cs_app (a b : List Tm) (k : List Int) : cs (a ++ b) k = cs a k + cs b k := by
  induction a with
  | nil => show cs b k = 0 + cs b k; omega
  | cons t r ih =>
    show (if t.1 = k then t.2 else 0) + cs (r ++ b) k = (if t.1 = k then t.2 else 0) + cs r k + cs b k
    rw [ih]; omega
theorem cs_perm {a b : List Tm} (h : a.Perm b) (k : List Int) : cs a k = cs b k := by
  induction h with
  | nil => rfl
  | cons x _ ih => show _ + _ = _ + _; rw [ih]
  | swap x y l => show _ + (_ + _) = _ + (_ + _); omega
  | trans _ _ h1 h2 => rw [h1, h2]
theorem cs_rev (a : List Tm) (k : List Int) : cs a.reverse k = cs a k := cs_perm (List.reverse_perm a) k
theorem cs_scl (a : List Tm) (w : Int) (k : List Int) : cs (a.map fun t => (t.1, t.2 * w)) k = cs a k * w := by
  induction a with
  | nil => show (0 : Int) = 0 * w; omega
  | cons t r ih =>
    show (if t.1 = k then t.2 * w else 0) + cs (r.map fun t => (t.1, t.2 * w)) k = ((if t.1 = k then t.2 else 0) + cs r k) * w
    rw [ih, Int.add_mul]
    split <;> simp
theorem cs_nz (a : List Tm) (k : List Int) : cs (a.filter fun t => decide (t.2 ≠ 0)) k = cs a k := by
  induction a with
  | nil => rfl
  | cons t r ih =>
    by_cases h : t.2 ≠ 0
    · rw [List.filter_cons_of_pos (by simpa using h)]
      show _ + _ = _ + _
      rw [ih]
    · rw [List.filter_cons_of_neg (by simpa using h), ih]
      show _ = (if t.1 = k then t.2 else 0) + cs r k
      have : t.2 = 0 := Classical.byContradiction h
      rw [this]
      split <;> omega
theorem cs_none {a : List Tm} {k : List Int} (h : k ∉ a.map (·.1)) : cs a k = 0 := by
  induction a with
  | nil => rfl
  | cons t r ih =>
    show (if t.1 = k then t.2 else 0) + cs r k = 0
    rw [List.map_cons, List.mem_cons, not_or] at h
    rw [if_neg (fun z => h.1 z.symm), ih h.2]
    omega
theorem cs_one {a : List Tm} (n : (a.map (·.1)).Nodup) {t : Tm} (h : t ∈ a) : cs a t.1 = t.2 := by
  induction a with
  | nil => cases h
  | cons x r ih =>
    rw [List.map_cons, List.nodup_cons] at n
    show (if x.1 = t.1 then x.2 else 0) + cs r t.1 = t.2
    rcases List.mem_cons.mp h with rfl | h
    · rw [if_pos rfl, cs_none n.1]; omega
    · rw [if_neg (fun z => n.1 (by rw [z]; exact List.mem_map_of_mem h)), ih n.2 h]; omega
theorem cs_wt {a : List Tm} (n : (a.map (·.1)).Nodup) (k : List Int) : cs a k = wt a k := by
  by_cases h : k ∈ a.map (·.1)
  · obtain ⟨t, ht, rfl⟩ := List.mem_map.mp h
    rw [cs_one n ht, wt_mem n ht]
  · rw [cs_none h, wt_none h]
theorem cs_frm (ts : List Tm) (k : List Int) : cs (frm ts) k = cs ts k := by
  rw [cs_perm (frm_perm ts), cs_nz, cs_wt (gath_nodup ts), gath_wt]
theorem lt_tr {a b c : List Int} (h1 : geI a b = false) (h2 : geI b c = false) : geI a c = false := by
  rw [ge_lt] at *
  simp only [Bool.not_eq_false', decide_eq_true_eq] at *
  exact List.lt_trans h1 h2
theorem lt_irr (a : List Int) : geI a a = true := ge_self a
theorem Fm.nodup {a : List Tm} (h : Fm a) : (a.map (·.1)).Nodup := by
  rw [List.Nodup, List.pairwise_map]
  exact h.up.imp fun {x y} q z => by
    rw [z, lt_irr] at q; cases q
theorem fm_list : ∀ {a b : List Tm}, a.Pairwise (fun x y => geI x.1 y.1 = false) → b.Pairwise (fun x y => geI x.1 y.1 = false) → (∀ t, t ∈ a ↔ t ∈ b) → a = b
  | [], [], _, _, _ => rfl
  | [], y :: s, _, _, h => absurd ((h y).mpr (List.mem_cons_self ..)) List.not_mem_nil
  | x :: r, [], _, _, h => absurd ((h x).mp (List.mem_cons_self ..)) List.not_mem_nil
  | x :: r, y :: s, h1, h2, h => by
    rw [List.pairwise_cons] at h1 h2
    have e : x = y := by
      rcases List.mem_cons.mp ((h x).mp (List.mem_cons_self ..)) with e | hx
      · exact e
      · rcases List.mem_cons.mp ((h y).mpr (List.mem_cons_self ..)) with e | hy
        · exact e.symm
        · have := lt_tr (h2.1 x hx) (h1.1 y hy)
          rw [lt_irr] at this; cases this
    subst e
    have : r = s := fm_list h1.2 h2.2 fun t => ⟨fun ht => by
      rcases List.mem_cons.mp ((h t).mp (List.mem_cons_of_mem _ ht)) with e | q
      · subst e
        have := h1.1 t ht
        rw [lt_irr] at this; cases this
      · exact q, fun ht => by
      rcases List.mem_cons.mp ((h t).mpr (List.mem_cons_of_mem _ ht)) with e | q
      · subst e
        have := h2.1 t ht
        rw [lt_irr] at this; cases this
      · exact q⟩
    rw [this]
theorem fm_mem {a : List Tm} (h : Fm a) (t : Tm) : t ∈ a ↔ t.2 ≠ 0 ∧ cs a t.1 = t.2 := by
  constructor
  · exact fun ht => ⟨h.nz t ht, cs_one h.nodup ht⟩
  · rintro ⟨h0, h1⟩
    by_cases q : t.1 ∈ a.map (·.1)
    · obtain ⟨s, hs, e⟩ := List.mem_map.mp q
      have := cs_one h.nodup hs
      rw [e, h1] at this
      have : s = t := Prod.ext e this.symm
      rw [← this]; exact hs
    · rw [cs_none q] at h1
      exact absurd h1.symm h0
theorem fm_eq {a b : List Tm} (fa : Fm a) (fb : Fm b) (h : ∀ k, cs a k = cs b k) : a = b := fm_list fa.up fb.up fun t => by rw [fm_mem fa, fm_mem fb, h]
theorem frm_ext {a b : List Tm} (h : ∀ k, cs a k = cs b k) : frm a = frm b := fm_eq (frm_ok a) (frm_ok b) fun k => by rw [cs_frm, cs_frm, h]
theorem frm_id {a : List Tm} (h : Fm a) : frm a = a := fm_eq (frm_ok a) h fun k => cs_frm a k
/-! ### products -/
def addk (a b : List Int) : List Int := List.zipWith (· + ·) a b
def prods (f g : List Tm) : List Tm := f.flatMap fun a => g.map fun b => (addk a.1 b.1, a.2 * b.2)
theorem prods_len (f g : List Tm) : (prods f g).length = f.length * g.length := by
  induction f with
  | nil => show 0 = 0 * g.length; omega
  | cons a r ih =>
    show (g.map _ ++ prods r g).length = (r.length + 1) * g.length
    rw [List.length_append, List.length_map, ih, Nat.succ_mul]
    omega
/-- three powers, to m -/
def K3 (m : Nat) (t : Tm) : Prop := ∃ i j l : Nat, t.1 = [(i : Int), (j : Int), (l : Int)] ∧ i ≤ m ∧ j ≤ m ∧ l ≤ m
theorem Tk.k3 {m : Nat} {t : Tm} (h : Tk m t) : K3 m t := by
  obtain ⟨i, j, l, e, h1, h2, h3, _⟩ := h
  refine ⟨i.toNat, j.toNat, l.toNat, ?_, by omega, by omega, by omega⟩
  rw [e, Int.toNat_of_nonneg h1.1, Int.toNat_of_nonneg h2.1, Int.toNat_of_nonneg h3.1]
theorem frm_k3 {m : Nat} {ts : List Tm} (h : ∀ t ∈ ts, K3 m t) : ∀ t ∈ frm ts, K3 m t := fun t ht => by
  obtain ⟨s, hs, e⟩ := List.mem_map.mp (frm_mem ht).1
  obtain ⟨i, j, l, e2, h2⟩ := h s hs
  exact ⟨i, j, l, by rw [← e, e2], h2⟩
theorem cs_bt {b : Nat} (k : List Int) : ∀ {ts : List Tm}, (∀ t ∈ ts, Bt b t.2) → (cs ts k).natAbs ≤ ts.length * 2 ^ b
  | [], _ => by show Int.natAbs 0 ≤ _; simp
  | t :: r, h => by
    have ih := cs_bt (b := b) k fun s hs => h s (List.mem_cons_of_mem _ hs)
    have ht : t.2.natAbs < 2 ^ b := h t (List.mem_cons_self ..)
    show ((if t.1 = k then t.2 else 0) + cs r k).natAbs ≤ (r.length + 1) * 2 ^ b
    rw [Nat.succ_mul]
    split <;> omega
theorem frm_bt {b c : Nat} {ts : List Tm} (h : ∀ t ∈ ts, Bt b t.2) (hl : ts.length < 2 ^ c) : ∀ t ∈ frm ts, Bt (b + c) t.2 := fun t ht => by
  have e := (frm_mem ht).2
  have := cs_bt t.1 h
  rw [e] at this
  show t.2.natAbs < 2 ^ (b + c)
  have h2 : ts.length * 2 ^ b < 2 ^ c * 2 ^ b := Nat.mul_lt_mul_of_pos_right hl (Nat.two_pow_pos b)
  rw [Nat.pow_add, Nat.mul_comm (2 ^ b)]
  omega
theorem eqvTd : ∀ f g : List Tm, PyData.eqvAll (f.map td) (g.map td) = decide (f = g)
  | [], [] => rfl
  | [], _ :: _ => rfl
  | _ :: _, [] => rfl
  | a :: r, b :: s => by
    show (PyData.eqv (td a) (td b) && PyData.eqvAll (r.map td) (s.map td)) = _
    rw [eqvTd r s, show PyData.eqv (td a) (td b) = (PyData.eqv (.tuple (a.1.map .int)) (.tuple (b.1.map .int)) && (PyData.eqv (.int a.2) (.int b.2) && true)) from rfl, eqvT]
    rw [show PyData.eqv (.int a.2) (.int b.2) = decide (a.2 = b.2) from rfl]
    rw [Bool.eq_iff_iff]
    simp only [Bool.and_eq_true, decide_eq_true_eq, Bool.and_true, List.cons.injEq, and_congr_left_iff]
    intro _
    exact ⟨fun ⟨h1, h2⟩ => Prod.ext h1 h2, fun h => by rw [h]; exact ⟨rfl, rfl⟩⟩
theorem eqvTdT (f g : List Tm) : PyData.eqv (.tuple (f.map td)) (.tuple (g.map td)) = decide (f = g) := eqvTd f g
theorem eqvTdL (f g : List Tm) : PyData.eqv (.list (f.map td)) (.list (g.map td)) = decide (f = g) := eqvTd f g
theorem shTdT (f : List Tm) : SeqAt.shaped (.tuple (f.map td)) = true := shaped_of (shTds 0 f) (by decide)
theorem shTdL (f : List Tm) : SeqAt.shaped (.list (f.map td)) = true := shaped_of (n := 3) (shLst fun x hx => by
  obtain ⟨t, _, rfl⟩ := List.mem_map.mp hx
  exact shTd 0 t) (by decide)
/-! ### values -/
/-- the value of a term at three fractions: top and bottom -/
def oT (q : List Rat) (t : Tm) : Int := match q, t.1 with
  | [a, b, c], [i, j, l] => t.2 * a.num ^ i.toNat * b.num ^ j.toNat * c.num ^ l.toNat
  | _, _ => 0
def uT (q : List Rat) (t : Tm) : Int := match q, t.1 with
  | [a, b, c], [i, j, l] => (a.den : Int) ^ i.toNat * (b.den : Int) ^ j.toNat * (c.den : Int) ^ l.toNat
  | _, _ => 1
def vT (q : List Rat) (t : Tm) : Rat := match q, t.1 with
  | [a, b, c], [i, j, l] => (t.2 : Rat) * a ^ i.toNat * b ^ j.toNat * c ^ l.toNat
  | _, _ => 0
def vF (q : List Rat) : List Tm → Rat
  | [] => 0
  | t :: r => vT q t + vF q r
theorem vF_app (q : List Rat) (a b : List Tm) : vF q (a ++ b) = vF q a + vF q b := by
  induction a with
  | nil => show vF q b = 0 + vF q b; rw [Rat.zero_add]
  | cons t r ih =>
    show vT q t + vF q (r ++ b) = vT q t + vF q r + vF q b
    rw [ih, Rat.add_assoc]
theorem num_pow (a : Rat) : ∀ n : Nat, ((a.num ^ n : Int) : Rat) = a ^ n * (((a.den : Int) ^ n : Int) : Rat)
  | 0 => by rw [Int.pow_zero, Int.pow_zero, Rat.pow_zero, Rat.one_mul]
  | n + 1 => by
    have h : ((a.num : Int) : Rat) = a * (((a.den : Int)) : Rat) := num_eq a
    rw [Int.pow_succ, Int.pow_succ, Rat.pow_succ, Rat.intCast_mul, Rat.intCast_mul, num_pow a n, h]
    grind
theorem den_pow_pos (a : Rat) (n : Nat) : (0 : Int) < (a.den : Int) ^ n := Int.pow_pos (by have := a.den_pos; omega)
/-- top and bottom of a term's value -/
theorem oT_eq {a b c : Rat} {t : Tm} (h : ∃ m, K3 m t) : (oT [a, b, c] t : Rat) = vT [a, b, c] t * (uT [a, b, c] t : Rat) ∧ 0 < uT [a, b, c] t := by
  obtain ⟨m, i, j, l, e, _⟩ := h
  unfold oT vT uT
  rw [e]
  show ((t.2 * a.num ^ (i : Int).toNat * b.num ^ (j : Int).toNat * c.num ^ (l : Int).toNat : Int) : Rat) = ((t.2 : Rat) * a ^ (i : Int).toNat * b ^ (j : Int).toNat * c ^ (l : Int).toNat) * (((a.den : Int) ^ (i : Int).toNat * (b.den : Int) ^ (j : Int).toNat * (c.den : Int) ^ (l : Int).toNat : Int) : Rat) ∧ 0 < (a.den : Int) ^ (i : Int).toNat * (b.den : Int) ^ (j : Int).toNat * (c.den : Int) ^ (l : Int).toNat
  refine ⟨?_, Int.mul_pos (Int.mul_pos (den_pow_pos a _) (den_pow_pos b _)) (den_pow_pos c _)⟩
  simp only [Rat.intCast_mul, num_pow]
  grind
/-- the house's steps -/
theorem fv_step {q : List Rat} {f : List Tm} {t : Tm} {top bot o u : Int} (h1 : (top : Rat) = vF q f * (bot : Rat)) (h2 : (o : Rat) = vT q t * (u : Rat)) : ((top * u + o * bot : Int) : Rat) = vF q (f ++ [t]) * ((bot * u : Int) : Rat) := by
  rw [vF_app, show vF q [t] = vT q t + 0 from rfl]
  simp only [Rat.intCast_add, Rat.intCast_mul, h1, h2]
  grind
theorem fv_end {V : Rat} {top bot : Int} (h : (top : Rat) = V * (bot : Rat)) (hb : bot ≠ 0) : Rat.divInt top bot = V := by
  have hb' : (bot : Rat) ≠ 0 := fun z => hb (Rat.intCast_inj.mp (by rw [z]; rfl))
  rw [Rat.divInt_eq_div, h]
  grind
/-- the law's top -/
def pT (m1 m2 m3 : Nat) (q : List Rat) (t : Tm) : Int := match q, t.1 with
  | [a, b, c], [i, j, l] => t.2 * (a.num ^ i.toNat * (a.den : Int) ^ (m1 - i.toNat)) * (b.num ^ j.toNat * (b.den : Int) ^ (m2 - j.toNat)) * (c.num ^ l.toNat * (c.den : Int) ^ (m3 - l.toNat))
  | _, _ => 0
theorem pT_eq {a b c : Rat} {t : Tm} {m1 m2 m3 i j l : Nat} (e : t.1 = [(i : Int), (j : Int), (l : Int)]) (h1 : i ≤ m1) (h2 : j ≤ m2) (h3 : l ≤ m3) :
    (pT m1 m2 m3 [a, b, c] t : Rat) = vT [a, b, c] t * (((a.den : Int) ^ m1 * (b.den : Int) ^ m2 * (c.den : Int) ^ m3 : Int) : Rat) := by
  unfold pT vT
  rw [e]
  show ((t.2 * (a.num ^ (i : Int).toNat * (a.den : Int) ^ (m1 - (i : Int).toNat)) * (b.num ^ (j : Int).toNat * (b.den : Int) ^ (m2 - (j : Int).toNat)) * (c.num ^ (l : Int).toNat * (c.den : Int) ^ (m3 - (l : Int).toNat)) : Int) : Rat) = ((t.2 : Rat) * a ^ (i : Int).toNat * b ^ (j : Int).toNat * c ^ (l : Int).toNat) * _
  simp only [Int.toNat_natCast]
  have sp : ∀ (x : Int) {p m : Nat}, p ≤ m → x ^ m = x ^ p * x ^ (m - p) := fun x {p m} h => by rw [← Int.pow_add, show p + (m - p) = m by omega]
  rw [sp (a.den : Int) h1, sp (b.den : Int) h2, sp (c.den : Int) h3]
  simp only [Rat.intCast_mul, num_pow]
  grind
end Rc

namespace K33
open PySem Rc
local macro_rules | `(tactic| walk_at "s") => `(tactic| simp only [↓wE.eq_1, ↓wE.eq_2, ↓wE.eq_3, ↓wE.eq_4, ↓wE.eq_5, ↓wE.eq_6, ↓wE.eq_7, ↓wE.eq_8, ↓wE.eq_9, ↓wE.eq_10, ↓wE.eq_11, ↓wE.eq_12, ↓wE.eq_13, ↓wE.eq_14, ↓wE.eq_15, ↓wE.eq_16, ↓wE.eq_18, ↓wE.eq_19, ↓wE.eq_22, ↓wE.eq_23, ↓wE.eq_24, ↓wE.eq_25, ↓wE.eq_26, ↓wE.eq_27, ↓wE.eq_28, ↓wE.eq_29, ↓wE.eq_30, ↓wE.eq_31, ↓wE.eq_32, ↓wE.eq_34, ↓wE.eq_35, ↓wE.eq_36, ↓wE.eq_37, ↓wE.eq_38, ↓wE.eq_39, ↓wE.eq_40, ↓wE.eq_41, ↓wE_call, ↓wE_callP, ↓wE_lc, ↓wE_lcg, ↓wE_isv, ↓wE_ix, ↓ix_fr0, ↓ix_fr1, ↓cmp_fr, ↓cmp_frn, ↓cmp_fr0, ↓cmp_tz, ↓cmp_tzn, ↓cmp_tz0, ↓cmp_tzn0, ↓bi_list_tz, ↓add_tz,  ↓len_tz, ↓len_fr, ↓isT_fr, items_tz, ↓cmp_bb, ↓cmp_bbn, ↓wS_whl, ↓wS_for, ↓wS_forP, ↓wS_asg, ↓wS_par, ↓wS_setIx, ↓wS_app, ↓tgW_one, ↓tgW_tup, pvF_eq, ↓wS.eq_1, ↓wS.eq_2, ↓wS.eq_3, ↓wS.eq_5, ↓wS.eq_7, ↓wS.eq_10, ↓wS.eq_11, ↓wS.eq_12, ↓wS.eq_13, ↓wS.eq_14, ↓wS.eq_15, ↓wS.eq_16, ↓wS.eq_17, ↓wS.eq_20, ↓wS.eq_21, ↓wS.eq_22, ↓wS.eq_23, ↓wS.eq_24, ↓wS.eq_25, ↓wS.eq_26, ↓wS.eq_27, ↓wS.eq_28, ↓wS.eq_29, ↓wS.eq_30, ↓augW.eq_1, ↓augW.eq_2, ↓augW.eq_3, ↓augW.eq_4, ↓inW.eq_1, ↓inW.eq_2, ↓inW.eq_3, ↓inW.eq_4, ↓zipW.eq_1, ↓zipW.eq_2, ↓zipW.eq_3, ↓cntW.eq_1, ↓dspW.eq_1, ↓idxW.eq_1, ↓opW.eq_1, ↓opW.eq_2, ↓opW.eq_3, ↓opW.eq_4, ↓opW.eq_5, ↓opW.eq_6, ↓opW.eq_7, ↓opW.eq_8, ↓opW.eq_9, ↓opW.eq_10, ↓opW.eq_11, ↓opW.eq_12, ↓opW.eq_13, ↓opW.eq_14, ↓cmpW.eq_1, ↓cmpW.eq_2, ↓cmpW.eq_5, ↓cmpW.eq_6, ↓cmpW.eq_7, ↓cmpW.eq_8, ↓cmpW.eq_9, ↓cmpW.eq_10, ↓cmpW.eq_11, ↓cmpW.eq_12, ↓cmp_ll, ↓cmp_lln, ↓cmp_tt, ↓cmp_ttn, ↓biW.eq_1, ↓biW.eq_2, ↓biW.eq_3, ↓biW.eq_4, ↓biW.eq_5, ↓biW.eq_6, ↓biW.eq_7, ↓biW.eq_8, ↓biW.eq_9, ↓biW.eq_10, ↓biW.eq_11, ↓biW.eq_12, ↓biW.eq_13, ↓biW.eq_14, ↓biW.eq_15, ↓biW.eq_16, ↓biW.eq_17, ↓lenW.eq_1, ↓lenW.eq_2, ↓slW.eq_1, ↓slW.eq_2, ↓revW.eq_1, ↓revW.eq_2, ↓pkW_var, ↓ptW_nil, ↓ptK_i, ↓pkW_cst, ↓pkW_tup, ↓pkW_lst, ↓pkW_bin, ↓pkW_neg, ↓pkW_ix, ↓pkW_sl, ↓pkW_rev, ↓pkW_call, ↓pkW_callP, ↓pkW_bi, ↓pkW_len, ↓pkW_lc, ↓pkW_ite, ↓pkW_gc, ↓pkW_mov, ↓pkW_dsp, ↓pkW_bone, ↓pkW_cmp, ↓pkW_cnt, ↓ptW_cst, ↓ptW_tup, ↓ptW_lst, ↓ptW_bin, ↓ptW_neg, ↓ptW_ix, ↓ptW_sl, ↓ptW_rev, ↓ptW_call, ↓ptW_callP, ↓ptW_bi, ↓ptW_len, ↓ptW_lc, ↓ptW_ite, ↓ptW_gc, ↓ptW_mov, ↓ptW_dsp, ↓ptW_bone, ↓ptW_cmp, ↓ptW_cnt, ↓ptW_var, ↓peek, ↓ownAt, ↓kD.eq_1, ↓kD.eq_2, ↓kM.eq_1, ↓kB.eq_1, ↓kV.eq_1, ↓kV.eq_2, ↓setW, ↓rngW1.eq_1, ↓rngW2.eq_1, ↓rngWd.eq_1, isVar, isNil, isT, gv, pv, setAll, ev0, items.eq_1, items.eq_2, tgs, wipeE, blind_cons, blind_nil, bl1, runB, List.map_cons, List.map_nil, List.replicate, List.cons_append, List.nil_append, if_true, if_false, ite_true, ite_false, reduceCtorEq, Bool.true_and, Bool.and_true, Bool.not_true, Bool.not_false, Bool.false_eq_true, ↓reduceIte, Nat.reduceSub, Nat.reduceAdd, List.length_cons, List.length_nil, decide_eq_true_eq, Bool.not_eq_true', decide_eq_false_iff_not, Bool.and_false, Bool.false_and, true_and, and_true, Nat.sub_self, Nat.succ_eq_add_one, flat, Nat.reduceLeDiff, Int.reduceLE, Int.reduceLT, Int.reduceEq, ne_eq, not_false_eq_true, s10, la_2, la_3, la_4, la_5, la_6, la_7, la_8, la_9, la_10, la_11, la_12, la_13, la_14, la_15, la_16, la_18, la_19, la_20, la_21, la_24, la_25, la_28, la_30, la_35, la_36, la_39, la_40, la_41, la_44, la_45, la_49, la_50, la_52, la_54, la_57, la_63, la_64, la_65, la_72, la_78, la_81, la_90, la_100, la_121, la_123, la_125, la_126, la_144, la_162, la_168, la_176, la_196, la_200, la_216, la_240, la_360, la_369, la_400, la_402, la_441, la_540, la_550, la_900, la_907, la_997, la_1009, la_1100, la_1152, la_1440, la_1764, la_2001, la_2003, la_2200, la_3150, la_4099, la_16807, la_22500, la_24200, la_72600, Nat.reduceLT, ↓ix_t0, ↓ix_t1, ↓ix_t2, ↓ix_t3, ↓ix_t4, ↓ix_t5, ↓ix_t6, ↓ix_l0, ↓ix_l1, ↓ix_l2, ↓ix_l3, ↓ix_l4, ↓ix_l5, ↓ix_l6, ↓add_ttz, ↓isT_tz, ↓sl_tz, isN_non, isN_tup, isN_lst, isN_int, isN_str, isN_bl, isN_fr, isN_tz, ↓hS.eq_1, ↓hS.eq_2, ↓hS.eq_3, ↓hS.eq_4, hE, hB, ↓hide.eq_1, ↓hide.eq_2, isS, Nat.reduceBEq, Bool.or_true, Bool.or_false, Bool.true_or, Bool.false_or, beq_self_eq_true, not_true_eq_false, Int.cast_ofNat_Int, ↓wE_callL, ↓wE_callLP, ↓kR_d, ↓kR_o, ↓kT_twoO, ↓kTP_two, ↓kTP_twoO, ↓pkW_callLP, ↓wE_lemp, ↓wE_lix, ↓wE_lpop0, ↓wE_lcL, ↓wE_lcK, ↓pkW_lcK, ↓kT_two, ↓lentAt, unlend_nil, unlend_cons, ul1_n, ul1_d, ul1_o, ul1_l, ↓wS_lend, ↓wS_lfn, ↓wS_retL, ↓wS_lset, ↓wS_asgN, ↓tgW_nst, noTwo_d, noTwo_o, ↓pkW_callL, ↓pkW_lix, ↓pkW_lemp, ↓pkW_lpop0, ↓pkW_lcL, ↓ptW_callL, ↓ptW_lix, ↓wE_lit, ↓pkW_lit, ↓ptW_lit, ↓cmp_geT, ↓wE_dget, ↓wE_dix, ↓wE_dsrt, ↓wE_dlc, ↓wE_lcD, ↓wE_srt, ↓wS_dnewT, ↓wS_dnewI, ↓wS_dset, ↓dictAt, itemsD_I, itemsD_T, ↓pkW_dget, ↓ptW_dget, ↓pkW_dix, ↓ptW_dix, ↓pkW_dsrt, ↓ptW_dsrt, ↓pkW_dlc, ↓ptW_dlc, ↓pkW_lcD, ↓ptW_lcD, ↓pkW_srt, ↓ptW_srt, ↓wE_callF, ↓kF_o, ↓wE_rvl, ↓rvlK_l, ↓wE_lset, ↓lsetK_l, ↓wE_emp, ↓wE_lcO, ↓pkW_lcO, ↓ptW_lcO, hTx, ↓hS.eq_5, ↓pkW_callF, ↓ptW_callF, ↓pkW_rvl, ↓ptW_rvl, ↓pkW_lset, ↓ptW_lset, ↓pkW_emp, ↓ptW_emp])
section
variable {k : Nat} {X : Nat → Prop} {Q : Val → Prop}
theorem p_divisor {a b : Int} (h : Q (.d (.int (Int.gcd a b)))) : sem fns (k + 1) 0 [.int a, .int b] X Q := by
  refine sem_at rfl ⟨rfl, ?_⟩
  (simp only [b_divisor]; walk_at "s")
  rw [absI, absI]
  refine whl_at (fun m ε => ∃ x y : Nat, ε = [some (.d (.int x)), some (.d (.int y))] ∧ Nat.gcd x y = Int.gcd a b ∧ m = y) b.natAbs ⟨_, _, rfl, rfl, rfl⟩ ?_
  rintro m ε1 ⟨x, y, rfl, hg, rfl⟩
  (simp only [c_divisor_1, b_divisor_2, b_divisor_3]; walk_at "s")
  split
  · rename_i hp
    refine ⟨by omega, x % m, Nat.mod_lt _ (by omega), _, _, by rw [fmod_nat], ?_, rfl⟩
    rw [← hg, Nat.gcd_comm m, ← Nat.gcd_rec, Nat.gcd_comm]
  · rename_i hp
    have e : m = 0 := by omega
    subst e
    rw [Nat.gcd_zero_right] at hg
    rw [hg]
    exact h

theorem p_fraction0 {t : Int} (h : X 1) : sem fns (k + 2) 1 [.int t, .int 0] X Q := by
  refine sem_at rfl ⟨rfl, ?_⟩
  (simp only [b_fraction]; walk_at "s")
  exact h
theorem p_fraction {t b : Int} (hb : b ≠ 0) (h : Q (.d (fr (Rat.divInt t b)))) : sem fns (k + 2) 1 [.int t, .int b] X Q := by
  refine sem_at rfl ⟨rfl, ?_⟩
  (simp only [b_fraction]; walk_at "s")
  rw [if_neg hb]
  refine p_divisor ?_
  walk_at "s"
  have g0 := gsg0 (t := t) hb
  have e1 := fr_num (t := t) hb
  have e2 := fr_den (t := t) hb
  unfold gsg at g0 e1 e2
  split
  · rename_i hn
    rw [if_pos hn] at g0 e1 e2
    (simp only [b_fraction_1]; walk_at "s")
    refine ⟨g0, g0, ?_⟩
    rw [e1, e2]
    exact h
  · rename_i hn
    rw [if_neg hn] at g0 e1 e2
    (simp only [b_fraction_1]; walk_at "s")
    refine ⟨g0, g0, ?_⟩
    rw [e1, e2]
    exact h

theorem p_is_count {x : D} (h : Q (.d (.bool (isW x)))) : sem fns (k + 1) 2 [x] X Q := by
  refine sem_at rfl ⟨rfl, ?_⟩
  cases x <;> ((simp only [b_is_count]; walk_at "s"); exact h)

theorem p_is_term {d : D} (h : Q (.d (.bool (isTm d)))) : sem fns (k + 2) 3 [d] X Q := by
  refine sem_at rfl ⟨rfl, ?_⟩
  cases d with
  | tuple xs =>
    rcases xs with _ | ⟨a, _ | ⟨c, _ | ⟨e, r⟩⟩⟩
    · (simp only [b_is_term]; walk_at "s")
      exact h
    · rw [show isTm (.tuple [a]) = false by cases a <;> rfl] at h
      (simp only [b_is_term]; walk_at "s")
      exact h
    · (simp only [b_is_term]; walk_at "s")
      refine p_is_count ?_
      cases c with
      | int w =>
        simp only [isW, ↓wE.eq_1, ↓wE.eq_2, ↓wE.eq_3, ↓wE.eq_4, ↓wE.eq_5, ↓wE.eq_6, ↓wE.eq_7, ↓wE.eq_8, ↓wE.eq_9, ↓wE.eq_10, ↓wE.eq_11, ↓wE.eq_12, ↓wE.eq_13, ↓wE.eq_14, ↓wE.eq_15, ↓wE.eq_16, ↓wE.eq_18, ↓wE.eq_19, ↓wE.eq_22, ↓wE.eq_23, ↓wE.eq_24, ↓wE.eq_25, ↓wE.eq_26, ↓wE.eq_27, ↓wE.eq_28, ↓wE.eq_29, ↓wE.eq_30, ↓wE.eq_31, ↓wE.eq_32, ↓wE.eq_34, ↓wE.eq_35, ↓wE.eq_36, ↓wE.eq_37, ↓wE.eq_38, ↓wE.eq_39, ↓wE.eq_40, ↓wE.eq_41, ↓wE_call, ↓wE_callP, ↓wE_lc, ↓wE_lcg, ↓wE_isv, ↓wE_ix, ↓ix_fr0, ↓ix_fr1, ↓cmp_fr, ↓cmp_frn, ↓cmp_fr0, ↓cmp_tz, ↓cmp_tzn, ↓cmp_tz0, ↓cmp_tzn0, ↓bi_list_tz, ↓add_tz,  ↓len_tz, ↓len_fr, ↓isT_fr, items_tz, ↓cmp_bb, ↓cmp_bbn, ↓wS_whl, ↓wS_for, ↓wS_forP, ↓wS_asg, ↓wS_par, ↓wS_setIx, ↓wS_app, ↓tgW_one, ↓tgW_tup, pvF_eq, ↓wS.eq_1, ↓wS.eq_2, ↓wS.eq_3, ↓wS.eq_5, ↓wS.eq_7, ↓wS.eq_10, ↓wS.eq_11, ↓wS.eq_12, ↓wS.eq_13, ↓wS.eq_14, ↓wS.eq_15, ↓wS.eq_16, ↓wS.eq_17, ↓wS.eq_20, ↓wS.eq_21, ↓wS.eq_22, ↓wS.eq_23, ↓wS.eq_24, ↓wS.eq_25, ↓wS.eq_26, ↓wS.eq_27, ↓wS.eq_28, ↓wS.eq_29, ↓wS.eq_30, ↓augW.eq_1, ↓augW.eq_2, ↓augW.eq_3, ↓augW.eq_4, ↓inW.eq_1, ↓inW.eq_2, ↓inW.eq_3, ↓inW.eq_4, ↓zipW.eq_1, ↓zipW.eq_2, ↓zipW.eq_3, ↓cntW.eq_1, ↓dspW.eq_1, ↓idxW.eq_1, ↓opW.eq_1, ↓opW.eq_2, ↓opW.eq_3, ↓opW.eq_4, ↓opW.eq_5, ↓opW.eq_6, ↓opW.eq_7, ↓opW.eq_8, ↓opW.eq_9, ↓opW.eq_10, ↓opW.eq_11, ↓opW.eq_12, ↓opW.eq_13, ↓opW.eq_14, ↓cmpW.eq_1, ↓cmpW.eq_2, ↓cmpW.eq_5, ↓cmpW.eq_6, ↓cmpW.eq_7, ↓cmpW.eq_8, ↓cmpW.eq_9, ↓cmpW.eq_10, ↓cmpW.eq_11, ↓cmpW.eq_12, ↓cmp_ll, ↓cmp_lln, ↓cmp_tt, ↓cmp_ttn, ↓biW.eq_1, ↓biW.eq_2, ↓biW.eq_3, ↓biW.eq_4, ↓biW.eq_5, ↓biW.eq_6, ↓biW.eq_7, ↓biW.eq_8, ↓biW.eq_9, ↓biW.eq_10, ↓biW.eq_11, ↓biW.eq_12, ↓biW.eq_13, ↓biW.eq_14, ↓biW.eq_15, ↓biW.eq_16, ↓biW.eq_17, ↓lenW.eq_1, ↓lenW.eq_2, ↓slW.eq_1, ↓slW.eq_2, ↓revW.eq_1, ↓revW.eq_2, ↓pkW_var, ↓ptW_nil, ↓ptK_i, ↓pkW_cst, ↓pkW_tup, ↓pkW_lst, ↓pkW_bin, ↓pkW_neg, ↓pkW_ix, ↓pkW_sl, ↓pkW_rev, ↓pkW_call, ↓pkW_callP, ↓pkW_bi, ↓pkW_len, ↓pkW_lc, ↓pkW_ite, ↓pkW_gc, ↓pkW_mov, ↓pkW_dsp, ↓pkW_bone, ↓pkW_cmp, ↓pkW_cnt, ↓ptW_cst, ↓ptW_tup, ↓ptW_lst, ↓ptW_bin, ↓ptW_neg, ↓ptW_ix, ↓ptW_sl, ↓ptW_rev, ↓ptW_call, ↓ptW_callP, ↓ptW_bi, ↓ptW_len, ↓ptW_lc, ↓ptW_ite, ↓ptW_gc, ↓ptW_mov, ↓ptW_dsp, ↓ptW_bone, ↓ptW_cmp, ↓ptW_cnt, ↓ptW_var, ↓peek, ↓ownAt, ↓kD.eq_1, ↓kD.eq_2, ↓kM.eq_1, ↓kB.eq_1, ↓kV.eq_1, ↓kV.eq_2, ↓setW, ↓rngW1.eq_1, ↓rngW2.eq_1, ↓rngWd.eq_1, isVar, isNil, isT, gv, pv, setAll, ev0, items.eq_1, items.eq_2, tgs, wipeE, blind_cons, blind_nil, bl1, runB, List.map_cons, List.map_nil, List.replicate, List.cons_append, List.nil_append, if_true, if_false, ite_true, ite_false, reduceCtorEq, Bool.true_and, Bool.and_true, Bool.not_true, Bool.not_false, Bool.false_eq_true, ↓reduceIte, Nat.reduceSub, Nat.reduceAdd, List.length_cons, List.length_nil, decide_eq_true_eq, Bool.not_eq_true', decide_eq_false_iff_not, Bool.and_false, Bool.false_and, true_and, and_true, Nat.sub_self, Nat.succ_eq_add_one, flat, Nat.reduceLeDiff, Int.reduceLE, Int.reduceLT, Int.reduceEq, ne_eq, not_false_eq_true, s10, la_2, la_3, la_4, la_5, la_6, la_7, la_8, la_9, la_10, la_11, la_12, la_13, la_14, la_15, la_16, la_18, la_19, la_20, la_21, la_24, la_25, la_28, la_30, la_35, la_36, la_39, la_40, la_41, la_44, la_45, la_49, la_50, la_52, la_54, la_57, la_63, la_64, la_65, la_72, la_78, la_81, la_90, la_100, la_121, la_123, la_125, la_126, la_144, la_162, la_168, la_176, la_196, la_200, la_216, la_240, la_360, la_369, la_400, la_402, la_441, la_540, la_550, la_900, la_907, la_997, la_1009, la_1100, la_1152, la_1440, la_1764, la_2001, la_2003, la_2200, la_3150, la_4099, la_16807, la_22500, la_24200, la_72600, Nat.reduceLT, ↓ix_t0, ↓ix_t1, ↓ix_t2, ↓ix_t3, ↓ix_t4, ↓ix_t5, ↓ix_t6, ↓ix_l0, ↓ix_l1, ↓ix_l2, ↓ix_l3, ↓ix_l4, ↓ix_l5, ↓ix_l6, ↓add_ttz, ↓isT_tz, ↓sl_tz, isN_non, isN_tup, isN_lst, isN_int, isN_str, isN_bl, isN_fr, isN_tz, ↓hS.eq_1, ↓hS.eq_2, ↓hS.eq_3, ↓hS.eq_4, hE, hB, ↓hide.eq_1, ↓hide.eq_2, isS, Nat.reduceBEq, Bool.or_true, Bool.or_false, Bool.true_or, Bool.false_or, beq_self_eq_true, not_true_eq_false, Int.cast_ofNat_Int, ↓wE_callL, ↓wE_callLP, ↓kR_d, ↓kR_o, ↓kT_twoO, ↓kTP_two, ↓kTP_twoO, ↓pkW_callLP, ↓wE_lemp, ↓wE_lix, ↓wE_lpop0, ↓wE_lcL, ↓wE_lcK, ↓pkW_lcK, ↓kT_two, ↓lentAt, unlend_nil, unlend_cons, ul1_n, ul1_d, ul1_o, ul1_l, ↓wS_lend, ↓wS_lfn, ↓wS_retL, ↓wS_lset, ↓wS_asgN, ↓tgW_nst, noTwo_d, noTwo_o, ↓pkW_callL, ↓pkW_lix, ↓pkW_lemp, ↓pkW_lpop0, ↓pkW_lcL, ↓ptW_callL, ↓ptW_lix, ↓wE_lit, ↓pkW_lit, ↓ptW_lit, ↓cmp_geT, ↓wE_dget, ↓wE_dix, ↓wE_dsrt, ↓wE_dlc, ↓wE_lcD, ↓wE_srt, ↓wS_dnewT, ↓wS_dnewI, ↓wS_dset, ↓dictAt, itemsD_I, itemsD_T, ↓pkW_dget, ↓ptW_dget, ↓pkW_dix, ↓ptW_dix, ↓pkW_dsrt, ↓ptW_dsrt, ↓pkW_dlc, ↓ptW_dlc, ↓pkW_lcD, ↓ptW_lcD, ↓pkW_srt, ↓ptW_srt, ↓wE_callF, ↓kF_o, ↓wE_rvl, ↓rvlK_l, ↓wE_lset, ↓lsetK_l, ↓wE_emp, ↓wE_lcO, ↓pkW_lcO, ↓ptW_lcO, hTx, ↓hS.eq_5, ↓pkW_callF, ↓ptW_callF, ↓pkW_rvl, ↓ptW_rvl, ↓pkW_lset, ↓ptW_lset, ↓pkW_emp, ↓ptW_emp]
        by_cases w0 : w = 0
        · subst w0
          walk_at "s"
          have e : isTm (.tuple [a, .int 0]) = false := by cases a <;> rfl
          rw [e] at h
          exact h
        · simp only [w0, decide_false, ↓wE.eq_1, ↓wE.eq_2, ↓wE.eq_3, ↓wE.eq_4, ↓wE.eq_5, ↓wE.eq_6, ↓wE.eq_7, ↓wE.eq_8, ↓wE.eq_9, ↓wE.eq_10, ↓wE.eq_11, ↓wE.eq_12, ↓wE.eq_13, ↓wE.eq_14, ↓wE.eq_15, ↓wE.eq_16, ↓wE.eq_18, ↓wE.eq_19, ↓wE.eq_22, ↓wE.eq_23, ↓wE.eq_24, ↓wE.eq_25, ↓wE.eq_26, ↓wE.eq_27, ↓wE.eq_28, ↓wE.eq_29, ↓wE.eq_30, ↓wE.eq_31, ↓wE.eq_32, ↓wE.eq_34, ↓wE.eq_35, ↓wE.eq_36, ↓wE.eq_37, ↓wE.eq_38, ↓wE.eq_39, ↓wE.eq_40, ↓wE.eq_41, ↓wE_call, ↓wE_callP, ↓wE_lc, ↓wE_lcg, ↓wE_isv, ↓wE_ix, ↓ix_fr0, ↓ix_fr1, ↓cmp_fr, ↓cmp_frn, ↓cmp_fr0, ↓cmp_tz, ↓cmp_tzn, ↓cmp_tz0, ↓cmp_tzn0, ↓bi_list_tz, ↓add_tz,  ↓len_tz, ↓len_fr, ↓isT_fr, items_tz, ↓cmp_bb, ↓cmp_bbn, ↓wS_whl, ↓wS_for, ↓wS_forP, ↓wS_asg, ↓wS_par, ↓wS_setIx, ↓wS_app, ↓tgW_one, ↓tgW_tup, pvF_eq, ↓wS.eq_1, ↓wS.eq_2, ↓wS.eq_3, ↓wS.eq_5, ↓wS.eq_7, ↓wS.eq_10, ↓wS.eq_11, ↓wS.eq_12, ↓wS.eq_13, ↓wS.eq_14, ↓wS.eq_15, ↓wS.eq_16, ↓wS.eq_17, ↓wS.eq_20, ↓wS.eq_21, ↓wS.eq_22, ↓wS.eq_23, ↓wS.eq_24, ↓wS.eq_25, ↓wS.eq_26, ↓wS.eq_27, ↓wS.eq_28, ↓wS.eq_29, ↓wS.eq_30, ↓augW.eq_1, ↓augW.eq_2, ↓augW.eq_3, ↓augW.eq_4, ↓inW.eq_1, ↓inW.eq_2, ↓inW.eq_3, ↓inW.eq_4, ↓zipW.eq_1, ↓zipW.eq_2, ↓zipW.eq_3, ↓cntW.eq_1, ↓dspW.eq_1, ↓idxW.eq_1, ↓opW.eq_1, ↓opW.eq_2, ↓opW.eq_3, ↓opW.eq_4, ↓opW.eq_5, ↓opW.eq_6, ↓opW.eq_7, ↓opW.eq_8, ↓opW.eq_9, ↓opW.eq_10, ↓opW.eq_11, ↓opW.eq_12, ↓opW.eq_13, ↓opW.eq_14, ↓cmpW.eq_1, ↓cmpW.eq_2, ↓cmpW.eq_5, ↓cmpW.eq_6, ↓cmpW.eq_7, ↓cmpW.eq_8, ↓cmpW.eq_9, ↓cmpW.eq_10, ↓cmpW.eq_11, ↓cmpW.eq_12, ↓cmp_ll, ↓cmp_lln, ↓cmp_tt, ↓cmp_ttn, ↓biW.eq_1, ↓biW.eq_2, ↓biW.eq_3, ↓biW.eq_4, ↓biW.eq_5, ↓biW.eq_6, ↓biW.eq_7, ↓biW.eq_8, ↓biW.eq_9, ↓biW.eq_10, ↓biW.eq_11, ↓biW.eq_12, ↓biW.eq_13, ↓biW.eq_14, ↓biW.eq_15, ↓biW.eq_16, ↓biW.eq_17, ↓lenW.eq_1, ↓lenW.eq_2, ↓slW.eq_1, ↓slW.eq_2, ↓revW.eq_1, ↓revW.eq_2, ↓pkW_var, ↓ptW_nil, ↓ptK_i, ↓pkW_cst, ↓pkW_tup, ↓pkW_lst, ↓pkW_bin, ↓pkW_neg, ↓pkW_ix, ↓pkW_sl, ↓pkW_rev, ↓pkW_call, ↓pkW_callP, ↓pkW_bi, ↓pkW_len, ↓pkW_lc, ↓pkW_ite, ↓pkW_gc, ↓pkW_mov, ↓pkW_dsp, ↓pkW_bone, ↓pkW_cmp, ↓pkW_cnt, ↓ptW_cst, ↓ptW_tup, ↓ptW_lst, ↓ptW_bin, ↓ptW_neg, ↓ptW_ix, ↓ptW_sl, ↓ptW_rev, ↓ptW_call, ↓ptW_callP, ↓ptW_bi, ↓ptW_len, ↓ptW_lc, ↓ptW_ite, ↓ptW_gc, ↓ptW_mov, ↓ptW_dsp, ↓ptW_bone, ↓ptW_cmp, ↓ptW_cnt, ↓ptW_var, ↓peek, ↓ownAt, ↓kD.eq_1, ↓kD.eq_2, ↓kM.eq_1, ↓kB.eq_1, ↓kV.eq_1, ↓kV.eq_2, ↓setW, ↓rngW1.eq_1, ↓rngW2.eq_1, ↓rngWd.eq_1, isVar, isNil, isT, gv, pv, setAll, ev0, items.eq_1, items.eq_2, tgs, wipeE, blind_cons, blind_nil, bl1, runB, List.map_cons, List.map_nil, List.replicate, List.cons_append, List.nil_append, if_true, if_false, ite_true, ite_false, reduceCtorEq, Bool.true_and, Bool.and_true, Bool.not_true, Bool.not_false, Bool.false_eq_true, ↓reduceIte, Nat.reduceSub, Nat.reduceAdd, List.length_cons, List.length_nil, decide_eq_true_eq, Bool.not_eq_true', decide_eq_false_iff_not, Bool.and_false, Bool.false_and, true_and, and_true, Nat.sub_self, Nat.succ_eq_add_one, flat, Nat.reduceLeDiff, Int.reduceLE, Int.reduceLT, Int.reduceEq, ne_eq, not_false_eq_true, s10, la_2, la_3, la_4, la_5, la_6, la_7, la_8, la_9, la_10, la_11, la_12, la_13, la_14, la_15, la_16, la_18, la_19, la_20, la_21, la_24, la_25, la_28, la_30, la_35, la_36, la_39, la_40, la_41, la_44, la_45, la_49, la_50, la_52, la_54, la_57, la_63, la_64, la_65, la_72, la_78, la_81, la_90, la_100, la_121, la_123, la_125, la_126, la_144, la_162, la_168, la_176, la_196, la_200, la_216, la_240, la_360, la_369, la_400, la_402, la_441, la_540, la_550, la_900, la_907, la_997, la_1009, la_1100, la_1152, la_1440, la_1764, la_2001, la_2003, la_2200, la_3150, la_4099, la_16807, la_22500, la_24200, la_72600, Nat.reduceLT, ↓ix_t0, ↓ix_t1, ↓ix_t2, ↓ix_t3, ↓ix_t4, ↓ix_t5, ↓ix_t6, ↓ix_l0, ↓ix_l1, ↓ix_l2, ↓ix_l3, ↓ix_l4, ↓ix_l5, ↓ix_l6, ↓add_ttz, ↓isT_tz, ↓sl_tz, isN_non, isN_tup, isN_lst, isN_int, isN_str, isN_bl, isN_fr, isN_tz, ↓hS.eq_1, ↓hS.eq_2, ↓hS.eq_3, ↓hS.eq_4, hE, hB, ↓hide.eq_1, ↓hide.eq_2, isS, Nat.reduceBEq, Bool.or_true, Bool.or_false, Bool.true_or, Bool.false_or, beq_self_eq_true, not_true_eq_false, Int.cast_ofNat_Int, ↓wE_callL, ↓wE_callLP, ↓kR_d, ↓kR_o, ↓kT_twoO, ↓kTP_two, ↓kTP_twoO, ↓pkW_callLP, ↓wE_lemp, ↓wE_lix, ↓wE_lpop0, ↓wE_lcL, ↓wE_lcK, ↓pkW_lcK, ↓kT_two, ↓lentAt, unlend_nil, unlend_cons, ul1_n, ul1_d, ul1_o, ul1_l, ↓wS_lend, ↓wS_lfn, ↓wS_retL, ↓wS_lset, ↓wS_asgN, ↓tgW_nst, noTwo_d, noTwo_o, ↓pkW_callL, ↓pkW_lix, ↓pkW_lemp, ↓pkW_lpop0, ↓pkW_lcL, ↓ptW_callL, ↓ptW_lix, ↓wE_lit, ↓pkW_lit, ↓ptW_lit, ↓cmp_geT, ↓wE_dget, ↓wE_dix, ↓wE_dsrt, ↓wE_dlc, ↓wE_lcD, ↓wE_srt, ↓wS_dnewT, ↓wS_dnewI, ↓wS_dset, ↓dictAt, itemsD_I, itemsD_T, ↓pkW_dget, ↓ptW_dget, ↓pkW_dix, ↓ptW_dix, ↓pkW_dsrt, ↓ptW_dsrt, ↓pkW_dlc, ↓ptW_dlc, ↓pkW_lcD, ↓ptW_lcD, ↓pkW_srt, ↓ptW_srt, ↓wE_callF, ↓kF_o, ↓wE_rvl, ↓rvlK_l, ↓wE_lset, ↓lsetK_l, ↓wE_emp, ↓wE_lcO, ↓pkW_lcO, ↓ptW_lcO, hTx, ↓hS.eq_5, ↓pkW_callF, ↓ptW_callF, ↓pkW_rvl, ↓ptW_rvl, ↓pkW_lset, ↓ptW_lset, ↓pkW_emp, ↓ptW_emp]
          cases a with
          | tuple ps =>
            walk_at "s"
            have ei : isTm (.tuple [.tuple ps, .int w]) = (decide (ps.length = 3) && ps.all nonneg) := by
              show (decide (w ≠ 0) && _) = _
              rw [decide_eq_true w0, Bool.true_and]
            rw [ei] at h
            by_cases l3 : ps.length = 3
            · have l3' : ((ps.length : Nat) : Int) = 3 := by omega
              rw [decide_eq_true l3, Bool.true_and] at h
              simp only [l3', decide_true, ↓wE.eq_1, ↓wE.eq_2, ↓wE.eq_3, ↓wE.eq_4, ↓wE.eq_5, ↓wE.eq_6, ↓wE.eq_7, ↓wE.eq_8, ↓wE.eq_9, ↓wE.eq_10, ↓wE.eq_11, ↓wE.eq_12, ↓wE.eq_13, ↓wE.eq_14, ↓wE.eq_15, ↓wE.eq_16, ↓wE.eq_18, ↓wE.eq_19, ↓wE.eq_22, ↓wE.eq_23, ↓wE.eq_24, ↓wE.eq_25, ↓wE.eq_26, ↓wE.eq_27, ↓wE.eq_28, ↓wE.eq_29, ↓wE.eq_30, ↓wE.eq_31, ↓wE.eq_32, ↓wE.eq_34, ↓wE.eq_35, ↓wE.eq_36, ↓wE.eq_37, ↓wE.eq_38, ↓wE.eq_39, ↓wE.eq_40, ↓wE.eq_41, ↓wE_call, ↓wE_callP, ↓wE_lc, ↓wE_lcg, ↓wE_isv, ↓wE_ix, ↓ix_fr0, ↓ix_fr1, ↓cmp_fr, ↓cmp_frn, ↓cmp_fr0, ↓cmp_tz, ↓cmp_tzn, ↓cmp_tz0, ↓cmp_tzn0, ↓bi_list_tz, ↓add_tz,  ↓len_tz, ↓len_fr, ↓isT_fr, items_tz, ↓cmp_bb, ↓cmp_bbn, ↓wS_whl, ↓wS_for, ↓wS_forP, ↓wS_asg, ↓wS_par, ↓wS_setIx, ↓wS_app, ↓tgW_one, ↓tgW_tup, pvF_eq, ↓wS.eq_1, ↓wS.eq_2, ↓wS.eq_3, ↓wS.eq_5, ↓wS.eq_7, ↓wS.eq_10, ↓wS.eq_11, ↓wS.eq_12, ↓wS.eq_13, ↓wS.eq_14, ↓wS.eq_15, ↓wS.eq_16, ↓wS.eq_17, ↓wS.eq_20, ↓wS.eq_21, ↓wS.eq_22, ↓wS.eq_23, ↓wS.eq_24, ↓wS.eq_25, ↓wS.eq_26, ↓wS.eq_27, ↓wS.eq_28, ↓wS.eq_29, ↓wS.eq_30, ↓augW.eq_1, ↓augW.eq_2, ↓augW.eq_3, ↓augW.eq_4, ↓inW.eq_1, ↓inW.eq_2, ↓inW.eq_3, ↓inW.eq_4, ↓zipW.eq_1, ↓zipW.eq_2, ↓zipW.eq_3, ↓cntW.eq_1, ↓dspW.eq_1, ↓idxW.eq_1, ↓opW.eq_1, ↓opW.eq_2, ↓opW.eq_3, ↓opW.eq_4, ↓opW.eq_5, ↓opW.eq_6, ↓opW.eq_7, ↓opW.eq_8, ↓opW.eq_9, ↓opW.eq_10, ↓opW.eq_11, ↓opW.eq_12, ↓opW.eq_13, ↓opW.eq_14, ↓cmpW.eq_1, ↓cmpW.eq_2, ↓cmpW.eq_5, ↓cmpW.eq_6, ↓cmpW.eq_7, ↓cmpW.eq_8, ↓cmpW.eq_9, ↓cmpW.eq_10, ↓cmpW.eq_11, ↓cmpW.eq_12, ↓cmp_ll, ↓cmp_lln, ↓cmp_tt, ↓cmp_ttn, ↓biW.eq_1, ↓biW.eq_2, ↓biW.eq_3, ↓biW.eq_4, ↓biW.eq_5, ↓biW.eq_6, ↓biW.eq_7, ↓biW.eq_8, ↓biW.eq_9, ↓biW.eq_10, ↓biW.eq_11, ↓biW.eq_12, ↓biW.eq_13, ↓biW.eq_14, ↓biW.eq_15, ↓biW.eq_16, ↓biW.eq_17, ↓lenW.eq_1, ↓lenW.eq_2, ↓slW.eq_1, ↓slW.eq_2, ↓revW.eq_1, ↓revW.eq_2, ↓pkW_var, ↓ptW_nil, ↓ptK_i, ↓pkW_cst, ↓pkW_tup, ↓pkW_lst, ↓pkW_bin, ↓pkW_neg, ↓pkW_ix, ↓pkW_sl, ↓pkW_rev, ↓pkW_call, ↓pkW_callP, ↓pkW_bi, ↓pkW_len, ↓pkW_lc, ↓pkW_ite, ↓pkW_gc, ↓pkW_mov, ↓pkW_dsp, ↓pkW_bone, ↓pkW_cmp, ↓pkW_cnt, ↓ptW_cst, ↓ptW_tup, ↓ptW_lst, ↓ptW_bin, ↓ptW_neg, ↓ptW_ix, ↓ptW_sl, ↓ptW_rev, ↓ptW_call, ↓ptW_callP, ↓ptW_bi, ↓ptW_len, ↓ptW_lc, ↓ptW_ite, ↓ptW_gc, ↓ptW_mov, ↓ptW_dsp, ↓ptW_bone, ↓ptW_cmp, ↓ptW_cnt, ↓ptW_var, ↓peek, ↓ownAt, ↓kD.eq_1, ↓kD.eq_2, ↓kM.eq_1, ↓kB.eq_1, ↓kV.eq_1, ↓kV.eq_2, ↓setW, ↓rngW1.eq_1, ↓rngW2.eq_1, ↓rngWd.eq_1, isVar, isNil, isT, gv, pv, setAll, ev0, items.eq_1, items.eq_2, tgs, wipeE, blind_cons, blind_nil, bl1, runB, List.map_cons, List.map_nil, List.replicate, List.cons_append, List.nil_append, if_true, if_false, ite_true, ite_false, reduceCtorEq, Bool.true_and, Bool.and_true, Bool.not_true, Bool.not_false, Bool.false_eq_true, ↓reduceIte, Nat.reduceSub, Nat.reduceAdd, List.length_cons, List.length_nil, decide_eq_true_eq, Bool.not_eq_true', decide_eq_false_iff_not, Bool.and_false, Bool.false_and, true_and, and_true, Nat.sub_self, Nat.succ_eq_add_one, flat, Nat.reduceLeDiff, Int.reduceLE, Int.reduceLT, Int.reduceEq, ne_eq, not_false_eq_true, s10, la_2, la_3, la_4, la_5, la_6, la_7, la_8, la_9, la_10, la_11, la_12, la_13, la_14, la_15, la_16, la_18, la_19, la_20, la_21, la_24, la_25, la_28, la_30, la_35, la_36, la_39, la_40, la_41, la_44, la_45, la_49, la_50, la_52, la_54, la_57, la_63, la_64, la_65, la_72, la_78, la_81, la_90, la_100, la_121, la_123, la_125, la_126, la_144, la_162, la_168, la_176, la_196, la_200, la_216, la_240, la_360, la_369, la_400, la_402, la_441, la_540, la_550, la_900, la_907, la_997, la_1009, la_1100, la_1152, la_1440, la_1764, la_2001, la_2003, la_2200, la_3150, la_4099, la_16807, la_22500, la_24200, la_72600, Nat.reduceLT, ↓ix_t0, ↓ix_t1, ↓ix_t2, ↓ix_t3, ↓ix_t4, ↓ix_t5, ↓ix_t6, ↓ix_l0, ↓ix_l1, ↓ix_l2, ↓ix_l3, ↓ix_l4, ↓ix_l5, ↓ix_l6, ↓add_ttz, ↓isT_tz, ↓sl_tz, isN_non, isN_tup, isN_lst, isN_int, isN_str, isN_bl, isN_fr, isN_tz, ↓hS.eq_1, ↓hS.eq_2, ↓hS.eq_3, ↓hS.eq_4, hE, hB, ↓hide.eq_1, ↓hide.eq_2, isS, Nat.reduceBEq, Bool.or_true, Bool.or_false, Bool.true_or, Bool.false_or, beq_self_eq_true, not_true_eq_false, Int.cast_ofNat_Int, ↓wE_callL, ↓wE_callLP, ↓kR_d, ↓kR_o, ↓kT_twoO, ↓kTP_two, ↓kTP_twoO, ↓pkW_callLP, ↓wE_lemp, ↓wE_lix, ↓wE_lpop0, ↓wE_lcL, ↓wE_lcK, ↓pkW_lcK, ↓kT_two, ↓lentAt, unlend_nil, unlend_cons, ul1_n, ul1_d, ul1_o, ul1_l, ↓wS_lend, ↓wS_lfn, ↓wS_retL, ↓wS_lset, ↓wS_asgN, ↓tgW_nst, noTwo_d, noTwo_o, ↓pkW_callL, ↓pkW_lix, ↓pkW_lemp, ↓pkW_lpop0, ↓pkW_lcL, ↓ptW_callL, ↓ptW_lix, ↓wE_lit, ↓pkW_lit, ↓ptW_lit, ↓cmp_geT, ↓wE_dget, ↓wE_dix, ↓wE_dsrt, ↓wE_dlc, ↓wE_lcD, ↓wE_srt, ↓wS_dnewT, ↓wS_dnewI, ↓wS_dset, ↓dictAt, itemsD_I, itemsD_T, ↓pkW_dget, ↓ptW_dget, ↓pkW_dix, ↓ptW_dix, ↓pkW_dsrt, ↓ptW_dsrt, ↓pkW_dlc, ↓ptW_dlc, ↓pkW_lcD, ↓ptW_lcD, ↓pkW_srt, ↓ptW_srt, ↓wE_callF, ↓kF_o, ↓wE_rvl, ↓rvlK_l, ↓wE_lset, ↓lsetK_l, ↓wE_emp, ↓wE_lcO, ↓pkW_lcO, ↓ptW_lcO, hTx, ↓hS.eq_5, ↓pkW_callF, ↓ptW_callF, ↓pkW_rvl, ↓ptW_rvl, ↓pkW_lset, ↓ptW_lset, ↓pkW_emp, ↓ptW_emp]
              refine lc_map' (fun d => .bool (nonneg d)) (fun x hx kk hk => ?_) (by omega) ?_
              · (simp only [e_is_term_1]; walk_at "s")
                refine p_is_count ?_
                cases x with
                | int i =>
                  simp only [isW, ↓wE.eq_1, ↓wE.eq_2, ↓wE.eq_3, ↓wE.eq_4, ↓wE.eq_5, ↓wE.eq_6, ↓wE.eq_7, ↓wE.eq_8, ↓wE.eq_9, ↓wE.eq_10, ↓wE.eq_11, ↓wE.eq_12, ↓wE.eq_13, ↓wE.eq_14, ↓wE.eq_15, ↓wE.eq_16, ↓wE.eq_18, ↓wE.eq_19, ↓wE.eq_22, ↓wE.eq_23, ↓wE.eq_24, ↓wE.eq_25, ↓wE.eq_26, ↓wE.eq_27, ↓wE.eq_28, ↓wE.eq_29, ↓wE.eq_30, ↓wE.eq_31, ↓wE.eq_32, ↓wE.eq_34, ↓wE.eq_35, ↓wE.eq_36, ↓wE.eq_37, ↓wE.eq_38, ↓wE.eq_39, ↓wE.eq_40, ↓wE.eq_41, ↓wE_call, ↓wE_callP, ↓wE_lc, ↓wE_lcg, ↓wE_isv, ↓wE_ix, ↓ix_fr0, ↓ix_fr1, ↓cmp_fr, ↓cmp_frn, ↓cmp_fr0, ↓cmp_tz, ↓cmp_tzn, ↓cmp_tz0, ↓cmp_tzn0, ↓bi_list_tz, ↓add_tz,  ↓len_tz, ↓len_fr, ↓isT_fr, items_tz, ↓cmp_bb, ↓cmp_bbn, ↓wS_whl, ↓wS_for, ↓wS_forP, ↓wS_asg, ↓wS_par, ↓wS_setIx, ↓wS_app, ↓tgW_one, ↓tgW_tup, pvF_eq, ↓wS.eq_1, ↓wS.eq_2, ↓wS.eq_3, ↓wS.eq_5, ↓wS.eq_7, ↓wS.eq_10, ↓wS.eq_11, ↓wS.eq_12, ↓wS.eq_13, ↓wS.eq_14, ↓wS.eq_15, ↓wS.eq_16, ↓wS.eq_17, ↓wS.eq_20, ↓wS.eq_21, ↓wS.eq_22, ↓wS.eq_23, ↓wS.eq_24, ↓wS.eq_25, ↓wS.eq_26, ↓wS.eq_27, ↓wS.eq_28, ↓wS.eq_29, ↓wS.eq_30, ↓augW.eq_1, ↓augW.eq_2, ↓augW.eq_3, ↓augW.eq_4, ↓inW.eq_1, ↓inW.eq_2, ↓inW.eq_3, ↓inW.eq_4, ↓zipW.eq_1, ↓zipW.eq_2, ↓zipW.eq_3, ↓cntW.eq_1, ↓dspW.eq_1, ↓idxW.eq_1, ↓opW.eq_1, ↓opW.eq_2, ↓opW.eq_3, ↓opW.eq_4, ↓opW.eq_5, ↓opW.eq_6, ↓opW.eq_7, ↓opW.eq_8, ↓opW.eq_9, ↓opW.eq_10, ↓opW.eq_11, ↓opW.eq_12, ↓opW.eq_13, ↓opW.eq_14, ↓cmpW.eq_1, ↓cmpW.eq_2, ↓cmpW.eq_5, ↓cmpW.eq_6, ↓cmpW.eq_7, ↓cmpW.eq_8, ↓cmpW.eq_9, ↓cmpW.eq_10, ↓cmpW.eq_11, ↓cmpW.eq_12, ↓cmp_ll, ↓cmp_lln, ↓cmp_tt, ↓cmp_ttn, ↓biW.eq_1, ↓biW.eq_2, ↓biW.eq_3, ↓biW.eq_4, ↓biW.eq_5, ↓biW.eq_6, ↓biW.eq_7, ↓biW.eq_8, ↓biW.eq_9, ↓biW.eq_10, ↓biW.eq_11, ↓biW.eq_12, ↓biW.eq_13, ↓biW.eq_14, ↓biW.eq_15, ↓biW.eq_16, ↓biW.eq_17, ↓lenW.eq_1, ↓lenW.eq_2, ↓slW.eq_1, ↓slW.eq_2, ↓revW.eq_1, ↓revW.eq_2, ↓pkW_var, ↓ptW_nil, ↓ptK_i, ↓pkW_cst, ↓pkW_tup, ↓pkW_lst, ↓pkW_bin, ↓pkW_neg, ↓pkW_ix, ↓pkW_sl, ↓pkW_rev, ↓pkW_call, ↓pkW_callP, ↓pkW_bi, ↓pkW_len, ↓pkW_lc, ↓pkW_ite, ↓pkW_gc, ↓pkW_mov, ↓pkW_dsp, ↓pkW_bone, ↓pkW_cmp, ↓pkW_cnt, ↓ptW_cst, ↓ptW_tup, ↓ptW_lst, ↓ptW_bin, ↓ptW_neg, ↓ptW_ix, ↓ptW_sl, ↓ptW_rev, ↓ptW_call, ↓ptW_callP, ↓ptW_bi, ↓ptW_len, ↓ptW_lc, ↓ptW_ite, ↓ptW_gc, ↓ptW_mov, ↓ptW_dsp, ↓ptW_bone, ↓ptW_cmp, ↓ptW_cnt, ↓ptW_var, ↓peek, ↓ownAt, ↓kD.eq_1, ↓kD.eq_2, ↓kM.eq_1, ↓kB.eq_1, ↓kV.eq_1, ↓kV.eq_2, ↓setW, ↓rngW1.eq_1, ↓rngW2.eq_1, ↓rngWd.eq_1, isVar, isNil, isT, gv, pv, setAll, ev0, items.eq_1, items.eq_2, tgs, wipeE, blind_cons, blind_nil, bl1, runB, List.map_cons, List.map_nil, List.replicate, List.cons_append, List.nil_append, if_true, if_false, ite_true, ite_false, reduceCtorEq, Bool.true_and, Bool.and_true, Bool.not_true, Bool.not_false, Bool.false_eq_true, ↓reduceIte, Nat.reduceSub, Nat.reduceAdd, List.length_cons, List.length_nil, decide_eq_true_eq, Bool.not_eq_true', decide_eq_false_iff_not, Bool.and_false, Bool.false_and, true_and, and_true, Nat.sub_self, Nat.succ_eq_add_one, flat, Nat.reduceLeDiff, Int.reduceLE, Int.reduceLT, Int.reduceEq, ne_eq, not_false_eq_true, s10, la_2, la_3, la_4, la_5, la_6, la_7, la_8, la_9, la_10, la_11, la_12, la_13, la_14, la_15, la_16, la_18, la_19, la_20, la_21, la_24, la_25, la_28, la_30, la_35, la_36, la_39, la_40, la_41, la_44, la_45, la_49, la_50, la_52, la_54, la_57, la_63, la_64, la_65, la_72, la_78, la_81, la_90, la_100, la_121, la_123, la_125, la_126, la_144, la_162, la_168, la_176, la_196, la_200, la_216, la_240, la_360, la_369, la_400, la_402, la_441, la_540, la_550, la_900, la_907, la_997, la_1009, la_1100, la_1152, la_1440, la_1764, la_2001, la_2003, la_2200, la_3150, la_4099, la_16807, la_22500, la_24200, la_72600, Nat.reduceLT, ↓ix_t0, ↓ix_t1, ↓ix_t2, ↓ix_t3, ↓ix_t4, ↓ix_t5, ↓ix_t6, ↓ix_l0, ↓ix_l1, ↓ix_l2, ↓ix_l3, ↓ix_l4, ↓ix_l5, ↓ix_l6, ↓add_ttz, ↓isT_tz, ↓sl_tz, isN_non, isN_tup, isN_lst, isN_int, isN_str, isN_bl, isN_fr, isN_tz, ↓hS.eq_1, ↓hS.eq_2, ↓hS.eq_3, ↓hS.eq_4, hE, hB, ↓hide.eq_1, ↓hide.eq_2, isS, Nat.reduceBEq, Bool.or_true, Bool.or_false, Bool.true_or, Bool.false_or, beq_self_eq_true, not_true_eq_false, Int.cast_ofNat_Int, ↓wE_callL, ↓wE_callLP, ↓kR_d, ↓kR_o, ↓kT_twoO, ↓kTP_two, ↓kTP_twoO, ↓pkW_callLP, ↓wE_lemp, ↓wE_lix, ↓wE_lpop0, ↓wE_lcL, ↓wE_lcK, ↓pkW_lcK, ↓kT_two, ↓lentAt, unlend_nil, unlend_cons, ul1_n, ul1_d, ul1_o, ul1_l, ↓wS_lend, ↓wS_lfn, ↓wS_retL, ↓wS_lset, ↓wS_asgN, ↓tgW_nst, noTwo_d, noTwo_o, ↓pkW_callL, ↓pkW_lix, ↓pkW_lemp, ↓pkW_lpop0, ↓pkW_lcL, ↓ptW_callL, ↓ptW_lix, ↓wE_lit, ↓pkW_lit, ↓ptW_lit, ↓cmp_geT, ↓wE_dget, ↓wE_dix, ↓wE_dsrt, ↓wE_dlc, ↓wE_lcD, ↓wE_srt, ↓wS_dnewT, ↓wS_dnewI, ↓wS_dset, ↓dictAt, itemsD_I, itemsD_T, ↓pkW_dget, ↓ptW_dget, ↓pkW_dix, ↓ptW_dix, ↓pkW_dsrt, ↓ptW_dsrt, ↓pkW_dlc, ↓ptW_dlc, ↓pkW_lcD, ↓ptW_lcD, ↓pkW_srt, ↓ptW_srt, ↓wE_callF, ↓kF_o, ↓wE_rvl, ↓rvlK_l, ↓wE_lset, ↓lsetK_l, ↓wE_emp, ↓wE_lcO, ↓pkW_lcO, ↓ptW_lcO, hTx, ↓hS.eq_5, ↓pkW_callF, ↓ptW_callF, ↓pkW_rvl, ↓ptW_rvl, ↓pkW_lset, ↓ptW_lset, ↓pkW_emp, ↓ptW_emp]
                  exact hk _
                | _ =>
                  simp only [isW, ↓wE.eq_1, ↓wE.eq_2, ↓wE.eq_3, ↓wE.eq_4, ↓wE.eq_5, ↓wE.eq_6, ↓wE.eq_7, ↓wE.eq_8, ↓wE.eq_9, ↓wE.eq_10, ↓wE.eq_11, ↓wE.eq_12, ↓wE.eq_13, ↓wE.eq_14, ↓wE.eq_15, ↓wE.eq_16, ↓wE.eq_18, ↓wE.eq_19, ↓wE.eq_22, ↓wE.eq_23, ↓wE.eq_24, ↓wE.eq_25, ↓wE.eq_26, ↓wE.eq_27, ↓wE.eq_28, ↓wE.eq_29, ↓wE.eq_30, ↓wE.eq_31, ↓wE.eq_32, ↓wE.eq_34, ↓wE.eq_35, ↓wE.eq_36, ↓wE.eq_37, ↓wE.eq_38, ↓wE.eq_39, ↓wE.eq_40, ↓wE.eq_41, ↓wE_call, ↓wE_callP, ↓wE_lc, ↓wE_lcg, ↓wE_isv, ↓wE_ix, ↓ix_fr0, ↓ix_fr1, ↓cmp_fr, ↓cmp_frn, ↓cmp_fr0, ↓cmp_tz, ↓cmp_tzn, ↓cmp_tz0, ↓cmp_tzn0, ↓bi_list_tz, ↓add_tz,  ↓len_tz, ↓len_fr, ↓isT_fr, items_tz, ↓cmp_bb, ↓cmp_bbn, ↓wS_whl, ↓wS_for, ↓wS_forP, ↓wS_asg, ↓wS_par, ↓wS_setIx, ↓wS_app, ↓tgW_one, ↓tgW_tup, pvF_eq, ↓wS.eq_1, ↓wS.eq_2, ↓wS.eq_3, ↓wS.eq_5, ↓wS.eq_7, ↓wS.eq_10, ↓wS.eq_11, ↓wS.eq_12, ↓wS.eq_13, ↓wS.eq_14, ↓wS.eq_15, ↓wS.eq_16, ↓wS.eq_17, ↓wS.eq_20, ↓wS.eq_21, ↓wS.eq_22, ↓wS.eq_23, ↓wS.eq_24, ↓wS.eq_25, ↓wS.eq_26, ↓wS.eq_27, ↓wS.eq_28, ↓wS.eq_29, ↓wS.eq_30, ↓augW.eq_1, ↓augW.eq_2, ↓augW.eq_3, ↓augW.eq_4, ↓inW.eq_1, ↓inW.eq_2, ↓inW.eq_3, ↓inW.eq_4, ↓zipW.eq_1, ↓zipW.eq_2, ↓zipW.eq_3, ↓cntW.eq_1, ↓dspW.eq_1, ↓idxW.eq_1, ↓opW.eq_1, ↓opW.eq_2, ↓opW.eq_3, ↓opW.eq_4, ↓opW.eq_5, ↓opW.eq_6, ↓opW.eq_7, ↓opW.eq_8, ↓opW.eq_9, ↓opW.eq_10, ↓opW.eq_11, ↓opW.eq_12, ↓opW.eq_13, ↓opW.eq_14, ↓cmpW.eq_1, ↓cmpW.eq_2, ↓cmpW.eq_5, ↓cmpW.eq_6, ↓cmpW.eq_7, ↓cmpW.eq_8, ↓cmpW.eq_9, ↓cmpW.eq_10, ↓cmpW.eq_11, ↓cmpW.eq_12, ↓cmp_ll, ↓cmp_lln, ↓cmp_tt, ↓cmp_ttn, ↓biW.eq_1, ↓biW.eq_2, ↓biW.eq_3, ↓biW.eq_4, ↓biW.eq_5, ↓biW.eq_6, ↓biW.eq_7, ↓biW.eq_8, ↓biW.eq_9, ↓biW.eq_10, ↓biW.eq_11, ↓biW.eq_12, ↓biW.eq_13, ↓biW.eq_14, ↓biW.eq_15, ↓biW.eq_16, ↓biW.eq_17, ↓lenW.eq_1, ↓lenW.eq_2, ↓slW.eq_1, ↓slW.eq_2, ↓revW.eq_1, ↓revW.eq_2, ↓pkW_var, ↓ptW_nil, ↓ptK_i, ↓pkW_cst, ↓pkW_tup, ↓pkW_lst, ↓pkW_bin, ↓pkW_neg, ↓pkW_ix, ↓pkW_sl, ↓pkW_rev, ↓pkW_call, ↓pkW_callP, ↓pkW_bi, ↓pkW_len, ↓pkW_lc, ↓pkW_ite, ↓pkW_gc, ↓pkW_mov, ↓pkW_dsp, ↓pkW_bone, ↓pkW_cmp, ↓pkW_cnt, ↓ptW_cst, ↓ptW_tup, ↓ptW_lst, ↓ptW_bin, ↓ptW_neg, ↓ptW_ix, ↓ptW_sl, ↓ptW_rev, ↓ptW_call, ↓ptW_callP, ↓ptW_bi, ↓ptW_len, ↓ptW_lc, ↓ptW_ite, ↓ptW_gc, ↓ptW_mov, ↓ptW_dsp, ↓ptW_bone, ↓ptW_cmp, ↓ptW_cnt, ↓ptW_var, ↓peek, ↓ownAt, ↓kD.eq_1, ↓kD.eq_2, ↓kM.eq_1, ↓kB.eq_1, ↓kV.eq_1, ↓kV.eq_2, ↓setW, ↓rngW1.eq_1, ↓rngW2.eq_1, ↓rngWd.eq_1, isVar, isNil, isT, gv, pv, setAll, ev0, items.eq_1, items.eq_2, tgs, wipeE, blind_cons, blind_nil, bl1, runB, List.map_cons, List.map_nil, List.replicate, List.cons_append, List.nil_append, if_true, if_false, ite_true, ite_false, reduceCtorEq, Bool.true_and, Bool.and_true, Bool.not_true, Bool.not_false, Bool.false_eq_true, ↓reduceIte, Nat.reduceSub, Nat.reduceAdd, List.length_cons, List.length_nil, decide_eq_true_eq, Bool.not_eq_true', decide_eq_false_iff_not, Bool.and_false, Bool.false_and, true_and, and_true, Nat.sub_self, Nat.succ_eq_add_one, flat, Nat.reduceLeDiff, Int.reduceLE, Int.reduceLT, Int.reduceEq, ne_eq, not_false_eq_true, s10, la_2, la_3, la_4, la_5, la_6, la_7, la_8, la_9, la_10, la_11, la_12, la_13, la_14, la_15, la_16, la_18, la_19, la_20, la_21, la_24, la_25, la_28, la_30, la_35, la_36, la_39, la_40, la_41, la_44, la_45, la_49, la_50, la_52, la_54, la_57, la_63, la_64, la_65, la_72, la_78, la_81, la_90, la_100, la_121, la_123, la_125, la_126, la_144, la_162, la_168, la_176, la_196, la_200, la_216, la_240, la_360, la_369, la_400, la_402, la_441, la_540, la_550, la_900, la_907, la_997, la_1009, la_1100, la_1152, la_1440, la_1764, la_2001, la_2003, la_2200, la_3150, la_4099, la_16807, la_22500, la_24200, la_72600, Nat.reduceLT, ↓ix_t0, ↓ix_t1, ↓ix_t2, ↓ix_t3, ↓ix_t4, ↓ix_t5, ↓ix_t6, ↓ix_l0, ↓ix_l1, ↓ix_l2, ↓ix_l3, ↓ix_l4, ↓ix_l5, ↓ix_l6, ↓add_ttz, ↓isT_tz, ↓sl_tz, isN_non, isN_tup, isN_lst, isN_int, isN_str, isN_bl, isN_fr, isN_tz, ↓hS.eq_1, ↓hS.eq_2, ↓hS.eq_3, ↓hS.eq_4, hE, hB, ↓hide.eq_1, ↓hide.eq_2, isS, Nat.reduceBEq, Bool.or_true, Bool.or_false, Bool.true_or, Bool.false_or, beq_self_eq_true, not_true_eq_false, Int.cast_ofNat_Int, ↓wE_callL, ↓wE_callLP, ↓kR_d, ↓kR_o, ↓kT_twoO, ↓kTP_two, ↓kTP_twoO, ↓pkW_callLP, ↓wE_lemp, ↓wE_lix, ↓wE_lpop0, ↓wE_lcL, ↓wE_lcK, ↓pkW_lcK, ↓kT_two, ↓lentAt, unlend_nil, unlend_cons, ul1_n, ul1_d, ul1_o, ul1_l, ↓wS_lend, ↓wS_lfn, ↓wS_retL, ↓wS_lset, ↓wS_asgN, ↓tgW_nst, noTwo_d, noTwo_o, ↓pkW_callL, ↓pkW_lix, ↓pkW_lemp, ↓pkW_lpop0, ↓pkW_lcL, ↓ptW_callL, ↓ptW_lix, ↓wE_lit, ↓pkW_lit, ↓ptW_lit, ↓cmp_geT, ↓wE_dget, ↓wE_dix, ↓wE_dsrt, ↓wE_dlc, ↓wE_lcD, ↓wE_srt, ↓wS_dnewT, ↓wS_dnewI, ↓wS_dset, ↓dictAt, itemsD_I, itemsD_T, ↓pkW_dget, ↓ptW_dget, ↓pkW_dix, ↓ptW_dix, ↓pkW_dsrt, ↓ptW_dsrt, ↓pkW_dlc, ↓ptW_dlc, ↓pkW_lcD, ↓ptW_lcD, ↓pkW_srt, ↓ptW_srt, ↓wE_callF, ↓kF_o, ↓wE_rvl, ↓rvlK_l, ↓wE_lset, ↓lsetK_l, ↓wE_emp, ↓wE_lcO, ↓pkW_lcO, ↓ptW_lcO, hTx, ↓hS.eq_5, ↓pkW_callF, ↓ptW_callF, ↓pkW_rvl, ↓ptW_rvl, ↓pkW_lset, ↓ptW_lset, ↓pkW_emp, ↓ptW_emp]
                  exact hk _
              · walk_at "s"
                refine ⟨_, asBools_map nonneg ps, ?_⟩
                rw [List.all_map]
                exact h
            · have l3' : ¬ ((ps.length : Nat) : Int) = 3 := by omega
              rw [decide_eq_false l3, Bool.false_and] at h
              simp only [l3', decide_false, ↓wE.eq_1, ↓wE.eq_2, ↓wE.eq_3, ↓wE.eq_4, ↓wE.eq_5, ↓wE.eq_6, ↓wE.eq_7, ↓wE.eq_8, ↓wE.eq_9, ↓wE.eq_10, ↓wE.eq_11, ↓wE.eq_12, ↓wE.eq_13, ↓wE.eq_14, ↓wE.eq_15, ↓wE.eq_16, ↓wE.eq_18, ↓wE.eq_19, ↓wE.eq_22, ↓wE.eq_23, ↓wE.eq_24, ↓wE.eq_25, ↓wE.eq_26, ↓wE.eq_27, ↓wE.eq_28, ↓wE.eq_29, ↓wE.eq_30, ↓wE.eq_31, ↓wE.eq_32, ↓wE.eq_34, ↓wE.eq_35, ↓wE.eq_36, ↓wE.eq_37, ↓wE.eq_38, ↓wE.eq_39, ↓wE.eq_40, ↓wE.eq_41, ↓wE_call, ↓wE_callP, ↓wE_lc, ↓wE_lcg, ↓wE_isv, ↓wE_ix, ↓ix_fr0, ↓ix_fr1, ↓cmp_fr, ↓cmp_frn, ↓cmp_fr0, ↓cmp_tz, ↓cmp_tzn, ↓cmp_tz0, ↓cmp_tzn0, ↓bi_list_tz, ↓add_tz,  ↓len_tz, ↓len_fr, ↓isT_fr, items_tz, ↓cmp_bb, ↓cmp_bbn, ↓wS_whl, ↓wS_for, ↓wS_forP, ↓wS_asg, ↓wS_par, ↓wS_setIx, ↓wS_app, ↓tgW_one, ↓tgW_tup, pvF_eq, ↓wS.eq_1, ↓wS.eq_2, ↓wS.eq_3, ↓wS.eq_5, ↓wS.eq_7, ↓wS.eq_10, ↓wS.eq_11, ↓wS.eq_12, ↓wS.eq_13, ↓wS.eq_14, ↓wS.eq_15, ↓wS.eq_16, ↓wS.eq_17, ↓wS.eq_20, ↓wS.eq_21, ↓wS.eq_22, ↓wS.eq_23, ↓wS.eq_24, ↓wS.eq_25, ↓wS.eq_26, ↓wS.eq_27, ↓wS.eq_28, ↓wS.eq_29, ↓wS.eq_30, ↓augW.eq_1, ↓augW.eq_2, ↓augW.eq_3, ↓augW.eq_4, ↓inW.eq_1, ↓inW.eq_2, ↓inW.eq_3, ↓inW.eq_4, ↓zipW.eq_1, ↓zipW.eq_2, ↓zipW.eq_3, ↓cntW.eq_1, ↓dspW.eq_1, ↓idxW.eq_1, ↓opW.eq_1, ↓opW.eq_2, ↓opW.eq_3, ↓opW.eq_4, ↓opW.eq_5, ↓opW.eq_6, ↓opW.eq_7, ↓opW.eq_8, ↓opW.eq_9, ↓opW.eq_10, ↓opW.eq_11, ↓opW.eq_12, ↓opW.eq_13, ↓opW.eq_14, ↓cmpW.eq_1, ↓cmpW.eq_2, ↓cmpW.eq_5, ↓cmpW.eq_6, ↓cmpW.eq_7, ↓cmpW.eq_8, ↓cmpW.eq_9, ↓cmpW.eq_10, ↓cmpW.eq_11, ↓cmpW.eq_12, ↓cmp_ll, ↓cmp_lln, ↓cmp_tt, ↓cmp_ttn, ↓biW.eq_1, ↓biW.eq_2, ↓biW.eq_3, ↓biW.eq_4, ↓biW.eq_5, ↓biW.eq_6, ↓biW.eq_7, ↓biW.eq_8, ↓biW.eq_9, ↓biW.eq_10, ↓biW.eq_11, ↓biW.eq_12, ↓biW.eq_13, ↓biW.eq_14, ↓biW.eq_15, ↓biW.eq_16, ↓biW.eq_17, ↓lenW.eq_1, ↓lenW.eq_2, ↓slW.eq_1, ↓slW.eq_2, ↓revW.eq_1, ↓revW.eq_2, ↓pkW_var, ↓ptW_nil, ↓ptK_i, ↓pkW_cst, ↓pkW_tup, ↓pkW_lst, ↓pkW_bin, ↓pkW_neg, ↓pkW_ix, ↓pkW_sl, ↓pkW_rev, ↓pkW_call, ↓pkW_callP, ↓pkW_bi, ↓pkW_len, ↓pkW_lc, ↓pkW_ite, ↓pkW_gc, ↓pkW_mov, ↓pkW_dsp, ↓pkW_bone, ↓pkW_cmp, ↓pkW_cnt, ↓ptW_cst, ↓ptW_tup, ↓ptW_lst, ↓ptW_bin, ↓ptW_neg, ↓ptW_ix, ↓ptW_sl, ↓ptW_rev, ↓ptW_call, ↓ptW_callP, ↓ptW_bi, ↓ptW_len, ↓ptW_lc, ↓ptW_ite, ↓ptW_gc, ↓ptW_mov, ↓ptW_dsp, ↓ptW_bone, ↓ptW_cmp, ↓ptW_cnt, ↓ptW_var, ↓peek, ↓ownAt, ↓kD.eq_1, ↓kD.eq_2, ↓kM.eq_1, ↓kB.eq_1, ↓kV.eq_1, ↓kV.eq_2, ↓setW, ↓rngW1.eq_1, ↓rngW2.eq_1, ↓rngWd.eq_1, isVar, isNil, isT, gv, pv, setAll, ev0, items.eq_1, items.eq_2, tgs, wipeE, blind_cons, blind_nil, bl1, runB, List.map_cons, List.map_nil, List.replicate, List.cons_append, List.nil_append, if_true, if_false, ite_true, ite_false, reduceCtorEq, Bool.true_and, Bool.and_true, Bool.not_true, Bool.not_false, Bool.false_eq_true, ↓reduceIte, Nat.reduceSub, Nat.reduceAdd, List.length_cons, List.length_nil, decide_eq_true_eq, Bool.not_eq_true', decide_eq_false_iff_not, Bool.and_false, Bool.false_and, true_and, and_true, Nat.sub_self, Nat.succ_eq_add_one, flat, Nat.reduceLeDiff, Int.reduceLE, Int.reduceLT, Int.reduceEq, ne_eq, not_false_eq_true, s10, la_2, la_3, la_4, la_5, la_6, la_7, la_8, la_9, la_10, la_11, la_12, la_13, la_14, la_15, la_16, la_18, la_19, la_20, la_21, la_24, la_25, la_28, la_30, la_35, la_36, la_39, la_40, la_41, la_44, la_45, la_49, la_50, la_52, la_54, la_57, la_63, la_64, la_65, la_72, la_78, la_81, la_90, la_100, la_121, la_123, la_125, la_126, la_144, la_162, la_168, la_176, la_196, la_200, la_216, la_240, la_360, la_369, la_400, la_402, la_441, la_540, la_550, la_900, la_907, la_997, la_1009, la_1100, la_1152, la_1440, la_1764, la_2001, la_2003, la_2200, la_3150, la_4099, la_16807, la_22500, la_24200, la_72600, Nat.reduceLT, ↓ix_t0, ↓ix_t1, ↓ix_t2, ↓ix_t3, ↓ix_t4, ↓ix_t5, ↓ix_t6, ↓ix_l0, ↓ix_l1, ↓ix_l2, ↓ix_l3, ↓ix_l4, ↓ix_l5, ↓ix_l6, ↓add_ttz, ↓isT_tz, ↓sl_tz, isN_non, isN_tup, isN_lst, isN_int, isN_str, isN_bl, isN_fr, isN_tz, ↓hS.eq_1, ↓hS.eq_2, ↓hS.eq_3, ↓hS.eq_4, hE, hB, ↓hide.eq_1, ↓hide.eq_2, isS, Nat.reduceBEq, Bool.or_true, Bool.or_false, Bool.true_or, Bool.false_or, beq_self_eq_true, not_true_eq_false, Int.cast_ofNat_Int, ↓wE_callL, ↓wE_callLP, ↓kR_d, ↓kR_o, ↓kT_twoO, ↓kTP_two, ↓kTP_twoO, ↓pkW_callLP, ↓wE_lemp, ↓wE_lix, ↓wE_lpop0, ↓wE_lcL, ↓wE_lcK, ↓pkW_lcK, ↓kT_two, ↓lentAt, unlend_nil, unlend_cons, ul1_n, ul1_d, ul1_o, ul1_l, ↓wS_lend, ↓wS_lfn, ↓wS_retL, ↓wS_lset, ↓wS_asgN, ↓tgW_nst, noTwo_d, noTwo_o, ↓pkW_callL, ↓pkW_lix, ↓pkW_lemp, ↓pkW_lpop0, ↓pkW_lcL, ↓ptW_callL, ↓ptW_lix, ↓wE_lit, ↓pkW_lit, ↓ptW_lit, ↓cmp_geT, ↓wE_dget, ↓wE_dix, ↓wE_dsrt, ↓wE_dlc, ↓wE_lcD, ↓wE_srt, ↓wS_dnewT, ↓wS_dnewI, ↓wS_dset, ↓dictAt, itemsD_I, itemsD_T, ↓pkW_dget, ↓ptW_dget, ↓pkW_dix, ↓ptW_dix, ↓pkW_dsrt, ↓ptW_dsrt, ↓pkW_dlc, ↓ptW_dlc, ↓pkW_lcD, ↓ptW_lcD, ↓pkW_srt, ↓ptW_srt, ↓wE_callF, ↓kF_o, ↓wE_rvl, ↓rvlK_l, ↓wE_lset, ↓lsetK_l, ↓wE_emp, ↓wE_lcO, ↓pkW_lcO, ↓ptW_lcO, hTx, ↓hS.eq_5, ↓pkW_callF, ↓ptW_callF, ↓pkW_rvl, ↓ptW_rvl, ↓pkW_lset, ↓ptW_lset, ↓pkW_emp, ↓ptW_emp]
              exact h
          | _ =>
            walk_at "s"
            exact h
      | _ =>
        simp only [isW, ↓wE.eq_1, ↓wE.eq_2, ↓wE.eq_3, ↓wE.eq_4, ↓wE.eq_5, ↓wE.eq_6, ↓wE.eq_7, ↓wE.eq_8, ↓wE.eq_9, ↓wE.eq_10, ↓wE.eq_11, ↓wE.eq_12, ↓wE.eq_13, ↓wE.eq_14, ↓wE.eq_15, ↓wE.eq_16, ↓wE.eq_18, ↓wE.eq_19, ↓wE.eq_22, ↓wE.eq_23, ↓wE.eq_24, ↓wE.eq_25, ↓wE.eq_26, ↓wE.eq_27, ↓wE.eq_28, ↓wE.eq_29, ↓wE.eq_30, ↓wE.eq_31, ↓wE.eq_32, ↓wE.eq_34, ↓wE.eq_35, ↓wE.eq_36, ↓wE.eq_37, ↓wE.eq_38, ↓wE.eq_39, ↓wE.eq_40, ↓wE.eq_41, ↓wE_call, ↓wE_callP, ↓wE_lc, ↓wE_lcg, ↓wE_isv, ↓wE_ix, ↓ix_fr0, ↓ix_fr1, ↓cmp_fr, ↓cmp_frn, ↓cmp_fr0, ↓cmp_tz, ↓cmp_tzn, ↓cmp_tz0, ↓cmp_tzn0, ↓bi_list_tz, ↓add_tz,  ↓len_tz, ↓len_fr, ↓isT_fr, items_tz, ↓cmp_bb, ↓cmp_bbn, ↓wS_whl, ↓wS_for, ↓wS_forP, ↓wS_asg, ↓wS_par, ↓wS_setIx, ↓wS_app, ↓tgW_one, ↓tgW_tup, pvF_eq, ↓wS.eq_1, ↓wS.eq_2, ↓wS.eq_3, ↓wS.eq_5, ↓wS.eq_7, ↓wS.eq_10, ↓wS.eq_11, ↓wS.eq_12, ↓wS.eq_13, ↓wS.eq_14, ↓wS.eq_15, ↓wS.eq_16, ↓wS.eq_17, ↓wS.eq_20, ↓wS.eq_21, ↓wS.eq_22, ↓wS.eq_23, ↓wS.eq_24, ↓wS.eq_25, ↓wS.eq_26, ↓wS.eq_27, ↓wS.eq_28, ↓wS.eq_29, ↓wS.eq_30, ↓augW.eq_1, ↓augW.eq_2, ↓augW.eq_3, ↓augW.eq_4, ↓inW.eq_1, ↓inW.eq_2, ↓inW.eq_3, ↓inW.eq_4, ↓zipW.eq_1, ↓zipW.eq_2, ↓zipW.eq_3, ↓cntW.eq_1, ↓dspW.eq_1, ↓idxW.eq_1, ↓opW.eq_1, ↓opW.eq_2, ↓opW.eq_3, ↓opW.eq_4, ↓opW.eq_5, ↓opW.eq_6, ↓opW.eq_7, ↓opW.eq_8, ↓opW.eq_9, ↓opW.eq_10, ↓opW.eq_11, ↓opW.eq_12, ↓opW.eq_13, ↓opW.eq_14, ↓cmpW.eq_1, ↓cmpW.eq_2, ↓cmpW.eq_5, ↓cmpW.eq_6, ↓cmpW.eq_7, ↓cmpW.eq_8, ↓cmpW.eq_9, ↓cmpW.eq_10, ↓cmpW.eq_11, ↓cmpW.eq_12, ↓cmp_ll, ↓cmp_lln, ↓cmp_tt, ↓cmp_ttn, ↓biW.eq_1, ↓biW.eq_2, ↓biW.eq_3, ↓biW.eq_4, ↓biW.eq_5, ↓biW.eq_6, ↓biW.eq_7, ↓biW.eq_8, ↓biW.eq_9, ↓biW.eq_10, ↓biW.eq_11, ↓biW.eq_12, ↓biW.eq_13, ↓biW.eq_14, ↓biW.eq_15, ↓biW.eq_16, ↓biW.eq_17, ↓lenW.eq_1, ↓lenW.eq_2, ↓slW.eq_1, ↓slW.eq_2, ↓revW.eq_1, ↓revW.eq_2, ↓pkW_var, ↓ptW_nil, ↓ptK_i, ↓pkW_cst, ↓pkW_tup, ↓pkW_lst, ↓pkW_bin, ↓pkW_neg, ↓pkW_ix, ↓pkW_sl, ↓pkW_rev, ↓pkW_call, ↓pkW_callP, ↓pkW_bi, ↓pkW_len, ↓pkW_lc, ↓pkW_ite, ↓pkW_gc, ↓pkW_mov, ↓pkW_dsp, ↓pkW_bone, ↓pkW_cmp, ↓pkW_cnt, ↓ptW_cst, ↓ptW_tup, ↓ptW_lst, ↓ptW_bin, ↓ptW_neg, ↓ptW_ix, ↓ptW_sl, ↓ptW_rev, ↓ptW_call, ↓ptW_callP, ↓ptW_bi, ↓ptW_len, ↓ptW_lc, ↓ptW_ite, ↓ptW_gc, ↓ptW_mov, ↓ptW_dsp, ↓ptW_bone, ↓ptW_cmp, ↓ptW_cnt, ↓ptW_var, ↓peek, ↓ownAt, ↓kD.eq_1, ↓kD.eq_2, ↓kM.eq_1, ↓kB.eq_1, ↓kV.eq_1, ↓kV.eq_2, ↓setW, ↓rngW1.eq_1, ↓rngW2.eq_1, ↓rngWd.eq_1, isVar, isNil, isT, gv, pv, setAll, ev0, items.eq_1, items.eq_2, tgs, wipeE, blind_cons, blind_nil, bl1, runB, List.map_cons, List.map_nil, List.replicate, List.cons_append, List.nil_append, if_true, if_false, ite_true, ite_false, reduceCtorEq, Bool.true_and, Bool.and_true, Bool.not_true, Bool.not_false, Bool.false_eq_true, ↓reduceIte, Nat.reduceSub, Nat.reduceAdd, List.length_cons, List.length_nil, decide_eq_true_eq, Bool.not_eq_true', decide_eq_false_iff_not, Bool.and_false, Bool.false_and, true_and, and_true, Nat.sub_self, Nat.succ_eq_add_one, flat, Nat.reduceLeDiff, Int.reduceLE, Int.reduceLT, Int.reduceEq, ne_eq, not_false_eq_true, s10, la_2, la_3, la_4, la_5, la_6, la_7, la_8, la_9, la_10, la_11, la_12, la_13, la_14, la_15, la_16, la_18, la_19, la_20, la_21, la_24, la_25, la_28, la_30, la_35, la_36, la_39, la_40, la_41, la_44, la_45, la_49, la_50, la_52, la_54, la_57, la_63, la_64, la_65, la_72, la_78, la_81, la_90, la_100, la_121, la_123, la_125, la_126, la_144, la_162, la_168, la_176, la_196, la_200, la_216, la_240, la_360, la_369, la_400, la_402, la_441, la_540, la_550, la_900, la_907, la_997, la_1009, la_1100, la_1152, la_1440, la_1764, la_2001, la_2003, la_2200, la_3150, la_4099, la_16807, la_22500, la_24200, la_72600, Nat.reduceLT, ↓ix_t0, ↓ix_t1, ↓ix_t2, ↓ix_t3, ↓ix_t4, ↓ix_t5, ↓ix_t6, ↓ix_l0, ↓ix_l1, ↓ix_l2, ↓ix_l3, ↓ix_l4, ↓ix_l5, ↓ix_l6, ↓add_ttz, ↓isT_tz, ↓sl_tz, isN_non, isN_tup, isN_lst, isN_int, isN_str, isN_bl, isN_fr, isN_tz, ↓hS.eq_1, ↓hS.eq_2, ↓hS.eq_3, ↓hS.eq_4, hE, hB, ↓hide.eq_1, ↓hide.eq_2, isS, Nat.reduceBEq, Bool.or_true, Bool.or_false, Bool.true_or, Bool.false_or, beq_self_eq_true, not_true_eq_false, Int.cast_ofNat_Int, ↓wE_callL, ↓wE_callLP, ↓kR_d, ↓kR_o, ↓kT_twoO, ↓kTP_two, ↓kTP_twoO, ↓pkW_callLP, ↓wE_lemp, ↓wE_lix, ↓wE_lpop0, ↓wE_lcL, ↓wE_lcK, ↓pkW_lcK, ↓kT_two, ↓lentAt, unlend_nil, unlend_cons, ul1_n, ul1_d, ul1_o, ul1_l, ↓wS_lend, ↓wS_lfn, ↓wS_retL, ↓wS_lset, ↓wS_asgN, ↓tgW_nst, noTwo_d, noTwo_o, ↓pkW_callL, ↓pkW_lix, ↓pkW_lemp, ↓pkW_lpop0, ↓pkW_lcL, ↓ptW_callL, ↓ptW_lix, ↓wE_lit, ↓pkW_lit, ↓ptW_lit, ↓cmp_geT, ↓wE_dget, ↓wE_dix, ↓wE_dsrt, ↓wE_dlc, ↓wE_lcD, ↓wE_srt, ↓wS_dnewT, ↓wS_dnewI, ↓wS_dset, ↓dictAt, itemsD_I, itemsD_T, ↓pkW_dget, ↓ptW_dget, ↓pkW_dix, ↓ptW_dix, ↓pkW_dsrt, ↓ptW_dsrt, ↓pkW_dlc, ↓ptW_dlc, ↓pkW_lcD, ↓ptW_lcD, ↓pkW_srt, ↓ptW_srt, ↓wE_callF, ↓kF_o, ↓wE_rvl, ↓rvlK_l, ↓wE_lset, ↓lsetK_l, ↓wE_emp, ↓wE_lcO, ↓pkW_lcO, ↓ptW_lcO, hTx, ↓hS.eq_5, ↓pkW_callF, ↓ptW_callF, ↓pkW_rvl, ↓ptW_rvl, ↓pkW_lset, ↓ptW_lset, ↓pkW_emp, ↓ptW_emp]
        have e : ∀ y, (∀ i, y ≠ PyData.int i) → isTm (.tuple [a, y]) = false := fun y hy => by
          cases a with
          | tuple ps => cases y with
            | int i => exact absurd rfl (hy i)
            | _ => rfl
          | _ => rfl
        rw [e _ (fun i z => by cases z)] at h
        exact h
    · have l3 : ¬ (((r.length + 1 + 1 + 1 : Nat) : Int) = 2) := by omega
      have ei : isTm (.tuple (a :: c :: e :: r)) = false := by cases a <;> first | rfl | (cases c <;> rfl)
      rw [ei] at h
      simp only [b_is_term, l3, decide_false, ↓wE.eq_1, ↓wE.eq_2, ↓wE.eq_3, ↓wE.eq_4, ↓wE.eq_5, ↓wE.eq_6, ↓wE.eq_7, ↓wE.eq_8, ↓wE.eq_9, ↓wE.eq_10, ↓wE.eq_11, ↓wE.eq_12, ↓wE.eq_13, ↓wE.eq_14, ↓wE.eq_15, ↓wE.eq_16, ↓wE.eq_18, ↓wE.eq_19, ↓wE.eq_22, ↓wE.eq_23, ↓wE.eq_24, ↓wE.eq_25, ↓wE.eq_26, ↓wE.eq_27, ↓wE.eq_28, ↓wE.eq_29, ↓wE.eq_30, ↓wE.eq_31, ↓wE.eq_32, ↓wE.eq_34, ↓wE.eq_35, ↓wE.eq_36, ↓wE.eq_37, ↓wE.eq_38, ↓wE.eq_39, ↓wE.eq_40, ↓wE.eq_41, ↓wE_call, ↓wE_callP, ↓wE_lc, ↓wE_lcg, ↓wE_isv, ↓wE_ix, ↓ix_fr0, ↓ix_fr1, ↓cmp_fr, ↓cmp_frn, ↓cmp_fr0, ↓cmp_tz, ↓cmp_tzn, ↓cmp_tz0, ↓cmp_tzn0, ↓bi_list_tz, ↓add_tz,  ↓len_tz, ↓len_fr, ↓isT_fr, items_tz, ↓cmp_bb, ↓cmp_bbn, ↓wS_whl, ↓wS_for, ↓wS_forP, ↓wS_asg, ↓wS_par, ↓wS_setIx, ↓wS_app, ↓tgW_one, ↓tgW_tup, pvF_eq, ↓wS.eq_1, ↓wS.eq_2, ↓wS.eq_3, ↓wS.eq_5, ↓wS.eq_7, ↓wS.eq_10, ↓wS.eq_11, ↓wS.eq_12, ↓wS.eq_13, ↓wS.eq_14, ↓wS.eq_15, ↓wS.eq_16, ↓wS.eq_17, ↓wS.eq_20, ↓wS.eq_21, ↓wS.eq_22, ↓wS.eq_23, ↓wS.eq_24, ↓wS.eq_25, ↓wS.eq_26, ↓wS.eq_27, ↓wS.eq_28, ↓wS.eq_29, ↓wS.eq_30, ↓augW.eq_1, ↓augW.eq_2, ↓augW.eq_3, ↓augW.eq_4, ↓inW.eq_1, ↓inW.eq_2, ↓inW.eq_3, ↓inW.eq_4, ↓zipW.eq_1, ↓zipW.eq_2, ↓zipW.eq_3, ↓cntW.eq_1, ↓dspW.eq_1, ↓idxW.eq_1, ↓opW.eq_1, ↓opW.eq_2, ↓opW.eq_3, ↓opW.eq_4, ↓opW.eq_5, ↓opW.eq_6, ↓opW.eq_7, ↓opW.eq_8, ↓opW.eq_9, ↓opW.eq_10, ↓opW.eq_11, ↓opW.eq_12, ↓opW.eq_13, ↓opW.eq_14, ↓cmpW.eq_1, ↓cmpW.eq_2, ↓cmpW.eq_5, ↓cmpW.eq_6, ↓cmpW.eq_7, ↓cmpW.eq_8, ↓cmpW.eq_9, ↓cmpW.eq_10, ↓cmpW.eq_11, ↓cmpW.eq_12, ↓cmp_ll, ↓cmp_lln, ↓cmp_tt, ↓cmp_ttn, ↓biW.eq_1, ↓biW.eq_2, ↓biW.eq_3, ↓biW.eq_4, ↓biW.eq_5, ↓biW.eq_6, ↓biW.eq_7, ↓biW.eq_8, ↓biW.eq_9, ↓biW.eq_10, ↓biW.eq_11, ↓biW.eq_12, ↓biW.eq_13, ↓biW.eq_14, ↓biW.eq_15, ↓biW.eq_16, ↓biW.eq_17, ↓lenW.eq_1, ↓lenW.eq_2, ↓slW.eq_1, ↓slW.eq_2, ↓revW.eq_1, ↓revW.eq_2, ↓pkW_var, ↓ptW_nil, ↓ptK_i, ↓pkW_cst, ↓pkW_tup, ↓pkW_lst, ↓pkW_bin, ↓pkW_neg, ↓pkW_ix, ↓pkW_sl, ↓pkW_rev, ↓pkW_call, ↓pkW_callP, ↓pkW_bi, ↓pkW_len, ↓pkW_lc, ↓pkW_ite, ↓pkW_gc, ↓pkW_mov, ↓pkW_dsp, ↓pkW_bone, ↓pkW_cmp, ↓pkW_cnt, ↓ptW_cst, ↓ptW_tup, ↓ptW_lst, ↓ptW_bin, ↓ptW_neg, ↓ptW_ix, ↓ptW_sl, ↓ptW_rev, ↓ptW_call, ↓ptW_callP, ↓ptW_bi, ↓ptW_len, ↓ptW_lc, ↓ptW_ite, ↓ptW_gc, ↓ptW_mov, ↓ptW_dsp, ↓ptW_bone, ↓ptW_cmp, ↓ptW_cnt, ↓ptW_var, ↓peek, ↓ownAt, ↓kD.eq_1, ↓kD.eq_2, ↓kM.eq_1, ↓kB.eq_1, ↓kV.eq_1, ↓kV.eq_2, ↓setW, ↓rngW1.eq_1, ↓rngW2.eq_1, ↓rngWd.eq_1, isVar, isNil, isT, gv, pv, setAll, ev0, items.eq_1, items.eq_2, tgs, wipeE, blind_cons, blind_nil, bl1, runB, List.map_cons, List.map_nil, List.replicate, List.cons_append, List.nil_append, if_true, if_false, ite_true, ite_false, reduceCtorEq, Bool.true_and, Bool.and_true, Bool.not_true, Bool.not_false, Bool.false_eq_true, ↓reduceIte, Nat.reduceSub, Nat.reduceAdd, List.length_cons, List.length_nil, decide_eq_true_eq, Bool.not_eq_true', decide_eq_false_iff_not, Bool.and_false, Bool.false_and, true_and, and_true, Nat.sub_self, Nat.succ_eq_add_one, flat, Nat.reduceLeDiff, Int.reduceLE, Int.reduceLT, Int.reduceEq, ne_eq, not_false_eq_true, s10, la_2, la_3, la_4, la_5, la_6, la_7, la_8, la_9, la_10, la_11, la_12, la_13, la_14, la_15, la_16, la_18, la_19, la_20, la_21, la_24, la_25, la_28, la_30, la_35, la_36, la_39, la_40, la_41, la_44, la_45, la_49, la_50, la_52, la_54, la_57, la_63, la_64, la_65, la_72, la_78, la_81, la_90, la_100, la_121, la_123, la_125, la_126, la_144, la_162, la_168, la_176, la_196, la_200, la_216, la_240, la_360, la_369, la_400, la_402, la_441, la_540, la_550, la_900, la_907, la_997, la_1009, la_1100, la_1152, la_1440, la_1764, la_2001, la_2003, la_2200, la_3150, la_4099, la_16807, la_22500, la_24200, la_72600, Nat.reduceLT, ↓ix_t0, ↓ix_t1, ↓ix_t2, ↓ix_t3, ↓ix_t4, ↓ix_t5, ↓ix_t6, ↓ix_l0, ↓ix_l1, ↓ix_l2, ↓ix_l3, ↓ix_l4, ↓ix_l5, ↓ix_l6, ↓add_ttz, ↓isT_tz, ↓sl_tz, isN_non, isN_tup, isN_lst, isN_int, isN_str, isN_bl, isN_fr, isN_tz, ↓hS.eq_1, ↓hS.eq_2, ↓hS.eq_3, ↓hS.eq_4, hE, hB, ↓hide.eq_1, ↓hide.eq_2, isS, Nat.reduceBEq, Bool.or_true, Bool.or_false, Bool.true_or, Bool.false_or, beq_self_eq_true, not_true_eq_false, Int.cast_ofNat_Int, ↓wE_callL, ↓wE_callLP, ↓kR_d, ↓kR_o, ↓kT_twoO, ↓kTP_two, ↓kTP_twoO, ↓pkW_callLP, ↓wE_lemp, ↓wE_lix, ↓wE_lpop0, ↓wE_lcL, ↓wE_lcK, ↓pkW_lcK, ↓kT_two, ↓lentAt, unlend_nil, unlend_cons, ul1_n, ul1_d, ul1_o, ul1_l, ↓wS_lend, ↓wS_lfn, ↓wS_retL, ↓wS_lset, ↓wS_asgN, ↓tgW_nst, noTwo_d, noTwo_o, ↓pkW_callL, ↓pkW_lix, ↓pkW_lemp, ↓pkW_lpop0, ↓pkW_lcL, ↓ptW_callL, ↓ptW_lix, ↓wE_lit, ↓pkW_lit, ↓ptW_lit, ↓cmp_geT, ↓wE_dget, ↓wE_dix, ↓wE_dsrt, ↓wE_dlc, ↓wE_lcD, ↓wE_srt, ↓wS_dnewT, ↓wS_dnewI, ↓wS_dset, ↓dictAt, itemsD_I, itemsD_T, ↓pkW_dget, ↓ptW_dget, ↓pkW_dix, ↓ptW_dix, ↓pkW_dsrt, ↓ptW_dsrt, ↓pkW_dlc, ↓ptW_dlc, ↓pkW_lcD, ↓ptW_lcD, ↓pkW_srt, ↓ptW_srt, ↓wE_callF, ↓kF_o, ↓wE_rvl, ↓rvlK_l, ↓wE_lset, ↓lsetK_l, ↓wE_emp, ↓wE_lcO, ↓pkW_lcO, ↓ptW_lcO, hTx, ↓hS.eq_5, ↓pkW_callF, ↓ptW_callF, ↓pkW_rvl, ↓ptW_rvl, ↓pkW_lset, ↓ptW_lset, ↓pkW_emp, ↓ptW_emp]
      exact h
  | _ =>
    (simp only [b_is_term]; walk_at "s")
    exact h

theorem p_is_form {d : D} (hd : ∀ xs, d = .tuple xs → xs.length ≤ 1000000) (h : Q (.d (.bool (isFm d)))) : sem fns (k + 3) 4 [d] X Q := by
  refine sem_at rfl ⟨rfl, ?_⟩
  cases d with
  | tuple xs =>
    have hl := hd xs rfl
    (simp only [b_is_form]; walk_at "s")
    refine lc_map' (fun d => .bool (isTm d)) (fun x hx kk hk => ?_) (by omega) ?_
    · (simp only [e_is_form_1]; walk_at "s")
      refine p_is_term ?_
      walk_at "s"
      exact hk _
    walk_at "s"
    refine ⟨_, asBools_map isTm xs, ?_⟩
    rw [show (xs.map isTm).all id = xs.all isTm by rw [List.all_map]; rfl]
    cases ha : xs.all isTm with
    | false =>
      rw [isFm_no ha] at h
      walk_at "s"
      exact h
    | true =>
      obtain ⟨ts, rfl⟩ := allTm ha
      rw [isFm_td ha] at h
      walk_at "s"
      refine for_at' (fun q ε => ∃ (us vs : List Tm) (o1 o2 : Option Val), ts = us ++ vs ∧ q = enums us.length (vs.map td) ∧ (∀ p u, us = u ++ [p] → chn (p :: vs) = chn ts) ∧ (us = [] → True) ∧ ε = [some (.d (.tuple (ts.map td))), o1, o2]) ?_ ?_ _ _ ⟨[], ts, none, none, rfl, rfl, (fun p u e => by simp at e), fun _ => trivial, rfl⟩
      · rintro x q ε ⟨us, vs, o1, o2, e, hq, hc, _, rfl⟩ hnx
        cases vs with
        | nil => cases hq
        | cons v vs =>
          cases hq
          rcases List.eq_nil_or_concat us with e0 | ⟨u, p, e0⟩
          · subst e0
            (simp only [b_is_form_2]; walk_at "s")
            refine hnx _ ⟨[v], vs, _, _, by rw [e]; rfl, rfl, fun p u e2 => ?_, fun _ => trivial, rfl⟩
            have : p = v := by
              cases u with
              | nil => simpa using e2.symm
              | cons a u => simp at e2
            rw [this, e]; rfl
          · subst e0
            have hp := hc p u (by simp)
            have el : ((u ++ [p]).length : Int) > 0 := by simp
            simp only [List.concat_eq_append] at *
            simp only [b_is_form_2, el, ↓wE.eq_1, ↓wE.eq_2, ↓wE.eq_3, ↓wE.eq_4, ↓wE.eq_5, ↓wE.eq_6, ↓wE.eq_7, ↓wE.eq_8, ↓wE.eq_9, ↓wE.eq_10, ↓wE.eq_11, ↓wE.eq_12, ↓wE.eq_13, ↓wE.eq_14, ↓wE.eq_15, ↓wE.eq_16, ↓wE.eq_18, ↓wE.eq_19, ↓wE.eq_22, ↓wE.eq_23, ↓wE.eq_24, ↓wE.eq_25, ↓wE.eq_26, ↓wE.eq_27, ↓wE.eq_28, ↓wE.eq_29, ↓wE.eq_30, ↓wE.eq_31, ↓wE.eq_32, ↓wE.eq_34, ↓wE.eq_35, ↓wE.eq_36, ↓wE.eq_37, ↓wE.eq_38, ↓wE.eq_39, ↓wE.eq_40, ↓wE.eq_41, ↓wE_call, ↓wE_callP, ↓wE_lc, ↓wE_lcg, ↓wE_isv, ↓wE_ix, ↓ix_fr0, ↓ix_fr1, ↓cmp_fr, ↓cmp_frn, ↓cmp_fr0, ↓cmp_tz, ↓cmp_tzn, ↓cmp_tz0, ↓cmp_tzn0, ↓bi_list_tz, ↓add_tz,  ↓len_tz, ↓len_fr, ↓isT_fr, items_tz, ↓cmp_bb, ↓cmp_bbn, ↓wS_whl, ↓wS_for, ↓wS_forP, ↓wS_asg, ↓wS_par, ↓wS_setIx, ↓wS_app, ↓tgW_one, ↓tgW_tup, pvF_eq, ↓wS.eq_1, ↓wS.eq_2, ↓wS.eq_3, ↓wS.eq_5, ↓wS.eq_7, ↓wS.eq_10, ↓wS.eq_11, ↓wS.eq_12, ↓wS.eq_13, ↓wS.eq_14, ↓wS.eq_15, ↓wS.eq_16, ↓wS.eq_17, ↓wS.eq_20, ↓wS.eq_21, ↓wS.eq_22, ↓wS.eq_23, ↓wS.eq_24, ↓wS.eq_25, ↓wS.eq_26, ↓wS.eq_27, ↓wS.eq_28, ↓wS.eq_29, ↓wS.eq_30, ↓augW.eq_1, ↓augW.eq_2, ↓augW.eq_3, ↓augW.eq_4, ↓inW.eq_1, ↓inW.eq_2, ↓inW.eq_3, ↓inW.eq_4, ↓zipW.eq_1, ↓zipW.eq_2, ↓zipW.eq_3, ↓cntW.eq_1, ↓dspW.eq_1, ↓idxW.eq_1, ↓opW.eq_1, ↓opW.eq_2, ↓opW.eq_3, ↓opW.eq_4, ↓opW.eq_5, ↓opW.eq_6, ↓opW.eq_7, ↓opW.eq_8, ↓opW.eq_9, ↓opW.eq_10, ↓opW.eq_11, ↓opW.eq_12, ↓opW.eq_13, ↓opW.eq_14, ↓cmpW.eq_1, ↓cmpW.eq_2, ↓cmpW.eq_5, ↓cmpW.eq_6, ↓cmpW.eq_7, ↓cmpW.eq_8, ↓cmpW.eq_9, ↓cmpW.eq_10, ↓cmpW.eq_11, ↓cmpW.eq_12, ↓cmp_ll, ↓cmp_lln, ↓cmp_tt, ↓cmp_ttn, ↓biW.eq_1, ↓biW.eq_2, ↓biW.eq_3, ↓biW.eq_4, ↓biW.eq_5, ↓biW.eq_6, ↓biW.eq_7, ↓biW.eq_8, ↓biW.eq_9, ↓biW.eq_10, ↓biW.eq_11, ↓biW.eq_12, ↓biW.eq_13, ↓biW.eq_14, ↓biW.eq_15, ↓biW.eq_16, ↓biW.eq_17, ↓lenW.eq_1, ↓lenW.eq_2, ↓slW.eq_1, ↓slW.eq_2, ↓revW.eq_1, ↓revW.eq_2, ↓pkW_var, ↓ptW_nil, ↓ptK_i, ↓pkW_cst, ↓pkW_tup, ↓pkW_lst, ↓pkW_bin, ↓pkW_neg, ↓pkW_ix, ↓pkW_sl, ↓pkW_rev, ↓pkW_call, ↓pkW_callP, ↓pkW_bi, ↓pkW_len, ↓pkW_lc, ↓pkW_ite, ↓pkW_gc, ↓pkW_mov, ↓pkW_dsp, ↓pkW_bone, ↓pkW_cmp, ↓pkW_cnt, ↓ptW_cst, ↓ptW_tup, ↓ptW_lst, ↓ptW_bin, ↓ptW_neg, ↓ptW_ix, ↓ptW_sl, ↓ptW_rev, ↓ptW_call, ↓ptW_callP, ↓ptW_bi, ↓ptW_len, ↓ptW_lc, ↓ptW_ite, ↓ptW_gc, ↓ptW_mov, ↓ptW_dsp, ↓ptW_bone, ↓ptW_cmp, ↓ptW_cnt, ↓ptW_var, ↓peek, ↓ownAt, ↓kD.eq_1, ↓kD.eq_2, ↓kM.eq_1, ↓kB.eq_1, ↓kV.eq_1, ↓kV.eq_2, ↓setW, ↓rngW1.eq_1, ↓rngW2.eq_1, ↓rngWd.eq_1, isVar, isNil, isT, gv, pv, setAll, ev0, items.eq_1, items.eq_2, tgs, wipeE, blind_cons, blind_nil, bl1, runB, List.map_cons, List.map_nil, List.replicate, List.cons_append, List.nil_append, if_true, if_false, ite_true, ite_false, reduceCtorEq, Bool.true_and, Bool.and_true, Bool.not_true, Bool.not_false, Bool.false_eq_true, ↓reduceIte, Nat.reduceSub, Nat.reduceAdd, List.length_cons, List.length_nil, decide_eq_true_eq, Bool.not_eq_true', decide_eq_false_iff_not, Bool.and_false, Bool.false_and, true_and, and_true, Nat.sub_self, Nat.succ_eq_add_one, flat, Nat.reduceLeDiff, Int.reduceLE, Int.reduceLT, Int.reduceEq, ne_eq, not_false_eq_true, s10, la_2, la_3, la_4, la_5, la_6, la_7, la_8, la_9, la_10, la_11, la_12, la_13, la_14, la_15, la_16, la_18, la_19, la_20, la_21, la_24, la_25, la_28, la_30, la_35, la_36, la_39, la_40, la_41, la_44, la_45, la_49, la_50, la_52, la_54, la_57, la_63, la_64, la_65, la_72, la_78, la_81, la_90, la_100, la_121, la_123, la_125, la_126, la_144, la_162, la_168, la_176, la_196, la_200, la_216, la_240, la_360, la_369, la_400, la_402, la_441, la_540, la_550, la_900, la_907, la_997, la_1009, la_1100, la_1152, la_1440, la_1764, la_2001, la_2003, la_2200, la_3150, la_4099, la_16807, la_22500, la_24200, la_72600, Nat.reduceLT, ↓ix_t0, ↓ix_t1, ↓ix_t2, ↓ix_t3, ↓ix_t4, ↓ix_t5, ↓ix_t6, ↓ix_l0, ↓ix_l1, ↓ix_l2, ↓ix_l3, ↓ix_l4, ↓ix_l5, ↓ix_l6, ↓add_ttz, ↓isT_tz, ↓sl_tz, isN_non, isN_tup, isN_lst, isN_int, isN_str, isN_bl, isN_fr, isN_tz, ↓hS.eq_1, ↓hS.eq_2, ↓hS.eq_3, ↓hS.eq_4, hE, hB, ↓hide.eq_1, ↓hide.eq_2, isS, Nat.reduceBEq, Bool.or_true, Bool.or_false, Bool.true_or, Bool.false_or, beq_self_eq_true, not_true_eq_false, Int.cast_ofNat_Int, ↓wE_callL, ↓wE_callLP, ↓kR_d, ↓kR_o, ↓kT_twoO, ↓kTP_two, ↓kTP_twoO, ↓pkW_callLP, ↓wE_lemp, ↓wE_lix, ↓wE_lpop0, ↓wE_lcL, ↓wE_lcK, ↓pkW_lcK, ↓kT_two, ↓lentAt, unlend_nil, unlend_cons, ul1_n, ul1_d, ul1_o, ul1_l, ↓wS_lend, ↓wS_lfn, ↓wS_retL, ↓wS_lset, ↓wS_asgN, ↓tgW_nst, noTwo_d, noTwo_o, ↓pkW_callL, ↓pkW_lix, ↓pkW_lemp, ↓pkW_lpop0, ↓pkW_lcL, ↓ptW_callL, ↓ptW_lix, ↓wE_lit, ↓pkW_lit, ↓ptW_lit, ↓cmp_geT, ↓wE_dget, ↓wE_dix, ↓wE_dsrt, ↓wE_dlc, ↓wE_lcD, ↓wE_srt, ↓wS_dnewT, ↓wS_dnewI, ↓wS_dset, ↓dictAt, itemsD_I, itemsD_T, ↓pkW_dget, ↓ptW_dget, ↓pkW_dix, ↓ptW_dix, ↓pkW_dsrt, ↓ptW_dsrt, ↓pkW_dlc, ↓ptW_dlc, ↓pkW_lcD, ↓ptW_lcD, ↓pkW_srt, ↓ptW_srt, ↓wE_callF, ↓kF_o, ↓wE_rvl, ↓rvlK_l, ↓wE_lset, ↓lsetK_l, ↓wE_emp, ↓wE_lcO, ↓pkW_lcO, ↓ptW_lcO, hTx, ↓hS.eq_5, ↓pkW_callF, ↓ptW_callF, ↓pkW_rvl, ↓ptW_rvl, ↓pkW_lset, ↓ptW_lset, ↓pkW_emp, ↓ptW_emp]
            have ea : L2.atI (ts.map td) (((u ++ [p]).length : Int) - 1) = some (td p) := by
              have : (((u ++ [p]).length : Int) - 1) = ((u.length : Nat) : Int) := by simp
              rw [this]
              exact atI_nat (by rw [e]; simp)
            refine ix_tup ea ?_
            simp only [td, ↓wE.eq_1, ↓wE.eq_2, ↓wE.eq_3, ↓wE.eq_4, ↓wE.eq_5, ↓wE.eq_6, ↓wE.eq_7, ↓wE.eq_8, ↓wE.eq_9, ↓wE.eq_10, ↓wE.eq_11, ↓wE.eq_12, ↓wE.eq_13, ↓wE.eq_14, ↓wE.eq_15, ↓wE.eq_16, ↓wE.eq_18, ↓wE.eq_19, ↓wE.eq_22, ↓wE.eq_23, ↓wE.eq_24, ↓wE.eq_25, ↓wE.eq_26, ↓wE.eq_27, ↓wE.eq_28, ↓wE.eq_29, ↓wE.eq_30, ↓wE.eq_31, ↓wE.eq_32, ↓wE.eq_34, ↓wE.eq_35, ↓wE.eq_36, ↓wE.eq_37, ↓wE.eq_38, ↓wE.eq_39, ↓wE.eq_40, ↓wE.eq_41, ↓wE_call, ↓wE_callP, ↓wE_lc, ↓wE_lcg, ↓wE_isv, ↓wE_ix, ↓ix_fr0, ↓ix_fr1, ↓cmp_fr, ↓cmp_frn, ↓cmp_fr0, ↓cmp_tz, ↓cmp_tzn, ↓cmp_tz0, ↓cmp_tzn0, ↓bi_list_tz, ↓add_tz,  ↓len_tz, ↓len_fr, ↓isT_fr, items_tz, ↓cmp_bb, ↓cmp_bbn, ↓wS_whl, ↓wS_for, ↓wS_forP, ↓wS_asg, ↓wS_par, ↓wS_setIx, ↓wS_app, ↓tgW_one, ↓tgW_tup, pvF_eq, ↓wS.eq_1, ↓wS.eq_2, ↓wS.eq_3, ↓wS.eq_5, ↓wS.eq_7, ↓wS.eq_10, ↓wS.eq_11, ↓wS.eq_12, ↓wS.eq_13, ↓wS.eq_14, ↓wS.eq_15, ↓wS.eq_16, ↓wS.eq_17, ↓wS.eq_20, ↓wS.eq_21, ↓wS.eq_22, ↓wS.eq_23, ↓wS.eq_24, ↓wS.eq_25, ↓wS.eq_26, ↓wS.eq_27, ↓wS.eq_28, ↓wS.eq_29, ↓wS.eq_30, ↓augW.eq_1, ↓augW.eq_2, ↓augW.eq_3, ↓augW.eq_4, ↓inW.eq_1, ↓inW.eq_2, ↓inW.eq_3, ↓inW.eq_4, ↓zipW.eq_1, ↓zipW.eq_2, ↓zipW.eq_3, ↓cntW.eq_1, ↓dspW.eq_1, ↓idxW.eq_1, ↓opW.eq_1, ↓opW.eq_2, ↓opW.eq_3, ↓opW.eq_4, ↓opW.eq_5, ↓opW.eq_6, ↓opW.eq_7, ↓opW.eq_8, ↓opW.eq_9, ↓opW.eq_10, ↓opW.eq_11, ↓opW.eq_12, ↓opW.eq_13, ↓opW.eq_14, ↓cmpW.eq_1, ↓cmpW.eq_2, ↓cmpW.eq_5, ↓cmpW.eq_6, ↓cmpW.eq_7, ↓cmpW.eq_8, ↓cmpW.eq_9, ↓cmpW.eq_10, ↓cmpW.eq_11, ↓cmpW.eq_12, ↓cmp_ll, ↓cmp_lln, ↓cmp_tt, ↓cmp_ttn, ↓biW.eq_1, ↓biW.eq_2, ↓biW.eq_3, ↓biW.eq_4, ↓biW.eq_5, ↓biW.eq_6, ↓biW.eq_7, ↓biW.eq_8, ↓biW.eq_9, ↓biW.eq_10, ↓biW.eq_11, ↓biW.eq_12, ↓biW.eq_13, ↓biW.eq_14, ↓biW.eq_15, ↓biW.eq_16, ↓biW.eq_17, ↓lenW.eq_1, ↓lenW.eq_2, ↓slW.eq_1, ↓slW.eq_2, ↓revW.eq_1, ↓revW.eq_2, ↓pkW_var, ↓ptW_nil, ↓ptK_i, ↓pkW_cst, ↓pkW_tup, ↓pkW_lst, ↓pkW_bin, ↓pkW_neg, ↓pkW_ix, ↓pkW_sl, ↓pkW_rev, ↓pkW_call, ↓pkW_callP, ↓pkW_bi, ↓pkW_len, ↓pkW_lc, ↓pkW_ite, ↓pkW_gc, ↓pkW_mov, ↓pkW_dsp, ↓pkW_bone, ↓pkW_cmp, ↓pkW_cnt, ↓ptW_cst, ↓ptW_tup, ↓ptW_lst, ↓ptW_bin, ↓ptW_neg, ↓ptW_ix, ↓ptW_sl, ↓ptW_rev, ↓ptW_call, ↓ptW_callP, ↓ptW_bi, ↓ptW_len, ↓ptW_lc, ↓ptW_ite, ↓ptW_gc, ↓ptW_mov, ↓ptW_dsp, ↓ptW_bone, ↓ptW_cmp, ↓ptW_cnt, ↓ptW_var, ↓peek, ↓ownAt, ↓kD.eq_1, ↓kD.eq_2, ↓kM.eq_1, ↓kB.eq_1, ↓kV.eq_1, ↓kV.eq_2, ↓setW, ↓rngW1.eq_1, ↓rngW2.eq_1, ↓rngWd.eq_1, isVar, isNil, isT, gv, pv, setAll, ev0, items.eq_1, items.eq_2, tgs, wipeE, blind_cons, blind_nil, bl1, runB, List.map_cons, List.map_nil, List.replicate, List.cons_append, List.nil_append, if_true, if_false, ite_true, ite_false, reduceCtorEq, Bool.true_and, Bool.and_true, Bool.not_true, Bool.not_false, Bool.false_eq_true, ↓reduceIte, Nat.reduceSub, Nat.reduceAdd, List.length_cons, List.length_nil, decide_eq_true_eq, Bool.not_eq_true', decide_eq_false_iff_not, Bool.and_false, Bool.false_and, true_and, and_true, Nat.sub_self, Nat.succ_eq_add_one, flat, Nat.reduceLeDiff, Int.reduceLE, Int.reduceLT, Int.reduceEq, ne_eq, not_false_eq_true, s10, la_2, la_3, la_4, la_5, la_6, la_7, la_8, la_9, la_10, la_11, la_12, la_13, la_14, la_15, la_16, la_18, la_19, la_20, la_21, la_24, la_25, la_28, la_30, la_35, la_36, la_39, la_40, la_41, la_44, la_45, la_49, la_50, la_52, la_54, la_57, la_63, la_64, la_65, la_72, la_78, la_81, la_90, la_100, la_121, la_123, la_125, la_126, la_144, la_162, la_168, la_176, la_196, la_200, la_216, la_240, la_360, la_369, la_400, la_402, la_441, la_540, la_550, la_900, la_907, la_997, la_1009, la_1100, la_1152, la_1440, la_1764, la_2001, la_2003, la_2200, la_3150, la_4099, la_16807, la_22500, la_24200, la_72600, Nat.reduceLT, ↓ix_t0, ↓ix_t1, ↓ix_t2, ↓ix_t3, ↓ix_t4, ↓ix_t5, ↓ix_t6, ↓ix_l0, ↓ix_l1, ↓ix_l2, ↓ix_l3, ↓ix_l4, ↓ix_l5, ↓ix_l6, ↓add_ttz, ↓isT_tz, ↓sl_tz, isN_non, isN_tup, isN_lst, isN_int, isN_str, isN_bl, isN_fr, isN_tz, ↓hS.eq_1, ↓hS.eq_2, ↓hS.eq_3, ↓hS.eq_4, hE, hB, ↓hide.eq_1, ↓hide.eq_2, isS, Nat.reduceBEq, Bool.or_true, Bool.or_false, Bool.true_or, Bool.false_or, beq_self_eq_true, not_true_eq_false, Int.cast_ofNat_Int, ↓wE_callL, ↓wE_callLP, ↓kR_d, ↓kR_o, ↓kT_twoO, ↓kTP_two, ↓kTP_twoO, ↓pkW_callLP, ↓wE_lemp, ↓wE_lix, ↓wE_lpop0, ↓wE_lcL, ↓wE_lcK, ↓pkW_lcK, ↓kT_two, ↓lentAt, unlend_nil, unlend_cons, ul1_n, ul1_d, ul1_o, ul1_l, ↓wS_lend, ↓wS_lfn, ↓wS_retL, ↓wS_lset, ↓wS_asgN, ↓tgW_nst, noTwo_d, noTwo_o, ↓pkW_callL, ↓pkW_lix, ↓pkW_lemp, ↓pkW_lpop0, ↓pkW_lcL, ↓ptW_callL, ↓ptW_lix, ↓wE_lit, ↓pkW_lit, ↓ptW_lit, ↓cmp_geT, ↓wE_dget, ↓wE_dix, ↓wE_dsrt, ↓wE_dlc, ↓wE_lcD, ↓wE_srt, ↓wS_dnewT, ↓wS_dnewI, ↓wS_dset, ↓dictAt, itemsD_I, itemsD_T, ↓pkW_dget, ↓ptW_dget, ↓pkW_dix, ↓ptW_dix, ↓pkW_dsrt, ↓ptW_dsrt, ↓pkW_dlc, ↓ptW_dlc, ↓pkW_lcD, ↓ptW_lcD, ↓pkW_srt, ↓ptW_srt, ↓wE_callF, ↓kF_o, ↓wE_rvl, ↓rvlK_l, ↓wE_lset, ↓lsetK_l, ↓wE_emp, ↓wE_lcO, ↓pkW_lcO, ↓ptW_lcO, hTx, ↓hS.eq_5, ↓pkW_callF, ↓ptW_callF, ↓pkW_rvl, ↓ptW_rvl, ↓pkW_lset, ↓ptW_lset, ↓pkW_emp, ↓ptW_emp]
            refine ge_T (keyT_l p.1) (keyT_l v.1) ?_
            walk_at "s"
            have hp2 : (!geI p.1 v.1 && chn (v :: vs)) = chn ts := hp
            cases hg : geI p.1 v.1 with
            | true =>
              rw [hg] at hp2
              rw [← hp2] at h
              walk_at "s"
              exact h
            | false =>
              rw [hg] at hp2
              walk_at "s"
              refine hnx _ ⟨(u ++ [p]) ++ [v], vs, _, _, by rw [e]; simp, by rw [List.length_append (as := u ++ [p])]; rfl, fun p' u' e2 => ?_, fun _ => trivial, rfl⟩
              have := List.append_inj_right' e2 rfl
              rw [show p' = v by simpa using this.symm, ← hp2]; rfl
      · rintro ε ⟨us, vs, o1, o2, e, hq, hc, _, rfl⟩
        cases vs with
        | cons _ _ => cases hq
        | nil =>
          (simp only [b_is_form_3]; walk_at "s")
          have : chn ts = true := by
            rcases List.eq_nil_or_concat us with e0 | ⟨u, p, e0⟩
            · rw [e, e0]; rfl
            · rw [← hc p u (by rw [e0]; simp)]; rfl
          rw [this] at h
          exact h
  | _ =>
    (simp only [b_is_form]; walk_at "s")
    exact h

theorem p_form {ts : List Tm} {v : D} (hv : items v = some (ts.map td)) (hl : ts.length ≤ 1000000) (h : Q (.d (.tuple ((frm ts).map td)))) : sem fns (k + 1) 5 [v] X Q := by
  refine sem_at rfl ⟨rfl, ?_⟩
  (simp only [b_form]; walk_at "s")
  rw [hv]
  walk_at "s"
  refine for_at' (fun q ε => ∃ (us kv : List Tm) (o2 o3 : Option Val), q = us.map td ∧ us.foldl ad kv = gath ts ∧ us.length + kv.length ≤ 1000000 ∧ ε = [some (.d v), some (.dT (toD kv)), o2, o3]) ?_ ?_ _ _ ⟨ts, [], none, none, rfl, rfl, by simpa using hl, rfl⟩
  · rintro x q ε ⟨us, kv, o2, o3, hq, e, l1, rfl⟩ hnx
    cases us with
    | nil => cases hq
    | cons t us =>
      cases hq
      have l2 : (ad kv t).length ≤ kv.length + 1 := by
        unfold ad pt
        split
        · rw [List.length_map]; omega
        · rw [List.length_append]; simp
      simp only [td, b_form_1, ↓wE.eq_1, ↓wE.eq_2, ↓wE.eq_3, ↓wE.eq_4, ↓wE.eq_5, ↓wE.eq_6, ↓wE.eq_7, ↓wE.eq_8, ↓wE.eq_9, ↓wE.eq_10, ↓wE.eq_11, ↓wE.eq_12, ↓wE.eq_13, ↓wE.eq_14, ↓wE.eq_15, ↓wE.eq_16, ↓wE.eq_18, ↓wE.eq_19, ↓wE.eq_22, ↓wE.eq_23, ↓wE.eq_24, ↓wE.eq_25, ↓wE.eq_26, ↓wE.eq_27, ↓wE.eq_28, ↓wE.eq_29, ↓wE.eq_30, ↓wE.eq_31, ↓wE.eq_32, ↓wE.eq_34, ↓wE.eq_35, ↓wE.eq_36, ↓wE.eq_37, ↓wE.eq_38, ↓wE.eq_39, ↓wE.eq_40, ↓wE.eq_41, ↓wE_call, ↓wE_callP, ↓wE_lc, ↓wE_lcg, ↓wE_isv, ↓wE_ix, ↓ix_fr0, ↓ix_fr1, ↓cmp_fr, ↓cmp_frn, ↓cmp_fr0, ↓cmp_tz, ↓cmp_tzn, ↓cmp_tz0, ↓cmp_tzn0, ↓bi_list_tz, ↓add_tz,  ↓len_tz, ↓len_fr, ↓isT_fr, items_tz, ↓cmp_bb, ↓cmp_bbn, ↓wS_whl, ↓wS_for, ↓wS_forP, ↓wS_asg, ↓wS_par, ↓wS_setIx, ↓wS_app, ↓tgW_one, ↓tgW_tup, pvF_eq, ↓wS.eq_1, ↓wS.eq_2, ↓wS.eq_3, ↓wS.eq_5, ↓wS.eq_7, ↓wS.eq_10, ↓wS.eq_11, ↓wS.eq_12, ↓wS.eq_13, ↓wS.eq_14, ↓wS.eq_15, ↓wS.eq_16, ↓wS.eq_17, ↓wS.eq_20, ↓wS.eq_21, ↓wS.eq_22, ↓wS.eq_23, ↓wS.eq_24, ↓wS.eq_25, ↓wS.eq_26, ↓wS.eq_27, ↓wS.eq_28, ↓wS.eq_29, ↓wS.eq_30, ↓augW.eq_1, ↓augW.eq_2, ↓augW.eq_3, ↓augW.eq_4, ↓inW.eq_1, ↓inW.eq_2, ↓inW.eq_3, ↓inW.eq_4, ↓zipW.eq_1, ↓zipW.eq_2, ↓zipW.eq_3, ↓cntW.eq_1, ↓dspW.eq_1, ↓idxW.eq_1, ↓opW.eq_1, ↓opW.eq_2, ↓opW.eq_3, ↓opW.eq_4, ↓opW.eq_5, ↓opW.eq_6, ↓opW.eq_7, ↓opW.eq_8, ↓opW.eq_9, ↓opW.eq_10, ↓opW.eq_11, ↓opW.eq_12, ↓opW.eq_13, ↓opW.eq_14, ↓cmpW.eq_1, ↓cmpW.eq_2, ↓cmpW.eq_5, ↓cmpW.eq_6, ↓cmpW.eq_7, ↓cmpW.eq_8, ↓cmpW.eq_9, ↓cmpW.eq_10, ↓cmpW.eq_11, ↓cmpW.eq_12, ↓cmp_ll, ↓cmp_lln, ↓cmp_tt, ↓cmp_ttn, ↓biW.eq_1, ↓biW.eq_2, ↓biW.eq_3, ↓biW.eq_4, ↓biW.eq_5, ↓biW.eq_6, ↓biW.eq_7, ↓biW.eq_8, ↓biW.eq_9, ↓biW.eq_10, ↓biW.eq_11, ↓biW.eq_12, ↓biW.eq_13, ↓biW.eq_14, ↓biW.eq_15, ↓biW.eq_16, ↓biW.eq_17, ↓lenW.eq_1, ↓lenW.eq_2, ↓slW.eq_1, ↓slW.eq_2, ↓revW.eq_1, ↓revW.eq_2, ↓pkW_var, ↓ptW_nil, ↓ptK_i, ↓pkW_cst, ↓pkW_tup, ↓pkW_lst, ↓pkW_bin, ↓pkW_neg, ↓pkW_ix, ↓pkW_sl, ↓pkW_rev, ↓pkW_call, ↓pkW_callP, ↓pkW_bi, ↓pkW_len, ↓pkW_lc, ↓pkW_ite, ↓pkW_gc, ↓pkW_mov, ↓pkW_dsp, ↓pkW_bone, ↓pkW_cmp, ↓pkW_cnt, ↓ptW_cst, ↓ptW_tup, ↓ptW_lst, ↓ptW_bin, ↓ptW_neg, ↓ptW_ix, ↓ptW_sl, ↓ptW_rev, ↓ptW_call, ↓ptW_callP, ↓ptW_bi, ↓ptW_len, ↓ptW_lc, ↓ptW_ite, ↓ptW_gc, ↓ptW_mov, ↓ptW_dsp, ↓ptW_bone, ↓ptW_cmp, ↓ptW_cnt, ↓ptW_var, ↓peek, ↓ownAt, ↓kD.eq_1, ↓kD.eq_2, ↓kM.eq_1, ↓kB.eq_1, ↓kV.eq_1, ↓kV.eq_2, ↓setW, ↓rngW1.eq_1, ↓rngW2.eq_1, ↓rngWd.eq_1, isVar, isNil, isT, gv, pv, setAll, ev0, items.eq_1, items.eq_2, tgs, wipeE, blind_cons, blind_nil, bl1, runB, List.map_cons, List.map_nil, List.replicate, List.cons_append, List.nil_append, if_true, if_false, ite_true, ite_false, reduceCtorEq, Bool.true_and, Bool.and_true, Bool.not_true, Bool.not_false, Bool.false_eq_true, ↓reduceIte, Nat.reduceSub, Nat.reduceAdd, List.length_cons, List.length_nil, decide_eq_true_eq, Bool.not_eq_true', decide_eq_false_iff_not, Bool.and_false, Bool.false_and, true_and, and_true, Nat.sub_self, Nat.succ_eq_add_one, flat, Nat.reduceLeDiff, Int.reduceLE, Int.reduceLT, Int.reduceEq, ne_eq, not_false_eq_true, s10, la_2, la_3, la_4, la_5, la_6, la_7, la_8, la_9, la_10, la_11, la_12, la_13, la_14, la_15, la_16, la_18, la_19, la_20, la_21, la_24, la_25, la_28, la_30, la_35, la_36, la_39, la_40, la_41, la_44, la_45, la_49, la_50, la_52, la_54, la_57, la_63, la_64, la_65, la_72, la_78, la_81, la_90, la_100, la_121, la_123, la_125, la_126, la_144, la_162, la_168, la_176, la_196, la_200, la_216, la_240, la_360, la_369, la_400, la_402, la_441, la_540, la_550, la_900, la_907, la_997, la_1009, la_1100, la_1152, la_1440, la_1764, la_2001, la_2003, la_2200, la_3150, la_4099, la_16807, la_22500, la_24200, la_72600, Nat.reduceLT, ↓ix_t0, ↓ix_t1, ↓ix_t2, ↓ix_t3, ↓ix_t4, ↓ix_t5, ↓ix_t6, ↓ix_l0, ↓ix_l1, ↓ix_l2, ↓ix_l3, ↓ix_l4, ↓ix_l5, ↓ix_l6, ↓add_ttz, ↓isT_tz, ↓sl_tz, isN_non, isN_tup, isN_lst, isN_int, isN_str, isN_bl, isN_fr, isN_tz, ↓hS.eq_1, ↓hS.eq_2, ↓hS.eq_3, ↓hS.eq_4, hE, hB, ↓hide.eq_1, ↓hide.eq_2, isS, Nat.reduceBEq, Bool.or_true, Bool.or_false, Bool.true_or, Bool.false_or, beq_self_eq_true, not_true_eq_false, Int.cast_ofNat_Int, ↓wE_callL, ↓wE_callLP, ↓kR_d, ↓kR_o, ↓kT_twoO, ↓kTP_two, ↓kTP_twoO, ↓pkW_callLP, ↓wE_lemp, ↓wE_lix, ↓wE_lpop0, ↓wE_lcL, ↓wE_lcK, ↓pkW_lcK, ↓kT_two, ↓lentAt, unlend_nil, unlend_cons, ul1_n, ul1_d, ul1_o, ul1_l, ↓wS_lend, ↓wS_lfn, ↓wS_retL, ↓wS_lset, ↓wS_asgN, ↓tgW_nst, noTwo_d, noTwo_o, ↓pkW_callL, ↓pkW_lix, ↓pkW_lemp, ↓pkW_lpop0, ↓pkW_lcL, ↓ptW_callL, ↓ptW_lix, ↓wE_lit, ↓pkW_lit, ↓ptW_lit, ↓cmp_geT, ↓wE_dget, ↓wE_dix, ↓wE_dsrt, ↓wE_dlc, ↓wE_lcD, ↓wE_srt, ↓wS_dnewT, ↓wS_dnewI, ↓wS_dset, ↓dictAt, itemsD_I, itemsD_T, ↓pkW_dget, ↓ptW_dget, ↓pkW_dix, ↓ptW_dix, ↓pkW_dsrt, ↓ptW_dsrt, ↓pkW_dlc, ↓ptW_dlc, ↓pkW_lcD, ↓ptW_lcD, ↓pkW_srt, ↓ptW_srt, ↓wE_callF, ↓kF_o, ↓wE_rvl, ↓rvlK_l, ↓wE_lset, ↓lsetK_l, ↓wE_emp, ↓wE_lcO, ↓pkW_lcO, ↓ptW_lcO, hTx, ↓hS.eq_5, ↓pkW_callF, ↓ptW_callF, ↓pkW_rvl, ↓ptW_rvl, ↓pkW_lset, ↓ptW_lset, ↓pkW_emp, ↓ptW_emp]
      refine dg_T (keyT_l _) ?_
      rw [lkp_toD]
      walk_at "s"
      refine dp_T (keyT_l _) (by rw [toD_len]; simp at l1; omega) ?_
      rw [putL_toD]
      walk_at "s"
      exact hnx _ ⟨us, ad kv t, _, _, rfl, e, by simp at l1; omega, rfl⟩
  · rintro ε ⟨us, kv, o2, o3, hq, e, l1, rfl⟩
    cases us with
    | cons _ _ => cases hq
    | nil =>
      have e : kv = gath ts := e
      subst e
      (simp only [b_form_4]; walk_at "s")
      have ei : (toD (gath ts)).map (fun kv => PyData.tuple [.tuple (kv.1.map .int), kv.2]) = (gath ts).map td := by
        unfold toD
        rw [List.map_map]; rfl
      rw [ei]
      refine lc_flt td td (fun t => decide (t.2 ≠ 0)) (fun t ht k1 k0 h1 h0 => ?_) (by simp at l1; omega) ?_
      · simp only [td, c_form_2, e_form_3, ↓wE.eq_1, ↓wE.eq_2, ↓wE.eq_3, ↓wE.eq_4, ↓wE.eq_5, ↓wE.eq_6, ↓wE.eq_7, ↓wE.eq_8, ↓wE.eq_9, ↓wE.eq_10, ↓wE.eq_11, ↓wE.eq_12, ↓wE.eq_13, ↓wE.eq_14, ↓wE.eq_15, ↓wE.eq_16, ↓wE.eq_18, ↓wE.eq_19, ↓wE.eq_22, ↓wE.eq_23, ↓wE.eq_24, ↓wE.eq_25, ↓wE.eq_26, ↓wE.eq_27, ↓wE.eq_28, ↓wE.eq_29, ↓wE.eq_30, ↓wE.eq_31, ↓wE.eq_32, ↓wE.eq_34, ↓wE.eq_35, ↓wE.eq_36, ↓wE.eq_37, ↓wE.eq_38, ↓wE.eq_39, ↓wE.eq_40, ↓wE.eq_41, ↓wE_call, ↓wE_callP, ↓wE_lc, ↓wE_lcg, ↓wE_isv, ↓wE_ix, ↓ix_fr0, ↓ix_fr1, ↓cmp_fr, ↓cmp_frn, ↓cmp_fr0, ↓cmp_tz, ↓cmp_tzn, ↓cmp_tz0, ↓cmp_tzn0, ↓bi_list_tz, ↓add_tz,  ↓len_tz, ↓len_fr, ↓isT_fr, items_tz, ↓cmp_bb, ↓cmp_bbn, ↓wS_whl, ↓wS_for, ↓wS_forP, ↓wS_asg, ↓wS_par, ↓wS_setIx, ↓wS_app, ↓tgW_one, ↓tgW_tup, pvF_eq, ↓wS.eq_1, ↓wS.eq_2, ↓wS.eq_3, ↓wS.eq_5, ↓wS.eq_7, ↓wS.eq_10, ↓wS.eq_11, ↓wS.eq_12, ↓wS.eq_13, ↓wS.eq_14, ↓wS.eq_15, ↓wS.eq_16, ↓wS.eq_17, ↓wS.eq_20, ↓wS.eq_21, ↓wS.eq_22, ↓wS.eq_23, ↓wS.eq_24, ↓wS.eq_25, ↓wS.eq_26, ↓wS.eq_27, ↓wS.eq_28, ↓wS.eq_29, ↓wS.eq_30, ↓augW.eq_1, ↓augW.eq_2, ↓augW.eq_3, ↓augW.eq_4, ↓inW.eq_1, ↓inW.eq_2, ↓inW.eq_3, ↓inW.eq_4, ↓zipW.eq_1, ↓zipW.eq_2, ↓zipW.eq_3, ↓cntW.eq_1, ↓dspW.eq_1, ↓idxW.eq_1, ↓opW.eq_1, ↓opW.eq_2, ↓opW.eq_3, ↓opW.eq_4, ↓opW.eq_5, ↓opW.eq_6, ↓opW.eq_7, ↓opW.eq_8, ↓opW.eq_9, ↓opW.eq_10, ↓opW.eq_11, ↓opW.eq_12, ↓opW.eq_13, ↓opW.eq_14, ↓cmpW.eq_1, ↓cmpW.eq_2, ↓cmpW.eq_5, ↓cmpW.eq_6, ↓cmpW.eq_7, ↓cmpW.eq_8, ↓cmpW.eq_9, ↓cmpW.eq_10, ↓cmpW.eq_11, ↓cmpW.eq_12, ↓cmp_ll, ↓cmp_lln, ↓cmp_tt, ↓cmp_ttn, ↓biW.eq_1, ↓biW.eq_2, ↓biW.eq_3, ↓biW.eq_4, ↓biW.eq_5, ↓biW.eq_6, ↓biW.eq_7, ↓biW.eq_8, ↓biW.eq_9, ↓biW.eq_10, ↓biW.eq_11, ↓biW.eq_12, ↓biW.eq_13, ↓biW.eq_14, ↓biW.eq_15, ↓biW.eq_16, ↓biW.eq_17, ↓lenW.eq_1, ↓lenW.eq_2, ↓slW.eq_1, ↓slW.eq_2, ↓revW.eq_1, ↓revW.eq_2, ↓pkW_var, ↓ptW_nil, ↓ptK_i, ↓pkW_cst, ↓pkW_tup, ↓pkW_lst, ↓pkW_bin, ↓pkW_neg, ↓pkW_ix, ↓pkW_sl, ↓pkW_rev, ↓pkW_call, ↓pkW_callP, ↓pkW_bi, ↓pkW_len, ↓pkW_lc, ↓pkW_ite, ↓pkW_gc, ↓pkW_mov, ↓pkW_dsp, ↓pkW_bone, ↓pkW_cmp, ↓pkW_cnt, ↓ptW_cst, ↓ptW_tup, ↓ptW_lst, ↓ptW_bin, ↓ptW_neg, ↓ptW_ix, ↓ptW_sl, ↓ptW_rev, ↓ptW_call, ↓ptW_callP, ↓ptW_bi, ↓ptW_len, ↓ptW_lc, ↓ptW_ite, ↓ptW_gc, ↓ptW_mov, ↓ptW_dsp, ↓ptW_bone, ↓ptW_cmp, ↓ptW_cnt, ↓ptW_var, ↓peek, ↓ownAt, ↓kD.eq_1, ↓kD.eq_2, ↓kM.eq_1, ↓kB.eq_1, ↓kV.eq_1, ↓kV.eq_2, ↓setW, ↓rngW1.eq_1, ↓rngW2.eq_1, ↓rngWd.eq_1, isVar, isNil, isT, gv, pv, setAll, ev0, items.eq_1, items.eq_2, tgs, wipeE, blind_cons, blind_nil, bl1, runB, List.map_cons, List.map_nil, List.replicate, List.cons_append, List.nil_append, if_true, if_false, ite_true, ite_false, reduceCtorEq, Bool.true_and, Bool.and_true, Bool.not_true, Bool.not_false, Bool.false_eq_true, ↓reduceIte, Nat.reduceSub, Nat.reduceAdd, List.length_cons, List.length_nil, decide_eq_true_eq, Bool.not_eq_true', decide_eq_false_iff_not, Bool.and_false, Bool.false_and, true_and, and_true, Nat.sub_self, Nat.succ_eq_add_one, flat, Nat.reduceLeDiff, Int.reduceLE, Int.reduceLT, Int.reduceEq, ne_eq, not_false_eq_true, s10, la_2, la_3, la_4, la_5, la_6, la_7, la_8, la_9, la_10, la_11, la_12, la_13, la_14, la_15, la_16, la_18, la_19, la_20, la_21, la_24, la_25, la_28, la_30, la_35, la_36, la_39, la_40, la_41, la_44, la_45, la_49, la_50, la_52, la_54, la_57, la_63, la_64, la_65, la_72, la_78, la_81, la_90, la_100, la_121, la_123, la_125, la_126, la_144, la_162, la_168, la_176, la_196, la_200, la_216, la_240, la_360, la_369, la_400, la_402, la_441, la_540, la_550, la_900, la_907, la_997, la_1009, la_1100, la_1152, la_1440, la_1764, la_2001, la_2003, la_2200, la_3150, la_4099, la_16807, la_22500, la_24200, la_72600, Nat.reduceLT, ↓ix_t0, ↓ix_t1, ↓ix_t2, ↓ix_t3, ↓ix_t4, ↓ix_t5, ↓ix_t6, ↓ix_l0, ↓ix_l1, ↓ix_l2, ↓ix_l3, ↓ix_l4, ↓ix_l5, ↓ix_l6, ↓add_ttz, ↓isT_tz, ↓sl_tz, isN_non, isN_tup, isN_lst, isN_int, isN_str, isN_bl, isN_fr, isN_tz, ↓hS.eq_1, ↓hS.eq_2, ↓hS.eq_3, ↓hS.eq_4, hE, hB, ↓hide.eq_1, ↓hide.eq_2, isS, Nat.reduceBEq, Bool.or_true, Bool.or_false, Bool.true_or, Bool.false_or, beq_self_eq_true, not_true_eq_false, Int.cast_ofNat_Int, ↓wE_callL, ↓wE_callLP, ↓kR_d, ↓kR_o, ↓kT_twoO, ↓kTP_two, ↓kTP_twoO, ↓pkW_callLP, ↓wE_lemp, ↓wE_lix, ↓wE_lpop0, ↓wE_lcL, ↓wE_lcK, ↓pkW_lcK, ↓kT_two, ↓lentAt, unlend_nil, unlend_cons, ul1_n, ul1_d, ul1_o, ul1_l, ↓wS_lend, ↓wS_lfn, ↓wS_retL, ↓wS_lset, ↓wS_asgN, ↓tgW_nst, noTwo_d, noTwo_o, ↓pkW_callL, ↓pkW_lix, ↓pkW_lemp, ↓pkW_lpop0, ↓pkW_lcL, ↓ptW_callL, ↓ptW_lix, ↓wE_lit, ↓pkW_lit, ↓ptW_lit, ↓cmp_geT, ↓wE_dget, ↓wE_dix, ↓wE_dsrt, ↓wE_dlc, ↓wE_lcD, ↓wE_srt, ↓wS_dnewT, ↓wS_dnewI, ↓wS_dset, ↓dictAt, itemsD_I, itemsD_T, ↓pkW_dget, ↓ptW_dget, ↓pkW_dix, ↓ptW_dix, ↓pkW_dsrt, ↓ptW_dsrt, ↓pkW_dlc, ↓ptW_dlc, ↓pkW_lcD, ↓ptW_lcD, ↓pkW_srt, ↓ptW_srt, ↓wE_callF, ↓kF_o, ↓wE_rvl, ↓rvlK_l, ↓wE_lset, ↓lsetK_l, ↓wE_emp, ↓wE_lcO, ↓pkW_lcO, ↓ptW_lcO, hTx, ↓hS.eq_5, ↓pkW_callF, ↓ptW_callF, ↓pkW_rvl, ↓ptW_rvl, ↓pkW_lset, ↓ptW_lset, ↓pkW_emp, ↓ptW_emp]
        split
        · rename_i z
          exact h1 (by simpa using z) _
        · rename_i z
          exact h0 (by simpa using z)
      · walk_at "s"
        refine srt_l ?_ ?_ (by rw [List.length_map]; exact Nat.le_trans (List.length_filter_le _ _) (by simp at l1; omega)) ?_ ?_
        · exact PySem.W.AllAlike.of fun a b => al_td a b
        · exact PySem.W.Sortable.tuples fun t => ⟨_, _, rfl⟩
        · intro d hd
          obtain ⟨t, _, rfl⟩ := List.mem_map.mp hd
          exact td_depth t
        · rw [sort_td]
          walk_at "s"
          exact h

theorem p_f_plus {f g : List Tm} (hl : f.length + g.length ≤ 1000000) (h : Q (.d (.tuple ((frm (f ++ g)).map td)))) : sem fns (k + 2) 6 [.tuple (f.map td), .tuple (g.map td)] X Q := by
  refine sem_at rfl ⟨rfl, ?_⟩
  (simp only [b_f_plus]; walk_at "s")
  refine ⟨by rw [List.length_map, List.length_map]; omega, ?_⟩
  refine p_form (ts := f ++ g) (by rw [List.map_append]; rfl) (by rw [List.length_append]; exact hl) ?_
  walk_at "s"
  exact h

theorem p_f_scaled {f : List Tm} {w : Int} {b c : Nat} (hf : ∀ t ∈ f, Bt b t.2) (hw : Bt c w) (hs : b + c ≤ 134217728) (hl : f.length ≤ 1000000) (h : Q (.d (.tuple ((frm (f.map fun t => (t.1, t.2 * w))).map td)))) : sem fns (k + 2) 7 [.tuple (f.map td), .int w] X Q := by
  refine sem_at rfl ⟨rfl, ?_⟩
  (simp only [b_f_scaled]; walk_at "s")
  refine lc_as td (fun t : Tm => td (t.1, t.2 * w)) (fun t ht kk hk => ?_) (by omega) ?_
  · simp only [td, e_f_scaled_1, ↓wE.eq_1, ↓wE.eq_2, ↓wE.eq_3, ↓wE.eq_4, ↓wE.eq_5, ↓wE.eq_6, ↓wE.eq_7, ↓wE.eq_8, ↓wE.eq_9, ↓wE.eq_10, ↓wE.eq_11, ↓wE.eq_12, ↓wE.eq_13, ↓wE.eq_14, ↓wE.eq_15, ↓wE.eq_16, ↓wE.eq_18, ↓wE.eq_19, ↓wE.eq_22, ↓wE.eq_23, ↓wE.eq_24, ↓wE.eq_25, ↓wE.eq_26, ↓wE.eq_27, ↓wE.eq_28, ↓wE.eq_29, ↓wE.eq_30, ↓wE.eq_31, ↓wE.eq_32, ↓wE.eq_34, ↓wE.eq_35, ↓wE.eq_36, ↓wE.eq_37, ↓wE.eq_38, ↓wE.eq_39, ↓wE.eq_40, ↓wE.eq_41, ↓wE_call, ↓wE_callP, ↓wE_lc, ↓wE_lcg, ↓wE_isv, ↓wE_ix, ↓ix_fr0, ↓ix_fr1, ↓cmp_fr, ↓cmp_frn, ↓cmp_fr0, ↓cmp_tz, ↓cmp_tzn, ↓cmp_tz0, ↓cmp_tzn0, ↓bi_list_tz, ↓add_tz,  ↓len_tz, ↓len_fr, ↓isT_fr, items_tz, ↓cmp_bb, ↓cmp_bbn, ↓wS_whl, ↓wS_for, ↓wS_forP, ↓wS_asg, ↓wS_par, ↓wS_setIx, ↓wS_app, ↓tgW_one, ↓tgW_tup, pvF_eq, ↓wS.eq_1, ↓wS.eq_2, ↓wS.eq_3, ↓wS.eq_5, ↓wS.eq_7, ↓wS.eq_10, ↓wS.eq_11, ↓wS.eq_12, ↓wS.eq_13, ↓wS.eq_14, ↓wS.eq_15, ↓wS.eq_16, ↓wS.eq_17, ↓wS.eq_20, ↓wS.eq_21, ↓wS.eq_22, ↓wS.eq_23, ↓wS.eq_24, ↓wS.eq_25, ↓wS.eq_26, ↓wS.eq_27, ↓wS.eq_28, ↓wS.eq_29, ↓wS.eq_30, ↓augW.eq_1, ↓augW.eq_2, ↓augW.eq_3, ↓augW.eq_4, ↓inW.eq_1, ↓inW.eq_2, ↓inW.eq_3, ↓inW.eq_4, ↓zipW.eq_1, ↓zipW.eq_2, ↓zipW.eq_3, ↓cntW.eq_1, ↓dspW.eq_1, ↓idxW.eq_1, ↓opW.eq_1, ↓opW.eq_2, ↓opW.eq_3, ↓opW.eq_4, ↓opW.eq_5, ↓opW.eq_6, ↓opW.eq_7, ↓opW.eq_8, ↓opW.eq_9, ↓opW.eq_10, ↓opW.eq_11, ↓opW.eq_12, ↓opW.eq_13, ↓opW.eq_14, ↓cmpW.eq_1, ↓cmpW.eq_2, ↓cmpW.eq_5, ↓cmpW.eq_6, ↓cmpW.eq_7, ↓cmpW.eq_8, ↓cmpW.eq_9, ↓cmpW.eq_10, ↓cmpW.eq_11, ↓cmpW.eq_12, ↓cmp_ll, ↓cmp_lln, ↓cmp_tt, ↓cmp_ttn, ↓biW.eq_1, ↓biW.eq_2, ↓biW.eq_3, ↓biW.eq_4, ↓biW.eq_5, ↓biW.eq_6, ↓biW.eq_7, ↓biW.eq_8, ↓biW.eq_9, ↓biW.eq_10, ↓biW.eq_11, ↓biW.eq_12, ↓biW.eq_13, ↓biW.eq_14, ↓biW.eq_15, ↓biW.eq_16, ↓biW.eq_17, ↓lenW.eq_1, ↓lenW.eq_2, ↓slW.eq_1, ↓slW.eq_2, ↓revW.eq_1, ↓revW.eq_2, ↓pkW_var, ↓ptW_nil, ↓ptK_i, ↓pkW_cst, ↓pkW_tup, ↓pkW_lst, ↓pkW_bin, ↓pkW_neg, ↓pkW_ix, ↓pkW_sl, ↓pkW_rev, ↓pkW_call, ↓pkW_callP, ↓pkW_bi, ↓pkW_len, ↓pkW_lc, ↓pkW_ite, ↓pkW_gc, ↓pkW_mov, ↓pkW_dsp, ↓pkW_bone, ↓pkW_cmp, ↓pkW_cnt, ↓ptW_cst, ↓ptW_tup, ↓ptW_lst, ↓ptW_bin, ↓ptW_neg, ↓ptW_ix, ↓ptW_sl, ↓ptW_rev, ↓ptW_call, ↓ptW_callP, ↓ptW_bi, ↓ptW_len, ↓ptW_lc, ↓ptW_ite, ↓ptW_gc, ↓ptW_mov, ↓ptW_dsp, ↓ptW_bone, ↓ptW_cmp, ↓ptW_cnt, ↓ptW_var, ↓peek, ↓ownAt, ↓kD.eq_1, ↓kD.eq_2, ↓kM.eq_1, ↓kB.eq_1, ↓kV.eq_1, ↓kV.eq_2, ↓setW, ↓rngW1.eq_1, ↓rngW2.eq_1, ↓rngWd.eq_1, isVar, isNil, isT, gv, pv, setAll, ev0, items.eq_1, items.eq_2, tgs, wipeE, blind_cons, blind_nil, bl1, runB, List.map_cons, List.map_nil, List.replicate, List.cons_append, List.nil_append, if_true, if_false, ite_true, ite_false, reduceCtorEq, Bool.true_and, Bool.and_true, Bool.not_true, Bool.not_false, Bool.false_eq_true, ↓reduceIte, Nat.reduceSub, Nat.reduceAdd, List.length_cons, List.length_nil, decide_eq_true_eq, Bool.not_eq_true', decide_eq_false_iff_not, Bool.and_false, Bool.false_and, true_and, and_true, Nat.sub_self, Nat.succ_eq_add_one, flat, Nat.reduceLeDiff, Int.reduceLE, Int.reduceLT, Int.reduceEq, ne_eq, not_false_eq_true, s10, la_2, la_3, la_4, la_5, la_6, la_7, la_8, la_9, la_10, la_11, la_12, la_13, la_14, la_15, la_16, la_18, la_19, la_20, la_21, la_24, la_25, la_28, la_30, la_35, la_36, la_39, la_40, la_41, la_44, la_45, la_49, la_50, la_52, la_54, la_57, la_63, la_64, la_65, la_72, la_78, la_81, la_90, la_100, la_121, la_123, la_125, la_126, la_144, la_162, la_168, la_176, la_196, la_200, la_216, la_240, la_360, la_369, la_400, la_402, la_441, la_540, la_550, la_900, la_907, la_997, la_1009, la_1100, la_1152, la_1440, la_1764, la_2001, la_2003, la_2200, la_3150, la_4099, la_16807, la_22500, la_24200, la_72600, Nat.reduceLT, ↓ix_t0, ↓ix_t1, ↓ix_t2, ↓ix_t3, ↓ix_t4, ↓ix_t5, ↓ix_t6, ↓ix_l0, ↓ix_l1, ↓ix_l2, ↓ix_l3, ↓ix_l4, ↓ix_l5, ↓ix_l6, ↓add_ttz, ↓isT_tz, ↓sl_tz, isN_non, isN_tup, isN_lst, isN_int, isN_str, isN_bl, isN_fr, isN_tz, ↓hS.eq_1, ↓hS.eq_2, ↓hS.eq_3, ↓hS.eq_4, hE, hB, ↓hide.eq_1, ↓hide.eq_2, isS, Nat.reduceBEq, Bool.or_true, Bool.or_false, Bool.true_or, Bool.false_or, beq_self_eq_true, not_true_eq_false, Int.cast_ofNat_Int, ↓wE_callL, ↓wE_callLP, ↓kR_d, ↓kR_o, ↓kT_twoO, ↓kTP_two, ↓kTP_twoO, ↓pkW_callLP, ↓wE_lemp, ↓wE_lix, ↓wE_lpop0, ↓wE_lcL, ↓wE_lcK, ↓pkW_lcK, ↓kT_two, ↓lentAt, unlend_nil, unlend_cons, ul1_n, ul1_d, ul1_o, ul1_l, ↓wS_lend, ↓wS_lfn, ↓wS_retL, ↓wS_lset, ↓wS_asgN, ↓tgW_nst, noTwo_d, noTwo_o, ↓pkW_callL, ↓pkW_lix, ↓pkW_lemp, ↓pkW_lpop0, ↓pkW_lcL, ↓ptW_callL, ↓ptW_lix, ↓wE_lit, ↓pkW_lit, ↓ptW_lit, ↓cmp_geT, ↓wE_dget, ↓wE_dix, ↓wE_dsrt, ↓wE_dlc, ↓wE_lcD, ↓wE_srt, ↓wS_dnewT, ↓wS_dnewI, ↓wS_dset, ↓dictAt, itemsD_I, itemsD_T, ↓pkW_dget, ↓ptW_dget, ↓pkW_dix, ↓ptW_dix, ↓pkW_dsrt, ↓ptW_dsrt, ↓pkW_dlc, ↓ptW_dlc, ↓pkW_lcD, ↓ptW_lcD, ↓pkW_srt, ↓ptW_srt, ↓wE_callF, ↓kF_o, ↓wE_rvl, ↓rvlK_l, ↓wE_lset, ↓lsetK_l, ↓wE_emp, ↓wE_lcO, ↓pkW_lcO, ↓ptW_lcO, hTx, ↓hS.eq_5, ↓pkW_callF, ↓ptW_callF, ↓pkW_rvl, ↓ptW_rvl, ↓pkW_lset, ↓ptW_lset, ↓pkW_emp, ↓ptW_emp]
    refine ⟨mulOk_of (hf t ht) hw hs, ?_⟩
    exact hk _
  · walk_at "s"
    refine p_form (ts := f.map fun t => (t.1, t.2 * w)) (by rw [List.map_map]; rfl) (by rw [List.length_map]; exact hl) ?_
    walk_at "s"
    exact h

theorem p_f_times {f g : List Tm} {m b c : Nat} (hf : ∀ t ∈ f, K3 m t ∧ Bt b t.2) (hg : ∀ t ∈ g, K3 m t ∧ Bt c t.2) (hs : b + c ≤ 134217728) (hl : f.length * g.length ≤ 1000000) (h : Q (.d (.tuple ((frm (prods f g)).map td)))) : sem fns (k + 2) 8 [.tuple (f.map td), .tuple (g.map td)] X Q := by
  refine sem_at rfl ⟨rfl, ?_⟩
  (simp only [b_f_times]; walk_at "s")
  refine for_at' (fun r ε => ∃ (pre rest : List Tm) (o3 o4 o5 o6 o7 o8 o9 o10 : Option Val), r = rest.map td ∧ f = pre ++ rest ∧ ε = [some (.d (.tuple (f.map td))), some (.d (.tuple (g.map td))), some (.own ((prods pre g).map td)), o3, o4, o5, o6, o7, o8, o9, o10]) ?_ ?_ _ _ ⟨[], f, none, none, none, none, none, none, none, none, rfl, rfl, rfl⟩
  · rintro x r ε ⟨pre, rest, o3, o4, o5, o6, o7, o8, o9, o10, hr, hp, rfl⟩ hnx
    cases rest with
    | nil => cases hr
    | cons t rest =>
      cases hr
      have mt : t ∈ f := by rw [hp]; exact List.mem_append_right _ (List.mem_cons_self ..)
      obtain ⟨⟨i, j, l, et, _⟩, bt⟩ := hf t mt
      have hpl : (pre.length + 1) * g.length ≤ f.length * g.length := Nat.mul_le_mul_right _ (by rw [hp]; simp)
      rw [Nat.succ_mul] at hpl
      simp only [td, et, List.map_cons, List.map_nil, b_f_times_2, ↓wE.eq_1, ↓wE.eq_2, ↓wE.eq_3, ↓wE.eq_4, ↓wE.eq_5, ↓wE.eq_6, ↓wE.eq_7, ↓wE.eq_8, ↓wE.eq_9, ↓wE.eq_10, ↓wE.eq_11, ↓wE.eq_12, ↓wE.eq_13, ↓wE.eq_14, ↓wE.eq_15, ↓wE.eq_16, ↓wE.eq_18, ↓wE.eq_19, ↓wE.eq_22, ↓wE.eq_23, ↓wE.eq_24, ↓wE.eq_25, ↓wE.eq_26, ↓wE.eq_27, ↓wE.eq_28, ↓wE.eq_29, ↓wE.eq_30, ↓wE.eq_31, ↓wE.eq_32, ↓wE.eq_34, ↓wE.eq_35, ↓wE.eq_36, ↓wE.eq_37, ↓wE.eq_38, ↓wE.eq_39, ↓wE.eq_40, ↓wE.eq_41, ↓wE_call, ↓wE_callP, ↓wE_lc, ↓wE_lcg, ↓wE_isv, ↓wE_ix, ↓ix_fr0, ↓ix_fr1, ↓cmp_fr, ↓cmp_frn, ↓cmp_fr0, ↓cmp_tz, ↓cmp_tzn, ↓cmp_tz0, ↓cmp_tzn0, ↓bi_list_tz, ↓add_tz,  ↓len_tz, ↓len_fr, ↓isT_fr, items_tz, ↓cmp_bb, ↓cmp_bbn, ↓wS_whl, ↓wS_for, ↓wS_forP, ↓wS_asg, ↓wS_par, ↓wS_setIx, ↓wS_app, ↓tgW_one, ↓tgW_tup, pvF_eq, ↓wS.eq_1, ↓wS.eq_2, ↓wS.eq_3, ↓wS.eq_5, ↓wS.eq_7, ↓wS.eq_10, ↓wS.eq_11, ↓wS.eq_12, ↓wS.eq_13, ↓wS.eq_14, ↓wS.eq_15, ↓wS.eq_16, ↓wS.eq_17, ↓wS.eq_20, ↓wS.eq_21, ↓wS.eq_22, ↓wS.eq_23, ↓wS.eq_24, ↓wS.eq_25, ↓wS.eq_26, ↓wS.eq_27, ↓wS.eq_28, ↓wS.eq_29, ↓wS.eq_30, ↓augW.eq_1, ↓augW.eq_2, ↓augW.eq_3, ↓augW.eq_4, ↓inW.eq_1, ↓inW.eq_2, ↓inW.eq_3, ↓inW.eq_4, ↓zipW.eq_1, ↓zipW.eq_2, ↓zipW.eq_3, ↓cntW.eq_1, ↓dspW.eq_1, ↓idxW.eq_1, ↓opW.eq_1, ↓opW.eq_2, ↓opW.eq_3, ↓opW.eq_4, ↓opW.eq_5, ↓opW.eq_6, ↓opW.eq_7, ↓opW.eq_8, ↓opW.eq_9, ↓opW.eq_10, ↓opW.eq_11, ↓opW.eq_12, ↓opW.eq_13, ↓opW.eq_14, ↓cmpW.eq_1, ↓cmpW.eq_2, ↓cmpW.eq_5, ↓cmpW.eq_6, ↓cmpW.eq_7, ↓cmpW.eq_8, ↓cmpW.eq_9, ↓cmpW.eq_10, ↓cmpW.eq_11, ↓cmpW.eq_12, ↓cmp_ll, ↓cmp_lln, ↓cmp_tt, ↓cmp_ttn, ↓biW.eq_1, ↓biW.eq_2, ↓biW.eq_3, ↓biW.eq_4, ↓biW.eq_5, ↓biW.eq_6, ↓biW.eq_7, ↓biW.eq_8, ↓biW.eq_9, ↓biW.eq_10, ↓biW.eq_11, ↓biW.eq_12, ↓biW.eq_13, ↓biW.eq_14, ↓biW.eq_15, ↓biW.eq_16, ↓biW.eq_17, ↓lenW.eq_1, ↓lenW.eq_2, ↓slW.eq_1, ↓slW.eq_2, ↓revW.eq_1, ↓revW.eq_2, ↓pkW_var, ↓ptW_nil, ↓ptK_i, ↓pkW_cst, ↓pkW_tup, ↓pkW_lst, ↓pkW_bin, ↓pkW_neg, ↓pkW_ix, ↓pkW_sl, ↓pkW_rev, ↓pkW_call, ↓pkW_callP, ↓pkW_bi, ↓pkW_len, ↓pkW_lc, ↓pkW_ite, ↓pkW_gc, ↓pkW_mov, ↓pkW_dsp, ↓pkW_bone, ↓pkW_cmp, ↓pkW_cnt, ↓ptW_cst, ↓ptW_tup, ↓ptW_lst, ↓ptW_bin, ↓ptW_neg, ↓ptW_ix, ↓ptW_sl, ↓ptW_rev, ↓ptW_call, ↓ptW_callP, ↓ptW_bi, ↓ptW_len, ↓ptW_lc, ↓ptW_ite, ↓ptW_gc, ↓ptW_mov, ↓ptW_dsp, ↓ptW_bone, ↓ptW_cmp, ↓ptW_cnt, ↓ptW_var, ↓peek, ↓ownAt, ↓kD.eq_1, ↓kD.eq_2, ↓kM.eq_1, ↓kB.eq_1, ↓kV.eq_1, ↓kV.eq_2, ↓setW, ↓rngW1.eq_1, ↓rngW2.eq_1, ↓rngWd.eq_1, isVar, isNil, isT, gv, pv, setAll, ev0, items.eq_1, items.eq_2, tgs, wipeE, blind_cons, blind_nil, bl1, runB, List.map_cons, List.map_nil, List.replicate, List.cons_append, List.nil_append, if_true, if_false, ite_true, ite_false, reduceCtorEq, Bool.true_and, Bool.and_true, Bool.not_true, Bool.not_false, Bool.false_eq_true, ↓reduceIte, Nat.reduceSub, Nat.reduceAdd, List.length_cons, List.length_nil, decide_eq_true_eq, Bool.not_eq_true', decide_eq_false_iff_not, Bool.and_false, Bool.false_and, true_and, and_true, Nat.sub_self, Nat.succ_eq_add_one, flat, Nat.reduceLeDiff, Int.reduceLE, Int.reduceLT, Int.reduceEq, ne_eq, not_false_eq_true, s10, la_2, la_3, la_4, la_5, la_6, la_7, la_8, la_9, la_10, la_11, la_12, la_13, la_14, la_15, la_16, la_18, la_19, la_20, la_21, la_24, la_25, la_28, la_30, la_35, la_36, la_39, la_40, la_41, la_44, la_45, la_49, la_50, la_52, la_54, la_57, la_63, la_64, la_65, la_72, la_78, la_81, la_90, la_100, la_121, la_123, la_125, la_126, la_144, la_162, la_168, la_176, la_196, la_200, la_216, la_240, la_360, la_369, la_400, la_402, la_441, la_540, la_550, la_900, la_907, la_997, la_1009, la_1100, la_1152, la_1440, la_1764, la_2001, la_2003, la_2200, la_3150, la_4099, la_16807, la_22500, la_24200, la_72600, Nat.reduceLT, ↓ix_t0, ↓ix_t1, ↓ix_t2, ↓ix_t3, ↓ix_t4, ↓ix_t5, ↓ix_t6, ↓ix_l0, ↓ix_l1, ↓ix_l2, ↓ix_l3, ↓ix_l4, ↓ix_l5, ↓ix_l6, ↓add_ttz, ↓isT_tz, ↓sl_tz, isN_non, isN_tup, isN_lst, isN_int, isN_str, isN_bl, isN_fr, isN_tz, ↓hS.eq_1, ↓hS.eq_2, ↓hS.eq_3, ↓hS.eq_4, hE, hB, ↓hide.eq_1, ↓hide.eq_2, isS, Nat.reduceBEq, Bool.or_true, Bool.or_false, Bool.true_or, Bool.false_or, beq_self_eq_true, not_true_eq_false, Int.cast_ofNat_Int, ↓wE_callL, ↓wE_callLP, ↓kR_d, ↓kR_o, ↓kT_twoO, ↓kTP_two, ↓kTP_twoO, ↓pkW_callLP, ↓wE_lemp, ↓wE_lix, ↓wE_lpop0, ↓wE_lcL, ↓wE_lcK, ↓pkW_lcK, ↓kT_two, ↓lentAt, unlend_nil, unlend_cons, ul1_n, ul1_d, ul1_o, ul1_l, ↓wS_lend, ↓wS_lfn, ↓wS_retL, ↓wS_lset, ↓wS_asgN, ↓tgW_nst, noTwo_d, noTwo_o, ↓pkW_callL, ↓pkW_lix, ↓pkW_lemp, ↓pkW_lpop0, ↓pkW_lcL, ↓ptW_callL, ↓ptW_lix, ↓wE_lit, ↓pkW_lit, ↓ptW_lit, ↓cmp_geT, ↓wE_dget, ↓wE_dix, ↓wE_dsrt, ↓wE_dlc, ↓wE_lcD, ↓wE_srt, ↓wS_dnewT, ↓wS_dnewI, ↓wS_dset, ↓dictAt, itemsD_I, itemsD_T, ↓pkW_dget, ↓ptW_dget, ↓pkW_dix, ↓ptW_dix, ↓pkW_dsrt, ↓ptW_dsrt, ↓pkW_dlc, ↓ptW_dlc, ↓pkW_lcD, ↓ptW_lcD, ↓pkW_srt, ↓ptW_srt, ↓wE_callF, ↓kF_o, ↓wE_rvl, ↓rvlK_l, ↓wE_lset, ↓lsetK_l, ↓wE_emp, ↓wE_lcO, ↓pkW_lcO, ↓ptW_lcO, hTx, ↓hS.eq_5, ↓pkW_callF, ↓ptW_callF, ↓pkW_rvl, ↓ptW_rvl, ↓pkW_lset, ↓ptW_lset, ↓pkW_emp, ↓ptW_emp]
      refine for_at' (fun r ε => ∃ (pr re : List Tm) (o7 o8 o9 o10 : Option Val), r = re.map td ∧ g = pr ++ re ∧ ε = [some (.d (.tuple (f.map td))), some (.d (.tuple (g.map td))), some (.own ((prods pre g ++ pr.map fun b => (addk t.1 b.1, t.2 * b.2)).map td)), some (.d (.int (i : Int))), some (.d (.int (j : Int))), some (.d (.int (l : Int))), some (.d (.int t.2)), o7, o8, o9, o10]) ?_ ?_ _ _ ⟨[], g, o7, o8, o9, o10, rfl, rfl, by rw [List.map_nil, List.append_nil]⟩
      · rintro x2 r2 ε ⟨pr, re, o7, o8, o9, o10, hr2, hp2, rfl⟩ hnx2
        cases re with
        | nil => cases hr2
        | cons s re =>
          cases hr2
          have ms : s ∈ g := by rw [hp2]; exact List.mem_append_right _ (List.mem_cons_self ..)
          obtain ⟨⟨i', j', l', es, _⟩, bs⟩ := hg s ms
          simp only [td, es, List.map_cons, List.map_nil, b_f_times_1, ↓wE.eq_1, ↓wE.eq_2, ↓wE.eq_3, ↓wE.eq_4, ↓wE.eq_5, ↓wE.eq_6, ↓wE.eq_7, ↓wE.eq_8, ↓wE.eq_9, ↓wE.eq_10, ↓wE.eq_11, ↓wE.eq_12, ↓wE.eq_13, ↓wE.eq_14, ↓wE.eq_15, ↓wE.eq_16, ↓wE.eq_18, ↓wE.eq_19, ↓wE.eq_22, ↓wE.eq_23, ↓wE.eq_24, ↓wE.eq_25, ↓wE.eq_26, ↓wE.eq_27, ↓wE.eq_28, ↓wE.eq_29, ↓wE.eq_30, ↓wE.eq_31, ↓wE.eq_32, ↓wE.eq_34, ↓wE.eq_35, ↓wE.eq_36, ↓wE.eq_37, ↓wE.eq_38, ↓wE.eq_39, ↓wE.eq_40, ↓wE.eq_41, ↓wE_call, ↓wE_callP, ↓wE_lc, ↓wE_lcg, ↓wE_isv, ↓wE_ix, ↓ix_fr0, ↓ix_fr1, ↓cmp_fr, ↓cmp_frn, ↓cmp_fr0, ↓cmp_tz, ↓cmp_tzn, ↓cmp_tz0, ↓cmp_tzn0, ↓bi_list_tz, ↓add_tz,  ↓len_tz, ↓len_fr, ↓isT_fr, items_tz, ↓cmp_bb, ↓cmp_bbn, ↓wS_whl, ↓wS_for, ↓wS_forP, ↓wS_asg, ↓wS_par, ↓wS_setIx, ↓wS_app, ↓tgW_one, ↓tgW_tup, pvF_eq, ↓wS.eq_1, ↓wS.eq_2, ↓wS.eq_3, ↓wS.eq_5, ↓wS.eq_7, ↓wS.eq_10, ↓wS.eq_11, ↓wS.eq_12, ↓wS.eq_13, ↓wS.eq_14, ↓wS.eq_15, ↓wS.eq_16, ↓wS.eq_17, ↓wS.eq_20, ↓wS.eq_21, ↓wS.eq_22, ↓wS.eq_23, ↓wS.eq_24, ↓wS.eq_25, ↓wS.eq_26, ↓wS.eq_27, ↓wS.eq_28, ↓wS.eq_29, ↓wS.eq_30, ↓augW.eq_1, ↓augW.eq_2, ↓augW.eq_3, ↓augW.eq_4, ↓inW.eq_1, ↓inW.eq_2, ↓inW.eq_3, ↓inW.eq_4, ↓zipW.eq_1, ↓zipW.eq_2, ↓zipW.eq_3, ↓cntW.eq_1, ↓dspW.eq_1, ↓idxW.eq_1, ↓opW.eq_1, ↓opW.eq_2, ↓opW.eq_3, ↓opW.eq_4, ↓opW.eq_5, ↓opW.eq_6, ↓opW.eq_7, ↓opW.eq_8, ↓opW.eq_9, ↓opW.eq_10, ↓opW.eq_11, ↓opW.eq_12, ↓opW.eq_13, ↓opW.eq_14, ↓cmpW.eq_1, ↓cmpW.eq_2, ↓cmpW.eq_5, ↓cmpW.eq_6, ↓cmpW.eq_7, ↓cmpW.eq_8, ↓cmpW.eq_9, ↓cmpW.eq_10, ↓cmpW.eq_11, ↓cmpW.eq_12, ↓cmp_ll, ↓cmp_lln, ↓cmp_tt, ↓cmp_ttn, ↓biW.eq_1, ↓biW.eq_2, ↓biW.eq_3, ↓biW.eq_4, ↓biW.eq_5, ↓biW.eq_6, ↓biW.eq_7, ↓biW.eq_8, ↓biW.eq_9, ↓biW.eq_10, ↓biW.eq_11, ↓biW.eq_12, ↓biW.eq_13, ↓biW.eq_14, ↓biW.eq_15, ↓biW.eq_16, ↓biW.eq_17, ↓lenW.eq_1, ↓lenW.eq_2, ↓slW.eq_1, ↓slW.eq_2, ↓revW.eq_1, ↓revW.eq_2, ↓pkW_var, ↓ptW_nil, ↓ptK_i, ↓pkW_cst, ↓pkW_tup, ↓pkW_lst, ↓pkW_bin, ↓pkW_neg, ↓pkW_ix, ↓pkW_sl, ↓pkW_rev, ↓pkW_call, ↓pkW_callP, ↓pkW_bi, ↓pkW_len, ↓pkW_lc, ↓pkW_ite, ↓pkW_gc, ↓pkW_mov, ↓pkW_dsp, ↓pkW_bone, ↓pkW_cmp, ↓pkW_cnt, ↓ptW_cst, ↓ptW_tup, ↓ptW_lst, ↓ptW_bin, ↓ptW_neg, ↓ptW_ix, ↓ptW_sl, ↓ptW_rev, ↓ptW_call, ↓ptW_callP, ↓ptW_bi, ↓ptW_len, ↓ptW_lc, ↓ptW_ite, ↓ptW_gc, ↓ptW_mov, ↓ptW_dsp, ↓ptW_bone, ↓ptW_cmp, ↓ptW_cnt, ↓ptW_var, ↓peek, ↓ownAt, ↓kD.eq_1, ↓kD.eq_2, ↓kM.eq_1, ↓kB.eq_1, ↓kV.eq_1, ↓kV.eq_2, ↓setW, ↓rngW1.eq_1, ↓rngW2.eq_1, ↓rngWd.eq_1, isVar, isNil, isT, gv, pv, setAll, ev0, items.eq_1, items.eq_2, tgs, wipeE, blind_cons, blind_nil, bl1, runB, List.map_cons, List.map_nil, List.replicate, List.cons_append, List.nil_append, if_true, if_false, ite_true, ite_false, reduceCtorEq, Bool.true_and, Bool.and_true, Bool.not_true, Bool.not_false, Bool.false_eq_true, ↓reduceIte, Nat.reduceSub, Nat.reduceAdd, List.length_cons, List.length_nil, decide_eq_true_eq, Bool.not_eq_true', decide_eq_false_iff_not, Bool.and_false, Bool.false_and, true_and, and_true, Nat.sub_self, Nat.succ_eq_add_one, flat, Nat.reduceLeDiff, Int.reduceLE, Int.reduceLT, Int.reduceEq, ne_eq, not_false_eq_true, s10, la_2, la_3, la_4, la_5, la_6, la_7, la_8, la_9, la_10, la_11, la_12, la_13, la_14, la_15, la_16, la_18, la_19, la_20, la_21, la_24, la_25, la_28, la_30, la_35, la_36, la_39, la_40, la_41, la_44, la_45, la_49, la_50, la_52, la_54, la_57, la_63, la_64, la_65, la_72, la_78, la_81, la_90, la_100, la_121, la_123, la_125, la_126, la_144, la_162, la_168, la_176, la_196, la_200, la_216, la_240, la_360, la_369, la_400, la_402, la_441, la_540, la_550, la_900, la_907, la_997, la_1009, la_1100, la_1152, la_1440, la_1764, la_2001, la_2003, la_2200, la_3150, la_4099, la_16807, la_22500, la_24200, la_72600, Nat.reduceLT, ↓ix_t0, ↓ix_t1, ↓ix_t2, ↓ix_t3, ↓ix_t4, ↓ix_t5, ↓ix_t6, ↓ix_l0, ↓ix_l1, ↓ix_l2, ↓ix_l3, ↓ix_l4, ↓ix_l5, ↓ix_l6, ↓add_ttz, ↓isT_tz, ↓sl_tz, isN_non, isN_tup, isN_lst, isN_int, isN_str, isN_bl, isN_fr, isN_tz, ↓hS.eq_1, ↓hS.eq_2, ↓hS.eq_3, ↓hS.eq_4, hE, hB, ↓hide.eq_1, ↓hide.eq_2, isS, Nat.reduceBEq, Bool.or_true, Bool.or_false, Bool.true_or, Bool.false_or, beq_self_eq_true, not_true_eq_false, Int.cast_ofNat_Int, ↓wE_callL, ↓wE_callLP, ↓kR_d, ↓kR_o, ↓kT_twoO, ↓kTP_two, ↓kTP_twoO, ↓pkW_callLP, ↓wE_lemp, ↓wE_lix, ↓wE_lpop0, ↓wE_lcL, ↓wE_lcK, ↓pkW_lcK, ↓kT_two, ↓lentAt, unlend_nil, unlend_cons, ul1_n, ul1_d, ul1_o, ul1_l, ↓wS_lend, ↓wS_lfn, ↓wS_retL, ↓wS_lset, ↓wS_asgN, ↓tgW_nst, noTwo_d, noTwo_o, ↓pkW_callL, ↓pkW_lix, ↓pkW_lemp, ↓pkW_lpop0, ↓pkW_lcL, ↓ptW_callL, ↓ptW_lix, ↓wE_lit, ↓pkW_lit, ↓ptW_lit, ↓cmp_geT, ↓wE_dget, ↓wE_dix, ↓wE_dsrt, ↓wE_dlc, ↓wE_lcD, ↓wE_srt, ↓wS_dnewT, ↓wS_dnewI, ↓wS_dset, ↓dictAt, itemsD_I, itemsD_T, ↓pkW_dget, ↓ptW_dget, ↓pkW_dix, ↓ptW_dix, ↓pkW_dsrt, ↓ptW_dsrt, ↓pkW_dlc, ↓ptW_dlc, ↓pkW_lcD, ↓ptW_lcD, ↓pkW_srt, ↓ptW_srt, ↓wE_callF, ↓kF_o, ↓wE_rvl, ↓rvlK_l, ↓wE_lset, ↓lsetK_l, ↓wE_emp, ↓wE_lcO, ↓pkW_lcO, ↓ptW_lcO, hTx, ↓hS.eq_5, ↓pkW_callF, ↓ptW_callF, ↓pkW_rvl, ↓ptW_rvl, ↓pkW_lset, ↓ptW_lset, ↓pkW_emp, ↓ptW_emp]
          refine ⟨mulOk_of bt bs hs, ?_, ?_⟩
          · rw [List.length_map, List.length_append, List.length_map]
            have e1 := prods_len pre g
            have e2 : pr.length < g.length := by rw [hp2, List.length_append]; simp
            omega
          · have eL : (prods pre g ++ pr.map fun b => (addk t.1 b.1, t.2 * b.2)).map td ++ [PyData.tuple [.tuple [.int ((i : Int) + i'), .int ((j : Int) + j'), .int ((l : Int) + l')], .int (t.2 * s.2)]] = (prods pre g ++ (pr ++ [s]).map fun b => (addk t.1 b.1, t.2 * b.2)).map td := by
              rw [List.map_append (l₁ := pr), ← List.append_assoc, List.map_append (l₁ := prods pre g ++ _)]
              simp [td, et, es, addk]
            rw [eL]
            exact hnx2 _ ⟨pr ++ [s], re, _, _, _, _, rfl, by rw [hp2, List.append_assoc]; rfl, rfl⟩
      · rintro ε ⟨pr, re, o7, o8, o9, o10, hr2, hp2, rfl⟩
        cases re with
        | cons _ _ => cases hr2
        | nil =>
          rw [List.append_nil] at hp2
          subst hp2
          walk_at "s"
          rw [show prods pre g ++ g.map (fun b => (addk t.1 b.1, t.2 * b.2)) = prods (pre ++ [t]) g by unfold prods; rw [List.flatMap_append]; simp]
          exact hnx _ ⟨pre ++ [t], rest, _, _, _, _, _, _, _, _, rfl, by rw [hp, List.append_assoc]; rfl, rfl⟩
  · rintro ε ⟨pre, rest, o3, o4, o5, o6, o7, o8, o9, o10, hr, hp, rfl⟩
    cases rest with
    | cons _ _ => cases hr
    | nil =>
      rw [List.append_nil] at hp
      subst hp
      (simp only [b_f_times_3]; walk_at "s")
      refine p_form (ts := prods f g) rfl ?_ ?_
      · rw [prods_len]; exact hl
      walk_at "s"
      exact h

theorem for_cons {t : Tg} {B : Ev → En → Prop} {E : En} {q : Tok (B, E)} {x : D} {r : List D} {ε : Ev} (h : tgW t x ε fun ε1 => B ε1 { E with nx := fun e => forF t B E .mk r e, ct := fun e => forF t B E .mk r e, bk := E.nx }) : forF t B E q (x :: r) ε := h
theorem for_nil {t : Tg} {B : Ev → En → Prop} {E : En} {q : Tok (B, E)} {ε : Ev} (h : E.nx ε) : forF t B E q [] ε := h
theorem fv_pow {c0 c1 c2 c3 c4 c5 o10 : Option Val} {o u : Int} {p A : Nat} {q : Rat} {E : En} (hq : Sz 42 q) (ho : Bt A o) (hu : Bt A u) (hp : p ≤ 10) (hA : A ≤ 100000)
    (h : ∀ o10, Bt (A + p * 42) (o * q.num ^ p) → Bt (A + p * 42) (u * (q.den : Int) ^ p) → E.nx [c0, c1, c2, c3, c4, c5, some (.d (.int (o * q.num ^ p))), some (.d (.int (u * (q.den : Int) ^ p))), some (.d (.int (p : Int))), some (.d (fr q)), o10]) :
    wS (sem fns k) b_f_value_2 [c0, c1, c2, c3, c4, c5, some (.d (.int o)), some (.d (.int u)), some (.d (.int (p : Int))), some (.d (fr q)), o10] E := by
  (simp only [b_f_value_2]; walk_at "s")
  refine ⟨⟨by omega, by omega⟩, ?_⟩
  refine for_at' (fun r ε => ∃ (j : Nat) (o10 : Option Val), r.length + j = p ∧ Bt (A + j * 42) (o * q.num ^ j) ∧ Bt (A + j * 42) (u * (q.den : Int) ^ j) ∧ ε = [c0, c1, c2, c3, c4, c5, some (.d (.int (o * q.num ^ j))), some (.d (.int (u * (q.den : Int) ^ j))), some (.d (.int (p : Int))), some (.d (fr q)), o10]) ?_ ?_ _ _ ⟨0, o10, by simp, by rw [Int.pow_zero, Int.mul_one]; exact ho.mono (by omega), by rw [Int.pow_zero, Int.mul_one]; exact hu.mono (by omega), by rw [Int.pow_zero, Int.mul_one, Int.pow_zero, Int.mul_one]⟩
  · rintro x r ε ⟨j, o10, hj, b1, b2, rfl⟩ hnx
    have hj : r.length + 1 + j = p := hj
    (simp only [b_f_value_1]; walk_at "s")
    have hjp : j * 42 ≤ 420 := by omega
    refine ⟨_, rfl, _, rfl, ?_⟩
    walk_at "s"
    refine ⟨mulOk_of b1 hq.1 (by omega), ?_⟩
    refine ⟨_, rfl, _, rfl, ?_⟩
    walk_at "s"
    refine ⟨mulOk_of b2 hq.2 (by omega), ?_⟩
    have e1 : ∀ x y : Int, x * y ^ j * y = x * y ^ (j + 1) := fun x y => by rw [Int.pow_succ, ← Int.mul_assoc]
    rw [e1, e1]
    exact hnx _ ⟨j + 1, _, by omega, by rw [← e1]; exact (b1.mul hq.1).mono (by omega), by rw [← e1]; exact (b2.mul hq.2).mono (by omega), rfl⟩
  · rintro ε ⟨j, o10, hj, b1, b2, rfl⟩
    have hj : 0 + j = p := hj
    obtain rfl : j = p := by omega
    walk_at "s"
    exact h _ b1 b2
theorem p_f_value {f : List Tm} {a b c : Rat} (ha : Sz 42 a) (hb : Sz 42 b) (hc : Sz 42 c) {m B : Nat} (hf : ∀ t ∈ f, K3 m t ∧ Bt B t.2) (hm : m ≤ 10) (hB : B ≤ 10000) (hl : f.length ≤ 50) (h : Q (.d (fr (vF [a, b, c] f)))) :
    sem fns (k + 3) 9 [.tuple (f.map td), .tuple [fr a, fr b, fr c]] X Q := by
  refine sem_at rfl ⟨rfl, ?_⟩
  (simp only [b_f_value]; walk_at "s")
  refine for_at' (fun r ε => ∃ (pre rest : List Tm) (top bot : Int) (o4 o5 o6 o7 o8 o9 o10 : Option Val), r = rest.map td ∧ f = pre ++ rest ∧ (top : Rat) = vF [a, b, c] pre * (bot : Rat) ∧ 0 < bot ∧ Bt ((pre.length + 1) * 24500) top ∧ Bt ((pre.length + 1) * 12000) bot ∧
    ε = [some (.d (.tuple (f.map td))), some (.d (.tuple [fr a, fr b, fr c])), some (.d (.int top)), some (.d (.int bot)), o4, o5, o6, o7, o8, o9, o10]) ?_ ?_ _ _ ⟨[], f, 0, 1, none, none, none, none, none, none, none, rfl, rfl, by rw [show vF [a, b, c] [] = 0 from rfl, Rat.zero_mul]; rfl, by decide, (bt_c (a := 1) (by decide)).mono (by omega), (bt_c (a := 1) (by decide)).mono (by omega), rfl⟩
  · rintro x r ε ⟨pre, rest, top, bot, o4, o5, o6, o7, o8, o9, o10, hr, hp, ht, hb0, tB, bB, rfl⟩ hnx
    cases rest with
    | nil => cases hr
    | cons t rest =>
      cases hr
      have mt : t ∈ f := by rw [hp]; exact List.mem_append_right _ (List.mem_cons_self ..)
      obtain ⟨⟨i, j, l, et, hi, hj, hl'⟩, bt⟩ := hf t mt
      have hpl : pre.length + 1 ≤ f.length := by rw [hp]; simp
      simp only [td, et, List.map_cons, List.map_nil, b_f_value_4, ↓wE.eq_1, ↓wE.eq_2, ↓wE.eq_3, ↓wE.eq_4, ↓wE.eq_5, ↓wE.eq_6, ↓wE.eq_7, ↓wE.eq_8, ↓wE.eq_9, ↓wE.eq_10, ↓wE.eq_11, ↓wE.eq_12, ↓wE.eq_13, ↓wE.eq_14, ↓wE.eq_15, ↓wE.eq_16, ↓wE.eq_18, ↓wE.eq_19, ↓wE.eq_22, ↓wE.eq_23, ↓wE.eq_24, ↓wE.eq_25, ↓wE.eq_26, ↓wE.eq_27, ↓wE.eq_28, ↓wE.eq_29, ↓wE.eq_30, ↓wE.eq_31, ↓wE.eq_32, ↓wE.eq_34, ↓wE.eq_35, ↓wE.eq_36, ↓wE.eq_37, ↓wE.eq_38, ↓wE.eq_39, ↓wE.eq_40, ↓wE.eq_41, ↓wE_call, ↓wE_callP, ↓wE_lc, ↓wE_lcg, ↓wE_isv, ↓wE_ix, ↓ix_fr0, ↓ix_fr1, ↓cmp_fr, ↓cmp_frn, ↓cmp_fr0, ↓cmp_tz, ↓cmp_tzn, ↓cmp_tz0, ↓cmp_tzn0, ↓bi_list_tz, ↓add_tz,  ↓len_tz, ↓len_fr, ↓isT_fr, items_tz, ↓cmp_bb, ↓cmp_bbn, ↓wS_whl, ↓wS_for, ↓wS_forP, ↓wS_asg, ↓wS_par, ↓wS_setIx, ↓wS_app, ↓tgW_one, ↓tgW_tup, pvF_eq, ↓wS.eq_1, ↓wS.eq_2, ↓wS.eq_3, ↓wS.eq_5, ↓wS.eq_7, ↓wS.eq_10, ↓wS.eq_11, ↓wS.eq_12, ↓wS.eq_13, ↓wS.eq_14, ↓wS.eq_15, ↓wS.eq_16, ↓wS.eq_17, ↓wS.eq_20, ↓wS.eq_21, ↓wS.eq_22, ↓wS.eq_23, ↓wS.eq_24, ↓wS.eq_25, ↓wS.eq_26, ↓wS.eq_27, ↓wS.eq_28, ↓wS.eq_29, ↓wS.eq_30, ↓augW.eq_1, ↓augW.eq_2, ↓augW.eq_3, ↓augW.eq_4, ↓inW.eq_1, ↓inW.eq_2, ↓inW.eq_3, ↓inW.eq_4, ↓zipW.eq_1, ↓zipW.eq_2, ↓zipW.eq_3, ↓cntW.eq_1, ↓dspW.eq_1, ↓idxW.eq_1, ↓opW.eq_1, ↓opW.eq_2, ↓opW.eq_3, ↓opW.eq_4, ↓opW.eq_5, ↓opW.eq_6, ↓opW.eq_7, ↓opW.eq_8, ↓opW.eq_9, ↓opW.eq_10, ↓opW.eq_11, ↓opW.eq_12, ↓opW.eq_13, ↓opW.eq_14, ↓cmpW.eq_1, ↓cmpW.eq_2, ↓cmpW.eq_5, ↓cmpW.eq_6, ↓cmpW.eq_7, ↓cmpW.eq_8, ↓cmpW.eq_9, ↓cmpW.eq_10, ↓cmpW.eq_11, ↓cmpW.eq_12, ↓cmp_ll, ↓cmp_lln, ↓cmp_tt, ↓cmp_ttn, ↓biW.eq_1, ↓biW.eq_2, ↓biW.eq_3, ↓biW.eq_4, ↓biW.eq_5, ↓biW.eq_6, ↓biW.eq_7, ↓biW.eq_8, ↓biW.eq_9, ↓biW.eq_10, ↓biW.eq_11, ↓biW.eq_12, ↓biW.eq_13, ↓biW.eq_14, ↓biW.eq_15, ↓biW.eq_16, ↓biW.eq_17, ↓lenW.eq_1, ↓lenW.eq_2, ↓slW.eq_1, ↓slW.eq_2, ↓revW.eq_1, ↓revW.eq_2, ↓pkW_var, ↓ptW_nil, ↓ptK_i, ↓pkW_cst, ↓pkW_tup, ↓pkW_lst, ↓pkW_bin, ↓pkW_neg, ↓pkW_ix, ↓pkW_sl, ↓pkW_rev, ↓pkW_call, ↓pkW_callP, ↓pkW_bi, ↓pkW_len, ↓pkW_lc, ↓pkW_ite, ↓pkW_gc, ↓pkW_mov, ↓pkW_dsp, ↓pkW_bone, ↓pkW_cmp, ↓pkW_cnt, ↓ptW_cst, ↓ptW_tup, ↓ptW_lst, ↓ptW_bin, ↓ptW_neg, ↓ptW_ix, ↓ptW_sl, ↓ptW_rev, ↓ptW_call, ↓ptW_callP, ↓ptW_bi, ↓ptW_len, ↓ptW_lc, ↓ptW_ite, ↓ptW_gc, ↓ptW_mov, ↓ptW_dsp, ↓ptW_bone, ↓ptW_cmp, ↓ptW_cnt, ↓ptW_var, ↓peek, ↓ownAt, ↓kD.eq_1, ↓kD.eq_2, ↓kM.eq_1, ↓kB.eq_1, ↓kV.eq_1, ↓kV.eq_2, ↓setW, ↓rngW1.eq_1, ↓rngW2.eq_1, ↓rngWd.eq_1, isVar, isNil, isT, gv, pv, setAll, ev0, items.eq_1, items.eq_2, tgs, wipeE, blind_cons, blind_nil, bl1, runB, List.map_cons, List.map_nil, List.replicate, List.cons_append, List.nil_append, if_true, if_false, ite_true, ite_false, reduceCtorEq, Bool.true_and, Bool.and_true, Bool.not_true, Bool.not_false, Bool.false_eq_true, ↓reduceIte, Nat.reduceSub, Nat.reduceAdd, List.length_cons, List.length_nil, decide_eq_true_eq, Bool.not_eq_true', decide_eq_false_iff_not, Bool.and_false, Bool.false_and, true_and, and_true, Nat.sub_self, Nat.succ_eq_add_one, flat, Nat.reduceLeDiff, Int.reduceLE, Int.reduceLT, Int.reduceEq, ne_eq, not_false_eq_true, s10, la_2, la_3, la_4, la_5, la_6, la_7, la_8, la_9, la_10, la_11, la_12, la_13, la_14, la_15, la_16, la_18, la_19, la_20, la_21, la_24, la_25, la_28, la_30, la_35, la_36, la_39, la_40, la_41, la_44, la_45, la_49, la_50, la_52, la_54, la_57, la_63, la_64, la_65, la_72, la_78, la_81, la_90, la_100, la_121, la_123, la_125, la_126, la_144, la_162, la_168, la_176, la_196, la_200, la_216, la_240, la_360, la_369, la_400, la_402, la_441, la_540, la_550, la_900, la_907, la_997, la_1009, la_1100, la_1152, la_1440, la_1764, la_2001, la_2003, la_2200, la_3150, la_4099, la_16807, la_22500, la_24200, la_72600, Nat.reduceLT, ↓ix_t0, ↓ix_t1, ↓ix_t2, ↓ix_t3, ↓ix_t4, ↓ix_t5, ↓ix_t6, ↓ix_l0, ↓ix_l1, ↓ix_l2, ↓ix_l3, ↓ix_l4, ↓ix_l5, ↓ix_l6, ↓add_ttz, ↓isT_tz, ↓sl_tz, isN_non, isN_tup, isN_lst, isN_int, isN_str, isN_bl, isN_fr, isN_tz, ↓hS.eq_1, ↓hS.eq_2, ↓hS.eq_3, ↓hS.eq_4, hE, hB, ↓hide.eq_1, ↓hide.eq_2, isS, Nat.reduceBEq, Bool.or_true, Bool.or_false, Bool.true_or, Bool.false_or, beq_self_eq_true, not_true_eq_false, Int.cast_ofNat_Int, ↓wE_callL, ↓wE_callLP, ↓kR_d, ↓kR_o, ↓kT_twoO, ↓kTP_two, ↓kTP_twoO, ↓pkW_callLP, ↓wE_lemp, ↓wE_lix, ↓wE_lpop0, ↓wE_lcL, ↓wE_lcK, ↓pkW_lcK, ↓kT_two, ↓lentAt, unlend_nil, unlend_cons, ul1_n, ul1_d, ul1_o, ul1_l, ↓wS_lend, ↓wS_lfn, ↓wS_retL, ↓wS_lset, ↓wS_asgN, ↓tgW_nst, noTwo_d, noTwo_o, ↓pkW_callL, ↓pkW_lix, ↓pkW_lemp, ↓pkW_lpop0, ↓pkW_lcL, ↓ptW_callL, ↓ptW_lix, ↓wE_lit, ↓pkW_lit, ↓ptW_lit, ↓cmp_geT, ↓wE_dget, ↓wE_dix, ↓wE_dsrt, ↓wE_dlc, ↓wE_lcD, ↓wE_srt, ↓wS_dnewT, ↓wS_dnewI, ↓wS_dset, ↓dictAt, itemsD_I, itemsD_T, ↓pkW_dget, ↓ptW_dget, ↓pkW_dix, ↓ptW_dix, ↓pkW_dsrt, ↓ptW_dsrt, ↓pkW_dlc, ↓ptW_dlc, ↓pkW_lcD, ↓ptW_lcD, ↓pkW_srt, ↓ptW_srt, ↓wE_callF, ↓kF_o, ↓wE_rvl, ↓rvlK_l, ↓wE_lset, ↓lsetK_l, ↓wE_emp, ↓wE_lcO, ↓pkW_lcO, ↓ptW_lcO, hTx, ↓hS.eq_5, ↓pkW_callF, ↓ptW_callF, ↓pkW_rvl, ↓ptW_rvl, ↓pkW_lset, ↓ptW_lset, ↓pkW_emp, ↓ptW_emp]
      rw [show zips [PyData.int (i : Int), .int (j : Int), .int (l : Int)] [fr a, fr b, fr c] = [.tuple [.int (i : Int), fr a], .tuple [.int (j : Int), fr b], .tuple [.int (l : Int), fr c]] from rfl]
      have b1 : Bt (B + 1) (1 : Int) := (bt_c (a := 1) (by decide)).mono (by omega)
      refine for_cons ?_
      walk_at "s"
      refine fv_pow (A := B + 1) ha (bt.mono (by omega)) b1 (by omega) (by omega) fun o10 x1 y1 => ?_
      walk_at "s"
      refine for_cons ?_
      walk_at "s"
      refine fv_pow (A := B + 1 + i * 42) hb x1 y1 (by omega) (by omega) fun o10 x2 y2 => ?_
      walk_at "s"
      refine for_cons ?_
      walk_at "s"
      refine fv_pow (A := B + 1 + i * 42 + j * 42) hc x2 y2 (by omega) (by omega) fun o10 x3 y3 => ?_
      walk_at "s"
      refine for_nil ?_
      (simp only [b_f_value_3]; walk_at "s")
      have eo : t.2 * a.num ^ i * b.num ^ j * c.num ^ l = oT [a, b, c] t := by
        unfold oT
        rw [et]
        show _ = t.2 * a.num ^ (i : Int).toNat * b.num ^ (j : Int).toNat * c.num ^ (l : Int).toNat
        simp only [Int.toNat_natCast]
      have eu : (1 : Int) * (a.den : Int) ^ i * (b.den : Int) ^ j * (c.den : Int) ^ l = uT [a, b, c] t := by
        unfold uT
        rw [et]
        show _ = (a.den : Int) ^ (i : Int).toNat * (b.den : Int) ^ (j : Int).toNat * (c.den : Int) ^ (l : Int).toNat
        simp only [Int.toNat_natCast, Int.one_mul]
      obtain ⟨z1, z2⟩ := oT_eq (a := a) (b := b) (c := c) (t := t) ⟨m, i, j, l, et, hi, hj, hl'⟩
      rw [eo] at x3
      rw [eu] at y3
      rw [eo, eu]
      have x4 : Bt 11500 (oT [a, b, c] t) := x3.mono (by omega)
      have y4 : Bt 11500 (uT [a, b, c] t) := y3.mono (by omega)
      refine ⟨mulOk_of tB y4 (by omega), mulOk_of x4 bB (by omega), mulOk_of bB y4 (by omega), ?_⟩
      refine hnx _ ⟨pre ++ [t], rest, _, _, _, _, _, _, _, _, _, rfl, by rw [hp, List.append_assoc]; rfl, fv_step ht z1, Int.mul_pos hb0 z2, ?_, ?_, rfl⟩
      · rw [List.length_append]
        show Bt ((pre.length + 1 + 1) * 24500) _
        exact (Bt.add ((tB.mul y4).mono (by omega)) ((x4.mul bB).mono (b := (pre.length + 1) * 24500 + 11900) (by omega))).mono (by omega)
      · rw [List.length_append]
        show Bt ((pre.length + 1 + 1) * 12000) _
        exact (bB.mul y4).mono (by omega)
  · rintro ε ⟨pre, rest, top, bot, o4, o5, o6, o7, o8, o9, o10, hr, hp, ht, hb0, tB, bB, rfl⟩
    cases rest with
    | cons _ _ => cases hr
    | nil =>
      rw [List.append_nil] at hp
      subst hp
      (simp only [b_f_value_5]; walk_at "s")
      refine p_fraction (by omega) ?_
      walk_at "s"
      rw [fv_end ht (by omega)]
      exact h

theorem p_cell {xs : List Int} {i : Nat} (h : Q (.d (.int (xs.getD i 0)))) : sem fns (k + 1) 10 [.list (xs.map .int), .int i] X Q := by
  refine sem_at rfl ⟨rfl, ?_⟩
  (simp only [b__law_cell_at]; walk_at "s")
  split
  · rename_i hl
    have hl2 : i < xs.length := by simpa using hl
    refine ⟨.int xs[i], atI_nat (by simp [hl2]), ?_⟩
    walk_at "s"
    simpa [List.getD, hl2] using h
  · rename_i hl
    have hl2 : xs.length ≤ i := by simpa using hl
    simpa [List.getD, List.getElem?_eq_none hl2] using h

theorem p_ldraws {c : Int} {m : Nat} (hm : m ≤ 1000) (h : ∀ xs, Dr xs → Q (.own xs)) : sem fns (k + 1) 11 [.int c, .int m] X Q := by
  refine sem_at rfl ⟨rfl, ?_⟩
  have e24 : (10 : Int) ^ Int.toNat 24 = 1000000000000000000000000 := by decide +kernel
  have e40 : (10 : Int) ^ Int.toNat 40 = 10000000000000000000000000000000000000000 := by decide +kernel
  have e8 : (10 : Int) ^ Int.toNat 8 = 100000000 := by decide +kernel
  have body : ∀ rest : Int, wS (sem fns k) b__law_draws_6 [some (.d (.int c)), some (.d (.int m)), some (.own []), some (.d (.int rest)), none, none, none] { nx := fun _ => Q (.d .none), rt := Q, ex := fun c _ => X c } := by
    intro rest
    (simp only [b__law_draws_6]; walk_at "s")
    refine whl_at' (fun n ε => ∃ (ns : List Int) (r : Int), n = m - ns.length ∧ ns.length ≤ m ∧ (∀ z ∈ ns, 0 ≤ z ∧ z < 10 ^ 41) ∧ ε = [some (.d (.int c)), some (.d (.int m)), some (.own (ns.map .int)), some (.d (.int r)), none, none, none]) (m - 0) ⟨[], rest, rfl, Nat.zero_le _, (fun z hz => by cases hz), rfl⟩ ?_
    rintro n ε ⟨ns, r, rfl, hl, hb, rfl⟩
    have fin : wS (sem fns k) b__law_draws_5 [some (.d (.int c)), some (.d (.int m)), some (.own (ns.map .int)), some (.d (.int r)), none, none, none] { nx := fun _ => Q (.d .none), rt := Q, ex := fun c _ => X c } := by
      (simp only [b__law_draws_5]; walk_at "s")
      rw [e40]
      refine ⟨by omega, mulOk_r (by unfold small64; decide), by omega, ⟨by omega, by omega⟩, ?_⟩
      refine for_at' (fun q ε => ∃ (t : Nat) (js : List Nat) (f : Int) (o : Option Val) (ms : List Int), q = js.map (fun i : Nat => PyData.int i) ∧ js.length + ms.length ≤ 1004 ∧ (∀ j ∈ js, j ≤ 1004) ∧ 0 ≤ f ∧ f < 10000000000000000000000000000000000000121 ∧ (∀ z ∈ ms, 0 ≤ z ∧ z < 10 ^ 41) ∧
        ε = [some (.d (.int c)), some (.d (.int m)), some (.own (ns.map .int)), some (.d (.int r)), some (.d (.int f)), some (.own (ms.map .int)), o]) ?_ ?_ _ _ ⟨0, List.range (m + 4), _, none, [], by rw [show ((m : Int) + 4).toNat = m + 4 by omega], by simp; omega, (fun j hj => by have := List.mem_range.mp hj; omega), by rw [fmod_pos (by omega)]; omega, by rw [fmod_pos (by omega)]; omega, (fun z hz => by cases hz), rfl⟩
      · rintro x q ε ⟨t, js, f, o, ms, hq, l1, l2, f0, f1, hb2, rfl⟩ hnx
        cases js with
        | nil => cases hq
        | cons j js =>
          cases hq
          (simp only [b__law_draws_3]; walk_at "s")
          rw [e40, e8]
          have bf : Bt 134 f := by unfold Bt; omega
          refine ⟨mulOk_of bf bf (by decide), mulOk_l (by unfold small64; decide), ?_⟩
          repeat (refine And.intro (by first | exact small10 | decide | decide +kernel) ?_)
          refine ⟨?_, ?_⟩
          · simp at l1 ⊢; omega
          · have g : ∀ z : Int, 0 ≤ z.fmod (10000000000000000000000000000000000000000 + 121) ∧ z.fmod (10000000000000000000000000000000000000000 + 121) < 10000000000000000000000000000000000000121 := fun z => by rw [fmod_pos (by omega)]; omega
            refine hnx _ ⟨t, js, (f * f + 48271 * f + (j : Int)).fmod (10000000000000000000000000000000000000000 + 121), _, ms ++ [((f * f + 48271 * f + (j : Int)).fmod (10000000000000000000000000000000000000000 + 121)).fdiv 100000000], rfl, by simp at l1 ⊢; omega, fun i hi => l2 i (by simp [hi]), (g _).1, (g _).2, fun z hz => ?_, by rw [List.map_append]; rfl⟩
            rcases List.mem_append.mp hz with hz | hz
            · exact hb2 z hz
            · have this := List.mem_singleton.mp hz
              rw [this, fdiv_pos (by decide)]
              have := g (f * f + 48271 * f + (j : Int))
              omega
      · rintro ε ⟨t, js, f, o, ms, hq, l1, l2, f0, f1, hb2, rfl⟩
        (simp only [b__law_draws_4]; walk_at "s")
        rw [cut_map]
        rw [List.length_map (as := ns)]
        have cl := cut_len ms (some (4 + (ns.length : Int))) none
        refine ⟨by rw [List.length_map]; omega, h _ ⟨ns ++ cut ms _ none, by rw [List.map_append], fun z hz => ?_⟩⟩
        rcases List.mem_append.mp hz with hz | hz
        · exact hb z hz
        · unfold cut at hz
          exact hb2 z (List.mem_of_mem_drop (List.mem_of_mem_take hz))
    (simp only [c__law_draws_1]; walk_at "s")
    split
    · split
      · rw [List.length_map]
        split
        · rename_i hlt
          (simp only [b__law_draws_2]; walk_at "s")
          rw [e24]
          repeat (refine And.intro (by first | exact small10 | decide | decide +kernel) ?_)
          refine ⟨?_, ?_⟩
          · rw [List.length_map]; omega
          · repeat (refine And.intro (by first | exact small10 | decide | decide +kernel) ?_)
            refine ⟨m - (ns.length + 1), by omega, ns ++ [_], _, by simp, by simp; omega, fun z hz => ?_, by rw [List.map_append]; rfl⟩
            rcases List.mem_append.mp hz with hz | hz
            · exact hb z hz
            · have this := List.mem_singleton.mp hz
              rw [this, fmod_pos (by omega)]
              omega
        · exact fin
      · exact fin
    · exact fin
  (simp only [b__law_draws]; walk_at "s")
  repeat (refine And.intro (by first | exact small10 | decide | decide +kernel) ?_)
  split
  · exact body _
  · exact body _

theorem p_lnext {xs : List D} {many : Int} (hm : 0 < many) (hs : Dr xs) (h : ∀ r ys, 0 ≤ r → r < many → Dr ys → Q (.two (.int r) ys)) : sem fns (k + 1) 12 [.list xs, .int many] X Q := by
  obtain ⟨ns, rfl, hb⟩ := hs
  refine sem_at rfl ⟨rfl, ?_⟩
  (simp only [b__law_next]; walk_at "s")
  refine ⟨shapedL ns, ?_⟩
  cases ns with
  | nil =>
    simp only [List.isEmpty_nil, ↓wE.eq_1, ↓wE.eq_2, ↓wE.eq_3, ↓wE.eq_4, ↓wE.eq_5, ↓wE.eq_6, ↓wE.eq_7, ↓wE.eq_8, ↓wE.eq_9, ↓wE.eq_10, ↓wE.eq_11, ↓wE.eq_12, ↓wE.eq_13, ↓wE.eq_14, ↓wE.eq_15, ↓wE.eq_16, ↓wE.eq_18, ↓wE.eq_19, ↓wE.eq_22, ↓wE.eq_23, ↓wE.eq_24, ↓wE.eq_25, ↓wE.eq_26, ↓wE.eq_27, ↓wE.eq_28, ↓wE.eq_29, ↓wE.eq_30, ↓wE.eq_31, ↓wE.eq_32, ↓wE.eq_34, ↓wE.eq_35, ↓wE.eq_36, ↓wE.eq_37, ↓wE.eq_38, ↓wE.eq_39, ↓wE.eq_40, ↓wE.eq_41, ↓wE_call, ↓wE_callP, ↓wE_lc, ↓wE_lcg, ↓wE_isv, ↓wE_ix, ↓ix_fr0, ↓ix_fr1, ↓cmp_fr, ↓cmp_frn, ↓cmp_fr0, ↓cmp_tz, ↓cmp_tzn, ↓cmp_tz0, ↓cmp_tzn0, ↓bi_list_tz, ↓add_tz,  ↓len_tz, ↓len_fr, ↓isT_fr, items_tz, ↓cmp_bb, ↓cmp_bbn, ↓wS_whl, ↓wS_for, ↓wS_forP, ↓wS_asg, ↓wS_par, ↓wS_setIx, ↓wS_app, ↓tgW_one, ↓tgW_tup, pvF_eq, ↓wS.eq_1, ↓wS.eq_2, ↓wS.eq_3, ↓wS.eq_5, ↓wS.eq_7, ↓wS.eq_10, ↓wS.eq_11, ↓wS.eq_12, ↓wS.eq_13, ↓wS.eq_14, ↓wS.eq_15, ↓wS.eq_16, ↓wS.eq_17, ↓wS.eq_20, ↓wS.eq_21, ↓wS.eq_22, ↓wS.eq_23, ↓wS.eq_24, ↓wS.eq_25, ↓wS.eq_26, ↓wS.eq_27, ↓wS.eq_28, ↓wS.eq_29, ↓wS.eq_30, ↓augW.eq_1, ↓augW.eq_2, ↓augW.eq_3, ↓augW.eq_4, ↓inW.eq_1, ↓inW.eq_2, ↓inW.eq_3, ↓inW.eq_4, ↓zipW.eq_1, ↓zipW.eq_2, ↓zipW.eq_3, ↓cntW.eq_1, ↓dspW.eq_1, ↓idxW.eq_1, ↓opW.eq_1, ↓opW.eq_2, ↓opW.eq_3, ↓opW.eq_4, ↓opW.eq_5, ↓opW.eq_6, ↓opW.eq_7, ↓opW.eq_8, ↓opW.eq_9, ↓opW.eq_10, ↓opW.eq_11, ↓opW.eq_12, ↓opW.eq_13, ↓opW.eq_14, ↓cmpW.eq_1, ↓cmpW.eq_2, ↓cmpW.eq_5, ↓cmpW.eq_6, ↓cmpW.eq_7, ↓cmpW.eq_8, ↓cmpW.eq_9, ↓cmpW.eq_10, ↓cmpW.eq_11, ↓cmpW.eq_12, ↓cmp_ll, ↓cmp_lln, ↓cmp_tt, ↓cmp_ttn, ↓biW.eq_1, ↓biW.eq_2, ↓biW.eq_3, ↓biW.eq_4, ↓biW.eq_5, ↓biW.eq_6, ↓biW.eq_7, ↓biW.eq_8, ↓biW.eq_9, ↓biW.eq_10, ↓biW.eq_11, ↓biW.eq_12, ↓biW.eq_13, ↓biW.eq_14, ↓biW.eq_15, ↓biW.eq_16, ↓biW.eq_17, ↓lenW.eq_1, ↓lenW.eq_2, ↓slW.eq_1, ↓slW.eq_2, ↓revW.eq_1, ↓revW.eq_2, ↓pkW_var, ↓ptW_nil, ↓ptK_i, ↓pkW_cst, ↓pkW_tup, ↓pkW_lst, ↓pkW_bin, ↓pkW_neg, ↓pkW_ix, ↓pkW_sl, ↓pkW_rev, ↓pkW_call, ↓pkW_callP, ↓pkW_bi, ↓pkW_len, ↓pkW_lc, ↓pkW_ite, ↓pkW_gc, ↓pkW_mov, ↓pkW_dsp, ↓pkW_bone, ↓pkW_cmp, ↓pkW_cnt, ↓ptW_cst, ↓ptW_tup, ↓ptW_lst, ↓ptW_bin, ↓ptW_neg, ↓ptW_ix, ↓ptW_sl, ↓ptW_rev, ↓ptW_call, ↓ptW_callP, ↓ptW_bi, ↓ptW_len, ↓ptW_lc, ↓ptW_ite, ↓ptW_gc, ↓ptW_mov, ↓ptW_dsp, ↓ptW_bone, ↓ptW_cmp, ↓ptW_cnt, ↓ptW_var, ↓peek, ↓ownAt, ↓kD.eq_1, ↓kD.eq_2, ↓kM.eq_1, ↓kB.eq_1, ↓kV.eq_1, ↓kV.eq_2, ↓setW, ↓rngW1.eq_1, ↓rngW2.eq_1, ↓rngWd.eq_1, isVar, isNil, isT, gv, pv, setAll, ev0, items.eq_1, items.eq_2, tgs, wipeE, blind_cons, blind_nil, bl1, runB, List.map_cons, List.map_nil, List.replicate, List.cons_append, List.nil_append, if_true, if_false, ite_true, ite_false, reduceCtorEq, Bool.true_and, Bool.and_true, Bool.not_true, Bool.not_false, Bool.false_eq_true, ↓reduceIte, Nat.reduceSub, Nat.reduceAdd, List.length_cons, List.length_nil, decide_eq_true_eq, Bool.not_eq_true', decide_eq_false_iff_not, Bool.and_false, Bool.false_and, true_and, and_true, Nat.sub_self, Nat.succ_eq_add_one, flat, Nat.reduceLeDiff, Int.reduceLE, Int.reduceLT, Int.reduceEq, ne_eq, not_false_eq_true, s10, la_2, la_3, la_4, la_5, la_6, la_7, la_8, la_9, la_10, la_11, la_12, la_13, la_14, la_15, la_16, la_18, la_19, la_20, la_21, la_24, la_25, la_28, la_30, la_35, la_36, la_39, la_40, la_41, la_44, la_45, la_49, la_50, la_52, la_54, la_57, la_63, la_64, la_65, la_72, la_78, la_81, la_90, la_100, la_121, la_123, la_125, la_126, la_144, la_162, la_168, la_176, la_196, la_200, la_216, la_240, la_360, la_369, la_400, la_402, la_441, la_540, la_550, la_900, la_907, la_997, la_1009, la_1100, la_1152, la_1440, la_1764, la_2001, la_2003, la_2200, la_3150, la_4099, la_16807, la_22500, la_24200, la_72600, Nat.reduceLT, ↓ix_t0, ↓ix_t1, ↓ix_t2, ↓ix_t3, ↓ix_t4, ↓ix_t5, ↓ix_t6, ↓ix_l0, ↓ix_l1, ↓ix_l2, ↓ix_l3, ↓ix_l4, ↓ix_l5, ↓ix_l6, ↓add_ttz, ↓isT_tz, ↓sl_tz, isN_non, isN_tup, isN_lst, isN_int, isN_str, isN_bl, isN_fr, isN_tz, ↓hS.eq_1, ↓hS.eq_2, ↓hS.eq_3, ↓hS.eq_4, hE, hB, ↓hide.eq_1, ↓hide.eq_2, isS, Nat.reduceBEq, Bool.or_true, Bool.or_false, Bool.true_or, Bool.false_or, beq_self_eq_true, not_true_eq_false, Int.cast_ofNat_Int, ↓wE_callL, ↓wE_callLP, ↓kR_d, ↓kR_o, ↓kT_twoO, ↓kTP_two, ↓kTP_twoO, ↓pkW_callLP, ↓wE_lemp, ↓wE_lix, ↓wE_lpop0, ↓wE_lcL, ↓wE_lcK, ↓pkW_lcK, ↓kT_two, ↓lentAt, unlend_nil, unlend_cons, ul1_n, ul1_d, ul1_o, ul1_l, ↓wS_lend, ↓wS_lfn, ↓wS_retL, ↓wS_lset, ↓wS_asgN, ↓tgW_nst, noTwo_d, noTwo_o, ↓pkW_callL, ↓pkW_lix, ↓pkW_lemp, ↓pkW_lpop0, ↓pkW_lcL, ↓ptW_callL, ↓ptW_lix, ↓wE_lit, ↓pkW_lit, ↓ptW_lit, ↓cmp_geT, ↓wE_dget, ↓wE_dix, ↓wE_dsrt, ↓wE_dlc, ↓wE_lcD, ↓wE_srt, ↓wS_dnewT, ↓wS_dnewI, ↓wS_dset, ↓dictAt, itemsD_I, itemsD_T, ↓pkW_dget, ↓ptW_dget, ↓pkW_dix, ↓ptW_dix, ↓pkW_dsrt, ↓ptW_dsrt, ↓pkW_dlc, ↓ptW_dlc, ↓pkW_lcD, ↓ptW_lcD, ↓pkW_srt, ↓ptW_srt, ↓wE_callF, ↓kF_o, ↓wE_rvl, ↓rvlK_l, ↓wE_lset, ↓lsetK_l, ↓wE_emp, ↓wE_lcO, ↓pkW_lcO, ↓ptW_lcO, hTx, ↓hS.eq_5, ↓pkW_callF, ↓ptW_callF, ↓pkW_rvl, ↓ptW_rvl, ↓pkW_lset, ↓ptW_lset, ↓pkW_emp, ↓ptW_emp]
    exact h _ _ (by omega) hm ⟨[], rfl, hb⟩
  | cons n ns =>
    simp only [List.isEmpty_cons, ↓wE.eq_1, ↓wE.eq_2, ↓wE.eq_3, ↓wE.eq_4, ↓wE.eq_5, ↓wE.eq_6, ↓wE.eq_7, ↓wE.eq_8, ↓wE.eq_9, ↓wE.eq_10, ↓wE.eq_11, ↓wE.eq_12, ↓wE.eq_13, ↓wE.eq_14, ↓wE.eq_15, ↓wE.eq_16, ↓wE.eq_18, ↓wE.eq_19, ↓wE.eq_22, ↓wE.eq_23, ↓wE.eq_24, ↓wE.eq_25, ↓wE.eq_26, ↓wE.eq_27, ↓wE.eq_28, ↓wE.eq_29, ↓wE.eq_30, ↓wE.eq_31, ↓wE.eq_32, ↓wE.eq_34, ↓wE.eq_35, ↓wE.eq_36, ↓wE.eq_37, ↓wE.eq_38, ↓wE.eq_39, ↓wE.eq_40, ↓wE.eq_41, ↓wE_call, ↓wE_callP, ↓wE_lc, ↓wE_lcg, ↓wE_isv, ↓wE_ix, ↓ix_fr0, ↓ix_fr1, ↓cmp_fr, ↓cmp_frn, ↓cmp_fr0, ↓cmp_tz, ↓cmp_tzn, ↓cmp_tz0, ↓cmp_tzn0, ↓bi_list_tz, ↓add_tz,  ↓len_tz, ↓len_fr, ↓isT_fr, items_tz, ↓cmp_bb, ↓cmp_bbn, ↓wS_whl, ↓wS_for, ↓wS_forP, ↓wS_asg, ↓wS_par, ↓wS_setIx, ↓wS_app, ↓tgW_one, ↓tgW_tup, pvF_eq, ↓wS.eq_1, ↓wS.eq_2, ↓wS.eq_3, ↓wS.eq_5, ↓wS.eq_7, ↓wS.eq_10, ↓wS.eq_11, ↓wS.eq_12, ↓wS.eq_13, ↓wS.eq_14, ↓wS.eq_15, ↓wS.eq_16, ↓wS.eq_17, ↓wS.eq_20, ↓wS.eq_21, ↓wS.eq_22, ↓wS.eq_23, ↓wS.eq_24, ↓wS.eq_25, ↓wS.eq_26, ↓wS.eq_27, ↓wS.eq_28, ↓wS.eq_29, ↓wS.eq_30, ↓augW.eq_1, ↓augW.eq_2, ↓augW.eq_3, ↓augW.eq_4, ↓inW.eq_1, ↓inW.eq_2, ↓inW.eq_3, ↓inW.eq_4, ↓zipW.eq_1, ↓zipW.eq_2, ↓zipW.eq_3, ↓cntW.eq_1, ↓dspW.eq_1, ↓idxW.eq_1, ↓opW.eq_1, ↓opW.eq_2, ↓opW.eq_3, ↓opW.eq_4, ↓opW.eq_5, ↓opW.eq_6, ↓opW.eq_7, ↓opW.eq_8, ↓opW.eq_9, ↓opW.eq_10, ↓opW.eq_11, ↓opW.eq_12, ↓opW.eq_13, ↓opW.eq_14, ↓cmpW.eq_1, ↓cmpW.eq_2, ↓cmpW.eq_5, ↓cmpW.eq_6, ↓cmpW.eq_7, ↓cmpW.eq_8, ↓cmpW.eq_9, ↓cmpW.eq_10, ↓cmpW.eq_11, ↓cmpW.eq_12, ↓cmp_ll, ↓cmp_lln, ↓cmp_tt, ↓cmp_ttn, ↓biW.eq_1, ↓biW.eq_2, ↓biW.eq_3, ↓biW.eq_4, ↓biW.eq_5, ↓biW.eq_6, ↓biW.eq_7, ↓biW.eq_8, ↓biW.eq_9, ↓biW.eq_10, ↓biW.eq_11, ↓biW.eq_12, ↓biW.eq_13, ↓biW.eq_14, ↓biW.eq_15, ↓biW.eq_16, ↓biW.eq_17, ↓lenW.eq_1, ↓lenW.eq_2, ↓slW.eq_1, ↓slW.eq_2, ↓revW.eq_1, ↓revW.eq_2, ↓pkW_var, ↓ptW_nil, ↓ptK_i, ↓pkW_cst, ↓pkW_tup, ↓pkW_lst, ↓pkW_bin, ↓pkW_neg, ↓pkW_ix, ↓pkW_sl, ↓pkW_rev, ↓pkW_call, ↓pkW_callP, ↓pkW_bi, ↓pkW_len, ↓pkW_lc, ↓pkW_ite, ↓pkW_gc, ↓pkW_mov, ↓pkW_dsp, ↓pkW_bone, ↓pkW_cmp, ↓pkW_cnt, ↓ptW_cst, ↓ptW_tup, ↓ptW_lst, ↓ptW_bin, ↓ptW_neg, ↓ptW_ix, ↓ptW_sl, ↓ptW_rev, ↓ptW_call, ↓ptW_callP, ↓ptW_bi, ↓ptW_len, ↓ptW_lc, ↓ptW_ite, ↓ptW_gc, ↓ptW_mov, ↓ptW_dsp, ↓ptW_bone, ↓ptW_cmp, ↓ptW_cnt, ↓ptW_var, ↓peek, ↓ownAt, ↓kD.eq_1, ↓kD.eq_2, ↓kM.eq_1, ↓kB.eq_1, ↓kV.eq_1, ↓kV.eq_2, ↓setW, ↓rngW1.eq_1, ↓rngW2.eq_1, ↓rngWd.eq_1, isVar, isNil, isT, gv, pv, setAll, ev0, items.eq_1, items.eq_2, tgs, wipeE, blind_cons, blind_nil, bl1, runB, List.map_cons, List.map_nil, List.replicate, List.cons_append, List.nil_append, if_true, if_false, ite_true, ite_false, reduceCtorEq, Bool.true_and, Bool.and_true, Bool.not_true, Bool.not_false, Bool.false_eq_true, ↓reduceIte, Nat.reduceSub, Nat.reduceAdd, List.length_cons, List.length_nil, decide_eq_true_eq, Bool.not_eq_true', decide_eq_false_iff_not, Bool.and_false, Bool.false_and, true_and, and_true, Nat.sub_self, Nat.succ_eq_add_one, flat, Nat.reduceLeDiff, Int.reduceLE, Int.reduceLT, Int.reduceEq, ne_eq, not_false_eq_true, s10, la_2, la_3, la_4, la_5, la_6, la_7, la_8, la_9, la_10, la_11, la_12, la_13, la_14, la_15, la_16, la_18, la_19, la_20, la_21, la_24, la_25, la_28, la_30, la_35, la_36, la_39, la_40, la_41, la_44, la_45, la_49, la_50, la_52, la_54, la_57, la_63, la_64, la_65, la_72, la_78, la_81, la_90, la_100, la_121, la_123, la_125, la_126, la_144, la_162, la_168, la_176, la_196, la_200, la_216, la_240, la_360, la_369, la_400, la_402, la_441, la_540, la_550, la_900, la_907, la_997, la_1009, la_1100, la_1152, la_1440, la_1764, la_2001, la_2003, la_2200, la_3150, la_4099, la_16807, la_22500, la_24200, la_72600, Nat.reduceLT, ↓ix_t0, ↓ix_t1, ↓ix_t2, ↓ix_t3, ↓ix_t4, ↓ix_t5, ↓ix_t6, ↓ix_l0, ↓ix_l1, ↓ix_l2, ↓ix_l3, ↓ix_l4, ↓ix_l5, ↓ix_l6, ↓add_ttz, ↓isT_tz, ↓sl_tz, isN_non, isN_tup, isN_lst, isN_int, isN_str, isN_bl, isN_fr, isN_tz, ↓hS.eq_1, ↓hS.eq_2, ↓hS.eq_3, ↓hS.eq_4, hE, hB, ↓hide.eq_1, ↓hide.eq_2, isS, Nat.reduceBEq, Bool.or_true, Bool.or_false, Bool.true_or, Bool.false_or, beq_self_eq_true, not_true_eq_false, Int.cast_ofNat_Int, ↓wE_callL, ↓wE_callLP, ↓kR_d, ↓kR_o, ↓kT_twoO, ↓kTP_two, ↓kTP_twoO, ↓pkW_callLP, ↓wE_lemp, ↓wE_lix, ↓wE_lpop0, ↓wE_lcL, ↓wE_lcK, ↓pkW_lcK, ↓kT_two, ↓lentAt, unlend_nil, unlend_cons, ul1_n, ul1_d, ul1_o, ul1_l, ↓wS_lend, ↓wS_lfn, ↓wS_retL, ↓wS_lset, ↓wS_asgN, ↓tgW_nst, noTwo_d, noTwo_o, ↓pkW_callL, ↓pkW_lix, ↓pkW_lemp, ↓pkW_lpop0, ↓pkW_lcL, ↓ptW_callL, ↓ptW_lix, ↓wE_lit, ↓pkW_lit, ↓ptW_lit, ↓cmp_geT, ↓wE_dget, ↓wE_dix, ↓wE_dsrt, ↓wE_dlc, ↓wE_lcD, ↓wE_srt, ↓wS_dnewT, ↓wS_dnewI, ↓wS_dset, ↓dictAt, itemsD_I, itemsD_T, ↓pkW_dget, ↓ptW_dget, ↓pkW_dix, ↓ptW_dix, ↓pkW_dsrt, ↓ptW_dsrt, ↓pkW_dlc, ↓ptW_dlc, ↓pkW_lcD, ↓ptW_lcD, ↓pkW_srt, ↓ptW_srt, ↓wE_callF, ↓kF_o, ↓wE_rvl, ↓rvlK_l, ↓wE_lset, ↓lsetK_l, ↓wE_emp, ↓wE_lcO, ↓pkW_lcO, ↓ptW_lcO, hTx, ↓hS.eq_5, ↓pkW_callF, ↓ptW_callF, ↓pkW_rvl, ↓ptW_rvl, ↓pkW_lset, ↓ptW_lset, ↓pkW_emp, ↓ptW_emp]
    refine ⟨_, _, rfl, ?_⟩
    walk_at "s"
    exact ⟨by omega, h _ _ (by rw [fmod_pos hm]; exact Int.emod_nonneg _ (by omega)) (by rw [fmod_pos hm]; exact Int.emod_lt_of_pos _ hm) ⟨ns, rfl, fun z hz => hb z (List.mem_cons_of_mem _ hz)⟩⟩

theorem p_lweight {xs : List D} (hs : Dr xs) (h : ∀ w ys, Bt 70 w → Dr ys → Q (.two (.int w) ys)) : sem fns (k + 2) 13 [.list xs] X Q := by
  refine sem_at rfl ⟨rfl, ?_⟩
  have e20 : (10 : Int) ^ Int.toNat 20 = 100000000000000000000 := by decide +kernel
  (simp only [b__law_weight]; walk_at "s")
  refine p_lnext (by decide) hs fun r ys r0 r1 hs1 => ?_
  walk_at "s"
  split
  · rw [e20]
    repeat (refine And.intro (by first | exact small10 | decide | decide +kernel) ?_)
    refine ⟨mulOk_l (by unfold small64; decide), ?_⟩
    refine p_lnext (by decide) hs1 fun r2 ys2 r20 r21 hs2 => ?_
    walk_at "s"
    rw [e20]
    repeat (refine And.intro (by first | exact small10 | decide | decide +kernel) ?_)
    refine h _ _ ?_ hs2
    unfold Bt
    omega
  · refine p_lnext (by decide) hs1 fun r2 ys2 r20 r21 hs2 => ?_
    walk_at "s"
    refine h _ _ ?_ hs2
    unfold Bt
    omega

theorem p_lterms {xs : List D} {n m : Nat} (hn : n ≤ 1000) (hm : m ≤ 1000) (hs : Dr xs) (h : ∀ (ts : List Tm) ys, ts.length ≤ n → (∀ t ∈ ts, Tk m t) → Dr ys → Q (.twoO (ts.map td) ys)) : sem fns (k + 3) 14 [.list xs, .int n, .int m] X Q := by
  refine sem_at rfl ⟨rfl, ?_⟩
  (simp only [b__law_terms]; walk_at "s")
  refine p_lnext (by omega) hs fun r ys r0 r1 hs1 => ?_
  walk_at "s"
  refine ⟨⟨by omega, by omega⟩, ?_⟩
  refine for_at' (fun q ε => ∃ (js : List Nat) (ts : List Tm) (ys : List D) (o5 o6 : Option Val), q = js.map (fun i : Nat => PyData.int i) ∧ js.length + ts.length ≤ n ∧ (∀ t ∈ ts, Tk m t) ∧ Dr ys ∧
    ε = [some (.lent ys), some (.d (.int n)), some (.d (.int m)), some (.own (ts.map td)), o5, o6]) ?_ ?_ _ _ ⟨List.range r.toNat, [], ys, none, none, rfl, by simp; omega, (fun t ht => by cases ht), hs1, rfl⟩
  · rintro x q ε ⟨js, ts, ys, o5, o6, hq, l1, ht, hs2, rfl⟩ hnx
    cases js with
    | nil => cases hq
    | cons j js =>
      cases hq
      (simp only [b__law_terms_1]; walk_at "s")
      refine p_lnext (by omega) hs2 fun a ya a0 a1 hsa => ?_
      walk_at "s"
      refine p_lnext (by omega) hsa fun b yb b0 b1 hsb => ?_
      walk_at "s"
      refine p_lnext (by omega) hsb fun c yc c0 c1 hsc => ?_
      walk_at "s"
      refine p_lweight hsc fun w yw bw hsw => ?_
      walk_at "s"
      have hl : (ts.map td).length < 16777216 := by rw [List.length_map]; simp at l1; omega
      refine ⟨hl, hnx _ ⟨js, ts ++ [([a, b, c], w)], _, _, _, rfl, by simp at l1 ⊢; omega, fun t h2 => ?_, hsw, by rw [List.map_append]; rfl⟩⟩
      rcases List.mem_append.mp h2 with h2 | h2
      · exact ht t h2
      · have : t = ([a, b, c], w) := by simpa using h2
        rw [this]
        exact ⟨a, b, c, rfl, ⟨a0, by omega⟩, ⟨b0, by omega⟩, ⟨c0, by omega⟩, bw⟩
  · rintro ε ⟨js, ts, ys, o5, o6, hq, l1, ht, hs2, rfl⟩
    (simp only [b__law_terms_2]; walk_at "s")
    exact h ts _ (by omega) ht hs2

theorem p_lfsum {ts : List Tm} {v : D} (hv : items v = some (ts.map td)) (hl : ts.length ≤ 1000000) (h : Q (.d (.tuple ((frm ts).map td)))) : sem fns (k + 1) 15 [v] X Q := by
  refine sem_at rfl ⟨rfl, ?_⟩
  (simp only [b__law_sum]; walk_at "s")
  rw [hv]
  walk_at "s"
  refine for_at' (fun q ε => ∃ (us kv : List Tm) (o2 o3 : Option Val), q = us.map td ∧ us.foldl ad kv = gath ts ∧ us.length + kv.length ≤ 1000000 ∧ ε = [some (.d v), some (.dT (toD kv)), o2, o3]) ?_ ?_ _ _ ⟨ts, [], none, none, rfl, rfl, by simpa using hl, rfl⟩
  · rintro x q ε ⟨us, kv, o2, o3, hq, e, l1, rfl⟩ hnx
    cases us with
    | nil => cases hq
    | cons t us =>
      cases hq
      have l2 : (ad kv t).length ≤ kv.length + 1 := by
        unfold ad pt
        split
        · rw [List.length_map]; omega
        · rw [List.length_append]; simp
      simp only [td, b__law_sum_1, ↓wE.eq_1, ↓wE.eq_2, ↓wE.eq_3, ↓wE.eq_4, ↓wE.eq_5, ↓wE.eq_6, ↓wE.eq_7, ↓wE.eq_8, ↓wE.eq_9, ↓wE.eq_10, ↓wE.eq_11, ↓wE.eq_12, ↓wE.eq_13, ↓wE.eq_14, ↓wE.eq_15, ↓wE.eq_16, ↓wE.eq_18, ↓wE.eq_19, ↓wE.eq_22, ↓wE.eq_23, ↓wE.eq_24, ↓wE.eq_25, ↓wE.eq_26, ↓wE.eq_27, ↓wE.eq_28, ↓wE.eq_29, ↓wE.eq_30, ↓wE.eq_31, ↓wE.eq_32, ↓wE.eq_34, ↓wE.eq_35, ↓wE.eq_36, ↓wE.eq_37, ↓wE.eq_38, ↓wE.eq_39, ↓wE.eq_40, ↓wE.eq_41, ↓wE_call, ↓wE_callP, ↓wE_lc, ↓wE_lcg, ↓wE_isv, ↓wE_ix, ↓ix_fr0, ↓ix_fr1, ↓cmp_fr, ↓cmp_frn, ↓cmp_fr0, ↓cmp_tz, ↓cmp_tzn, ↓cmp_tz0, ↓cmp_tzn0, ↓bi_list_tz, ↓add_tz,  ↓len_tz, ↓len_fr, ↓isT_fr, items_tz, ↓cmp_bb, ↓cmp_bbn, ↓wS_whl, ↓wS_for, ↓wS_forP, ↓wS_asg, ↓wS_par, ↓wS_setIx, ↓wS_app, ↓tgW_one, ↓tgW_tup, pvF_eq, ↓wS.eq_1, ↓wS.eq_2, ↓wS.eq_3, ↓wS.eq_5, ↓wS.eq_7, ↓wS.eq_10, ↓wS.eq_11, ↓wS.eq_12, ↓wS.eq_13, ↓wS.eq_14, ↓wS.eq_15, ↓wS.eq_16, ↓wS.eq_17, ↓wS.eq_20, ↓wS.eq_21, ↓wS.eq_22, ↓wS.eq_23, ↓wS.eq_24, ↓wS.eq_25, ↓wS.eq_26, ↓wS.eq_27, ↓wS.eq_28, ↓wS.eq_29, ↓wS.eq_30, ↓augW.eq_1, ↓augW.eq_2, ↓augW.eq_3, ↓augW.eq_4, ↓inW.eq_1, ↓inW.eq_2, ↓inW.eq_3, ↓inW.eq_4, ↓zipW.eq_1, ↓zipW.eq_2, ↓zipW.eq_3, ↓cntW.eq_1, ↓dspW.eq_1, ↓idxW.eq_1, ↓opW.eq_1, ↓opW.eq_2, ↓opW.eq_3, ↓opW.eq_4, ↓opW.eq_5, ↓opW.eq_6, ↓opW.eq_7, ↓opW.eq_8, ↓opW.eq_9, ↓opW.eq_10, ↓opW.eq_11, ↓opW.eq_12, ↓opW.eq_13, ↓opW.eq_14, ↓cmpW.eq_1, ↓cmpW.eq_2, ↓cmpW.eq_5, ↓cmpW.eq_6, ↓cmpW.eq_7, ↓cmpW.eq_8, ↓cmpW.eq_9, ↓cmpW.eq_10, ↓cmpW.eq_11, ↓cmpW.eq_12, ↓cmp_ll, ↓cmp_lln, ↓cmp_tt, ↓cmp_ttn, ↓biW.eq_1, ↓biW.eq_2, ↓biW.eq_3, ↓biW.eq_4, ↓biW.eq_5, ↓biW.eq_6, ↓biW.eq_7, ↓biW.eq_8, ↓biW.eq_9, ↓biW.eq_10, ↓biW.eq_11, ↓biW.eq_12, ↓biW.eq_13, ↓biW.eq_14, ↓biW.eq_15, ↓biW.eq_16, ↓biW.eq_17, ↓lenW.eq_1, ↓lenW.eq_2, ↓slW.eq_1, ↓slW.eq_2, ↓revW.eq_1, ↓revW.eq_2, ↓pkW_var, ↓ptW_nil, ↓ptK_i, ↓pkW_cst, ↓pkW_tup, ↓pkW_lst, ↓pkW_bin, ↓pkW_neg, ↓pkW_ix, ↓pkW_sl, ↓pkW_rev, ↓pkW_call, ↓pkW_callP, ↓pkW_bi, ↓pkW_len, ↓pkW_lc, ↓pkW_ite, ↓pkW_gc, ↓pkW_mov, ↓pkW_dsp, ↓pkW_bone, ↓pkW_cmp, ↓pkW_cnt, ↓ptW_cst, ↓ptW_tup, ↓ptW_lst, ↓ptW_bin, ↓ptW_neg, ↓ptW_ix, ↓ptW_sl, ↓ptW_rev, ↓ptW_call, ↓ptW_callP, ↓ptW_bi, ↓ptW_len, ↓ptW_lc, ↓ptW_ite, ↓ptW_gc, ↓ptW_mov, ↓ptW_dsp, ↓ptW_bone, ↓ptW_cmp, ↓ptW_cnt, ↓ptW_var, ↓peek, ↓ownAt, ↓kD.eq_1, ↓kD.eq_2, ↓kM.eq_1, ↓kB.eq_1, ↓kV.eq_1, ↓kV.eq_2, ↓setW, ↓rngW1.eq_1, ↓rngW2.eq_1, ↓rngWd.eq_1, isVar, isNil, isT, gv, pv, setAll, ev0, items.eq_1, items.eq_2, tgs, wipeE, blind_cons, blind_nil, bl1, runB, List.map_cons, List.map_nil, List.replicate, List.cons_append, List.nil_append, if_true, if_false, ite_true, ite_false, reduceCtorEq, Bool.true_and, Bool.and_true, Bool.not_true, Bool.not_false, Bool.false_eq_true, ↓reduceIte, Nat.reduceSub, Nat.reduceAdd, List.length_cons, List.length_nil, decide_eq_true_eq, Bool.not_eq_true', decide_eq_false_iff_not, Bool.and_false, Bool.false_and, true_and, and_true, Nat.sub_self, Nat.succ_eq_add_one, flat, Nat.reduceLeDiff, Int.reduceLE, Int.reduceLT, Int.reduceEq, ne_eq, not_false_eq_true, s10, la_2, la_3, la_4, la_5, la_6, la_7, la_8, la_9, la_10, la_11, la_12, la_13, la_14, la_15, la_16, la_18, la_19, la_20, la_21, la_24, la_25, la_28, la_30, la_35, la_36, la_39, la_40, la_41, la_44, la_45, la_49, la_50, la_52, la_54, la_57, la_63, la_64, la_65, la_72, la_78, la_81, la_90, la_100, la_121, la_123, la_125, la_126, la_144, la_162, la_168, la_176, la_196, la_200, la_216, la_240, la_360, la_369, la_400, la_402, la_441, la_540, la_550, la_900, la_907, la_997, la_1009, la_1100, la_1152, la_1440, la_1764, la_2001, la_2003, la_2200, la_3150, la_4099, la_16807, la_22500, la_24200, la_72600, Nat.reduceLT, ↓ix_t0, ↓ix_t1, ↓ix_t2, ↓ix_t3, ↓ix_t4, ↓ix_t5, ↓ix_t6, ↓ix_l0, ↓ix_l1, ↓ix_l2, ↓ix_l3, ↓ix_l4, ↓ix_l5, ↓ix_l6, ↓add_ttz, ↓isT_tz, ↓sl_tz, isN_non, isN_tup, isN_lst, isN_int, isN_str, isN_bl, isN_fr, isN_tz, ↓hS.eq_1, ↓hS.eq_2, ↓hS.eq_3, ↓hS.eq_4, hE, hB, ↓hide.eq_1, ↓hide.eq_2, isS, Nat.reduceBEq, Bool.or_true, Bool.or_false, Bool.true_or, Bool.false_or, beq_self_eq_true, not_true_eq_false, Int.cast_ofNat_Int, ↓wE_callL, ↓wE_callLP, ↓kR_d, ↓kR_o, ↓kT_twoO, ↓kTP_two, ↓kTP_twoO, ↓pkW_callLP, ↓wE_lemp, ↓wE_lix, ↓wE_lpop0, ↓wE_lcL, ↓wE_lcK, ↓pkW_lcK, ↓kT_two, ↓lentAt, unlend_nil, unlend_cons, ul1_n, ul1_d, ul1_o, ul1_l, ↓wS_lend, ↓wS_lfn, ↓wS_retL, ↓wS_lset, ↓wS_asgN, ↓tgW_nst, noTwo_d, noTwo_o, ↓pkW_callL, ↓pkW_lix, ↓pkW_lemp, ↓pkW_lpop0, ↓pkW_lcL, ↓ptW_callL, ↓ptW_lix, ↓wE_lit, ↓pkW_lit, ↓ptW_lit, ↓cmp_geT, ↓wE_dget, ↓wE_dix, ↓wE_dsrt, ↓wE_dlc, ↓wE_lcD, ↓wE_srt, ↓wS_dnewT, ↓wS_dnewI, ↓wS_dset, ↓dictAt, itemsD_I, itemsD_T, ↓pkW_dget, ↓ptW_dget, ↓pkW_dix, ↓ptW_dix, ↓pkW_dsrt, ↓ptW_dsrt, ↓pkW_dlc, ↓ptW_dlc, ↓pkW_lcD, ↓ptW_lcD, ↓pkW_srt, ↓ptW_srt, ↓wE_callF, ↓kF_o, ↓wE_rvl, ↓rvlK_l, ↓wE_lset, ↓lsetK_l, ↓wE_emp, ↓wE_lcO, ↓pkW_lcO, ↓ptW_lcO, hTx, ↓hS.eq_5, ↓pkW_callF, ↓ptW_callF, ↓pkW_rvl, ↓ptW_rvl, ↓pkW_lset, ↓ptW_lset, ↓pkW_emp, ↓ptW_emp]
      refine dg_T (keyT_l _) ?_
      rw [lkp_toD]
      walk_at "s"
      refine dp_T (keyT_l _) (by rw [toD_len]; simp at l1; omega) ?_
      rw [putL_toD]
      walk_at "s"
      exact hnx _ ⟨us, ad kv t, _, _, rfl, e, by simp at l1; omega, rfl⟩
  · rintro ε ⟨us, kv, o2, o3, hq, e, l1, rfl⟩
    cases us with
    | cons _ _ => cases hq
    | nil =>
      have e : kv = gath ts := e
      subst e
      (simp only [b__law_sum_4]; walk_at "s")
      have ei : (toD (gath ts)).map (fun kv => PyData.tuple [.tuple (kv.1.map .int), kv.2]) = (gath ts).map td := by
        unfold toD
        rw [List.map_map]; rfl
      rw [ei]
      refine lc_flt td td (fun t => decide (t.2 ≠ 0)) (fun t ht k1 k0 h1 h0 => ?_) (by simp at l1; omega) ?_
      · simp only [td, c__law_sum_2, e__law_sum_3, ↓wE.eq_1, ↓wE.eq_2, ↓wE.eq_3, ↓wE.eq_4, ↓wE.eq_5, ↓wE.eq_6, ↓wE.eq_7, ↓wE.eq_8, ↓wE.eq_9, ↓wE.eq_10, ↓wE.eq_11, ↓wE.eq_12, ↓wE.eq_13, ↓wE.eq_14, ↓wE.eq_15, ↓wE.eq_16, ↓wE.eq_18, ↓wE.eq_19, ↓wE.eq_22, ↓wE.eq_23, ↓wE.eq_24, ↓wE.eq_25, ↓wE.eq_26, ↓wE.eq_27, ↓wE.eq_28, ↓wE.eq_29, ↓wE.eq_30, ↓wE.eq_31, ↓wE.eq_32, ↓wE.eq_34, ↓wE.eq_35, ↓wE.eq_36, ↓wE.eq_37, ↓wE.eq_38, ↓wE.eq_39, ↓wE.eq_40, ↓wE.eq_41, ↓wE_call, ↓wE_callP, ↓wE_lc, ↓wE_lcg, ↓wE_isv, ↓wE_ix, ↓ix_fr0, ↓ix_fr1, ↓cmp_fr, ↓cmp_frn, ↓cmp_fr0, ↓cmp_tz, ↓cmp_tzn, ↓cmp_tz0, ↓cmp_tzn0, ↓bi_list_tz, ↓add_tz,  ↓len_tz, ↓len_fr, ↓isT_fr, items_tz, ↓cmp_bb, ↓cmp_bbn, ↓wS_whl, ↓wS_for, ↓wS_forP, ↓wS_asg, ↓wS_par, ↓wS_setIx, ↓wS_app, ↓tgW_one, ↓tgW_tup, pvF_eq, ↓wS.eq_1, ↓wS.eq_2, ↓wS.eq_3, ↓wS.eq_5, ↓wS.eq_7, ↓wS.eq_10, ↓wS.eq_11, ↓wS.eq_12, ↓wS.eq_13, ↓wS.eq_14, ↓wS.eq_15, ↓wS.eq_16, ↓wS.eq_17, ↓wS.eq_20, ↓wS.eq_21, ↓wS.eq_22, ↓wS.eq_23, ↓wS.eq_24, ↓wS.eq_25, ↓wS.eq_26, ↓wS.eq_27, ↓wS.eq_28, ↓wS.eq_29, ↓wS.eq_30, ↓augW.eq_1, ↓augW.eq_2, ↓augW.eq_3, ↓augW.eq_4, ↓inW.eq_1, ↓inW.eq_2, ↓inW.eq_3, ↓inW.eq_4, ↓zipW.eq_1, ↓zipW.eq_2, ↓zipW.eq_3, ↓cntW.eq_1, ↓dspW.eq_1, ↓idxW.eq_1, ↓opW.eq_1, ↓opW.eq_2, ↓opW.eq_3, ↓opW.eq_4, ↓opW.eq_5, ↓opW.eq_6, ↓opW.eq_7, ↓opW.eq_8, ↓opW.eq_9, ↓opW.eq_10, ↓opW.eq_11, ↓opW.eq_12, ↓opW.eq_13, ↓opW.eq_14, ↓cmpW.eq_1, ↓cmpW.eq_2, ↓cmpW.eq_5, ↓cmpW.eq_6, ↓cmpW.eq_7, ↓cmpW.eq_8, ↓cmpW.eq_9, ↓cmpW.eq_10, ↓cmpW.eq_11, ↓cmpW.eq_12, ↓cmp_ll, ↓cmp_lln, ↓cmp_tt, ↓cmp_ttn, ↓biW.eq_1, ↓biW.eq_2, ↓biW.eq_3, ↓biW.eq_4, ↓biW.eq_5, ↓biW.eq_6, ↓biW.eq_7, ↓biW.eq_8, ↓biW.eq_9, ↓biW.eq_10, ↓biW.eq_11, ↓biW.eq_12, ↓biW.eq_13, ↓biW.eq_14, ↓biW.eq_15, ↓biW.eq_16, ↓biW.eq_17, ↓lenW.eq_1, ↓lenW.eq_2, ↓slW.eq_1, ↓slW.eq_2, ↓revW.eq_1, ↓revW.eq_2, ↓pkW_var, ↓ptW_nil, ↓ptK_i, ↓pkW_cst, ↓pkW_tup, ↓pkW_lst, ↓pkW_bin, ↓pkW_neg, ↓pkW_ix, ↓pkW_sl, ↓pkW_rev, ↓pkW_call, ↓pkW_callP, ↓pkW_bi, ↓pkW_len, ↓pkW_lc, ↓pkW_ite, ↓pkW_gc, ↓pkW_mov, ↓pkW_dsp, ↓pkW_bone, ↓pkW_cmp, ↓pkW_cnt, ↓ptW_cst, ↓ptW_tup, ↓ptW_lst, ↓ptW_bin, ↓ptW_neg, ↓ptW_ix, ↓ptW_sl, ↓ptW_rev, ↓ptW_call, ↓ptW_callP, ↓ptW_bi, ↓ptW_len, ↓ptW_lc, ↓ptW_ite, ↓ptW_gc, ↓ptW_mov, ↓ptW_dsp, ↓ptW_bone, ↓ptW_cmp, ↓ptW_cnt, ↓ptW_var, ↓peek, ↓ownAt, ↓kD.eq_1, ↓kD.eq_2, ↓kM.eq_1, ↓kB.eq_1, ↓kV.eq_1, ↓kV.eq_2, ↓setW, ↓rngW1.eq_1, ↓rngW2.eq_1, ↓rngWd.eq_1, isVar, isNil, isT, gv, pv, setAll, ev0, items.eq_1, items.eq_2, tgs, wipeE, blind_cons, blind_nil, bl1, runB, List.map_cons, List.map_nil, List.replicate, List.cons_append, List.nil_append, if_true, if_false, ite_true, ite_false, reduceCtorEq, Bool.true_and, Bool.and_true, Bool.not_true, Bool.not_false, Bool.false_eq_true, ↓reduceIte, Nat.reduceSub, Nat.reduceAdd, List.length_cons, List.length_nil, decide_eq_true_eq, Bool.not_eq_true', decide_eq_false_iff_not, Bool.and_false, Bool.false_and, true_and, and_true, Nat.sub_self, Nat.succ_eq_add_one, flat, Nat.reduceLeDiff, Int.reduceLE, Int.reduceLT, Int.reduceEq, ne_eq, not_false_eq_true, s10, la_2, la_3, la_4, la_5, la_6, la_7, la_8, la_9, la_10, la_11, la_12, la_13, la_14, la_15, la_16, la_18, la_19, la_20, la_21, la_24, la_25, la_28, la_30, la_35, la_36, la_39, la_40, la_41, la_44, la_45, la_49, la_50, la_52, la_54, la_57, la_63, la_64, la_65, la_72, la_78, la_81, la_90, la_100, la_121, la_123, la_125, la_126, la_144, la_162, la_168, la_176, la_196, la_200, la_216, la_240, la_360, la_369, la_400, la_402, la_441, la_540, la_550, la_900, la_907, la_997, la_1009, la_1100, la_1152, la_1440, la_1764, la_2001, la_2003, la_2200, la_3150, la_4099, la_16807, la_22500, la_24200, la_72600, Nat.reduceLT, ↓ix_t0, ↓ix_t1, ↓ix_t2, ↓ix_t3, ↓ix_t4, ↓ix_t5, ↓ix_t6, ↓ix_l0, ↓ix_l1, ↓ix_l2, ↓ix_l3, ↓ix_l4, ↓ix_l5, ↓ix_l6, ↓add_ttz, ↓isT_tz, ↓sl_tz, isN_non, isN_tup, isN_lst, isN_int, isN_str, isN_bl, isN_fr, isN_tz, ↓hS.eq_1, ↓hS.eq_2, ↓hS.eq_3, ↓hS.eq_4, hE, hB, ↓hide.eq_1, ↓hide.eq_2, isS, Nat.reduceBEq, Bool.or_true, Bool.or_false, Bool.true_or, Bool.false_or, beq_self_eq_true, not_true_eq_false, Int.cast_ofNat_Int, ↓wE_callL, ↓wE_callLP, ↓kR_d, ↓kR_o, ↓kT_twoO, ↓kTP_two, ↓kTP_twoO, ↓pkW_callLP, ↓wE_lemp, ↓wE_lix, ↓wE_lpop0, ↓wE_lcL, ↓wE_lcK, ↓pkW_lcK, ↓kT_two, ↓lentAt, unlend_nil, unlend_cons, ul1_n, ul1_d, ul1_o, ul1_l, ↓wS_lend, ↓wS_lfn, ↓wS_retL, ↓wS_lset, ↓wS_asgN, ↓tgW_nst, noTwo_d, noTwo_o, ↓pkW_callL, ↓pkW_lix, ↓pkW_lemp, ↓pkW_lpop0, ↓pkW_lcL, ↓ptW_callL, ↓ptW_lix, ↓wE_lit, ↓pkW_lit, ↓ptW_lit, ↓cmp_geT, ↓wE_dget, ↓wE_dix, ↓wE_dsrt, ↓wE_dlc, ↓wE_lcD, ↓wE_srt, ↓wS_dnewT, ↓wS_dnewI, ↓wS_dset, ↓dictAt, itemsD_I, itemsD_T, ↓pkW_dget, ↓ptW_dget, ↓pkW_dix, ↓ptW_dix, ↓pkW_dsrt, ↓ptW_dsrt, ↓pkW_dlc, ↓ptW_dlc, ↓pkW_lcD, ↓ptW_lcD, ↓pkW_srt, ↓ptW_srt, ↓wE_callF, ↓kF_o, ↓wE_rvl, ↓rvlK_l, ↓wE_lset, ↓lsetK_l, ↓wE_emp, ↓wE_lcO, ↓pkW_lcO, ↓ptW_lcO, hTx, ↓hS.eq_5, ↓pkW_callF, ↓ptW_callF, ↓pkW_rvl, ↓ptW_rvl, ↓pkW_lset, ↓ptW_lset, ↓pkW_emp, ↓ptW_emp]
        split
        · rename_i z
          exact h1 (by simpa using z) _
        · rename_i z
          exact h0 (by simpa using z)
      · walk_at "s"
        refine srt_l ?_ ?_ (by rw [List.length_map]; exact Nat.le_trans (List.length_filter_le _ _) (by simp at l1; omega)) ?_ ?_
        · exact PySem.W.AllAlike.of fun a b => al_td a b
        · exact PySem.W.Sortable.tuples fun t => ⟨_, _, rfl⟩
        · intro d hd
          obtain ⟨t, _, rfl⟩ := List.mem_map.mp hd
          exact td_depth t
        · rw [sort_td]
          walk_at "s"
          exact h

theorem p_lprods {f g : List Tm} {m b c : Nat} (hf : ∀ t ∈ f, K3 m t ∧ Bt b t.2) (hg : ∀ t ∈ g, K3 m t ∧ Bt c t.2) (hs : b + c ≤ 134217728) (hl : f.length * g.length ≤ 1000000) (h : Q (.d (.tuple ((frm (prods f g)).map td)))) : sem fns (k + 2) 16 [.tuple (f.map td), .tuple (g.map td)] X Q := by
  refine sem_at rfl ⟨rfl, ?_⟩
  (simp only [b__law_product]; walk_at "s")
  refine for_at' (fun r ε => ∃ (pre rest : List Tm) (o3 o4 o5 o6 : Option Val), r = rest.map td ∧ f = pre ++ rest ∧ ε = [some (.d (.tuple (f.map td))), some (.d (.tuple (g.map td))), some (.own ((prods pre g).map td)), o3, o4, o5, o6]) ?_ ?_ _ _ ⟨[], f, none, none, none, none, rfl, rfl, rfl⟩
  · rintro x r ε ⟨pre, rest, o3, o4, o5, o6, hr, hp, rfl⟩ hnx
    cases rest with
    | nil => cases hr
    | cons t rest =>
      cases hr
      have mt : t ∈ f := by rw [hp]; exact List.mem_append_right _ (List.mem_cons_self ..)
      obtain ⟨⟨i, j, l, et, _⟩, bt⟩ := hf t mt
      have hpl : (pre.length + 1) * g.length ≤ f.length * g.length := Nat.mul_le_mul_right _ (by rw [hp]; simp)
      rw [Nat.succ_mul] at hpl
      simp only [td, et, List.map_cons, List.map_nil, b__law_product_2, ↓wE.eq_1, ↓wE.eq_2, ↓wE.eq_3, ↓wE.eq_4, ↓wE.eq_5, ↓wE.eq_6, ↓wE.eq_7, ↓wE.eq_8, ↓wE.eq_9, ↓wE.eq_10, ↓wE.eq_11, ↓wE.eq_12, ↓wE.eq_13, ↓wE.eq_14, ↓wE.eq_15, ↓wE.eq_16, ↓wE.eq_18, ↓wE.eq_19, ↓wE.eq_22, ↓wE.eq_23, ↓wE.eq_24, ↓wE.eq_25, ↓wE.eq_26, ↓wE.eq_27, ↓wE.eq_28, ↓wE.eq_29, ↓wE.eq_30, ↓wE.eq_31, ↓wE.eq_32, ↓wE.eq_34, ↓wE.eq_35, ↓wE.eq_36, ↓wE.eq_37, ↓wE.eq_38, ↓wE.eq_39, ↓wE.eq_40, ↓wE.eq_41, ↓wE_call, ↓wE_callP, ↓wE_lc, ↓wE_lcg, ↓wE_isv, ↓wE_ix, ↓ix_fr0, ↓ix_fr1, ↓cmp_fr, ↓cmp_frn, ↓cmp_fr0, ↓cmp_tz, ↓cmp_tzn, ↓cmp_tz0, ↓cmp_tzn0, ↓bi_list_tz, ↓add_tz,  ↓len_tz, ↓len_fr, ↓isT_fr, items_tz, ↓cmp_bb, ↓cmp_bbn, ↓wS_whl, ↓wS_for, ↓wS_forP, ↓wS_asg, ↓wS_par, ↓wS_setIx, ↓wS_app, ↓tgW_one, ↓tgW_tup, pvF_eq, ↓wS.eq_1, ↓wS.eq_2, ↓wS.eq_3, ↓wS.eq_5, ↓wS.eq_7, ↓wS.eq_10, ↓wS.eq_11, ↓wS.eq_12, ↓wS.eq_13, ↓wS.eq_14, ↓wS.eq_15, ↓wS.eq_16, ↓wS.eq_17, ↓wS.eq_20, ↓wS.eq_21, ↓wS.eq_22, ↓wS.eq_23, ↓wS.eq_24, ↓wS.eq_25, ↓wS.eq_26, ↓wS.eq_27, ↓wS.eq_28, ↓wS.eq_29, ↓wS.eq_30, ↓augW.eq_1, ↓augW.eq_2, ↓augW.eq_3, ↓augW.eq_4, ↓inW.eq_1, ↓inW.eq_2, ↓inW.eq_3, ↓inW.eq_4, ↓zipW.eq_1, ↓zipW.eq_2, ↓zipW.eq_3, ↓cntW.eq_1, ↓dspW.eq_1, ↓idxW.eq_1, ↓opW.eq_1, ↓opW.eq_2, ↓opW.eq_3, ↓opW.eq_4, ↓opW.eq_5, ↓opW.eq_6, ↓opW.eq_7, ↓opW.eq_8, ↓opW.eq_9, ↓opW.eq_10, ↓opW.eq_11, ↓opW.eq_12, ↓opW.eq_13, ↓opW.eq_14, ↓cmpW.eq_1, ↓cmpW.eq_2, ↓cmpW.eq_5, ↓cmpW.eq_6, ↓cmpW.eq_7, ↓cmpW.eq_8, ↓cmpW.eq_9, ↓cmpW.eq_10, ↓cmpW.eq_11, ↓cmpW.eq_12, ↓cmp_ll, ↓cmp_lln, ↓cmp_tt, ↓cmp_ttn, ↓biW.eq_1, ↓biW.eq_2, ↓biW.eq_3, ↓biW.eq_4, ↓biW.eq_5, ↓biW.eq_6, ↓biW.eq_7, ↓biW.eq_8, ↓biW.eq_9, ↓biW.eq_10, ↓biW.eq_11, ↓biW.eq_12, ↓biW.eq_13, ↓biW.eq_14, ↓biW.eq_15, ↓biW.eq_16, ↓biW.eq_17, ↓lenW.eq_1, ↓lenW.eq_2, ↓slW.eq_1, ↓slW.eq_2, ↓revW.eq_1, ↓revW.eq_2, ↓pkW_var, ↓ptW_nil, ↓ptK_i, ↓pkW_cst, ↓pkW_tup, ↓pkW_lst, ↓pkW_bin, ↓pkW_neg, ↓pkW_ix, ↓pkW_sl, ↓pkW_rev, ↓pkW_call, ↓pkW_callP, ↓pkW_bi, ↓pkW_len, ↓pkW_lc, ↓pkW_ite, ↓pkW_gc, ↓pkW_mov, ↓pkW_dsp, ↓pkW_bone, ↓pkW_cmp, ↓pkW_cnt, ↓ptW_cst, ↓ptW_tup, ↓ptW_lst, ↓ptW_bin, ↓ptW_neg, ↓ptW_ix, ↓ptW_sl, ↓ptW_rev, ↓ptW_call, ↓ptW_callP, ↓ptW_bi, ↓ptW_len, ↓ptW_lc, ↓ptW_ite, ↓ptW_gc, ↓ptW_mov, ↓ptW_dsp, ↓ptW_bone, ↓ptW_cmp, ↓ptW_cnt, ↓ptW_var, ↓peek, ↓ownAt, ↓kD.eq_1, ↓kD.eq_2, ↓kM.eq_1, ↓kB.eq_1, ↓kV.eq_1, ↓kV.eq_2, ↓setW, ↓rngW1.eq_1, ↓rngW2.eq_1, ↓rngWd.eq_1, isVar, isNil, isT, gv, pv, setAll, ev0, items.eq_1, items.eq_2, tgs, wipeE, blind_cons, blind_nil, bl1, runB, List.map_cons, List.map_nil, List.replicate, List.cons_append, List.nil_append, if_true, if_false, ite_true, ite_false, reduceCtorEq, Bool.true_and, Bool.and_true, Bool.not_true, Bool.not_false, Bool.false_eq_true, ↓reduceIte, Nat.reduceSub, Nat.reduceAdd, List.length_cons, List.length_nil, decide_eq_true_eq, Bool.not_eq_true', decide_eq_false_iff_not, Bool.and_false, Bool.false_and, true_and, and_true, Nat.sub_self, Nat.succ_eq_add_one, flat, Nat.reduceLeDiff, Int.reduceLE, Int.reduceLT, Int.reduceEq, ne_eq, not_false_eq_true, s10, la_2, la_3, la_4, la_5, la_6, la_7, la_8, la_9, la_10, la_11, la_12, la_13, la_14, la_15, la_16, la_18, la_19, la_20, la_21, la_24, la_25, la_28, la_30, la_35, la_36, la_39, la_40, la_41, la_44, la_45, la_49, la_50, la_52, la_54, la_57, la_63, la_64, la_65, la_72, la_78, la_81, la_90, la_100, la_121, la_123, la_125, la_126, la_144, la_162, la_168, la_176, la_196, la_200, la_216, la_240, la_360, la_369, la_400, la_402, la_441, la_540, la_550, la_900, la_907, la_997, la_1009, la_1100, la_1152, la_1440, la_1764, la_2001, la_2003, la_2200, la_3150, la_4099, la_16807, la_22500, la_24200, la_72600, Nat.reduceLT, ↓ix_t0, ↓ix_t1, ↓ix_t2, ↓ix_t3, ↓ix_t4, ↓ix_t5, ↓ix_t6, ↓ix_l0, ↓ix_l1, ↓ix_l2, ↓ix_l3, ↓ix_l4, ↓ix_l5, ↓ix_l6, ↓add_ttz, ↓isT_tz, ↓sl_tz, isN_non, isN_tup, isN_lst, isN_int, isN_str, isN_bl, isN_fr, isN_tz, ↓hS.eq_1, ↓hS.eq_2, ↓hS.eq_3, ↓hS.eq_4, hE, hB, ↓hide.eq_1, ↓hide.eq_2, isS, Nat.reduceBEq, Bool.or_true, Bool.or_false, Bool.true_or, Bool.false_or, beq_self_eq_true, not_true_eq_false, Int.cast_ofNat_Int, ↓wE_callL, ↓wE_callLP, ↓kR_d, ↓kR_o, ↓kT_twoO, ↓kTP_two, ↓kTP_twoO, ↓pkW_callLP, ↓wE_lemp, ↓wE_lix, ↓wE_lpop0, ↓wE_lcL, ↓wE_lcK, ↓pkW_lcK, ↓kT_two, ↓lentAt, unlend_nil, unlend_cons, ul1_n, ul1_d, ul1_o, ul1_l, ↓wS_lend, ↓wS_lfn, ↓wS_retL, ↓wS_lset, ↓wS_asgN, ↓tgW_nst, noTwo_d, noTwo_o, ↓pkW_callL, ↓pkW_lix, ↓pkW_lemp, ↓pkW_lpop0, ↓pkW_lcL, ↓ptW_callL, ↓ptW_lix, ↓wE_lit, ↓pkW_lit, ↓ptW_lit, ↓cmp_geT, ↓wE_dget, ↓wE_dix, ↓wE_dsrt, ↓wE_dlc, ↓wE_lcD, ↓wE_srt, ↓wS_dnewT, ↓wS_dnewI, ↓wS_dset, ↓dictAt, itemsD_I, itemsD_T, ↓pkW_dget, ↓ptW_dget, ↓pkW_dix, ↓ptW_dix, ↓pkW_dsrt, ↓ptW_dsrt, ↓pkW_dlc, ↓ptW_dlc, ↓pkW_lcD, ↓ptW_lcD, ↓pkW_srt, ↓ptW_srt, ↓wE_callF, ↓kF_o, ↓wE_rvl, ↓rvlK_l, ↓wE_lset, ↓lsetK_l, ↓wE_emp, ↓wE_lcO, ↓pkW_lcO, ↓ptW_lcO, hTx, ↓hS.eq_5, ↓pkW_callF, ↓ptW_callF, ↓pkW_rvl, ↓ptW_rvl, ↓pkW_lset, ↓ptW_lset, ↓pkW_emp, ↓ptW_emp]
      refine for_at' (fun r ε => ∃ (pr re : List Tm) (o5 o6 : Option Val), r = re.map td ∧ g = pr ++ re ∧ ε = [some (.d (.tuple (f.map td))), some (.d (.tuple (g.map td))), some (.own ((prods pre g ++ pr.map fun b => (addk t.1 b.1, t.2 * b.2)).map td)), some (.d (.tuple [.int (i : Int), .int (j : Int), .int (l : Int)])), some (.d (.int t.2)), o5, o6]) ?_ ?_ _ _ ⟨[], g, o5, o6, rfl, rfl, by rw [List.map_nil, List.append_nil]⟩
      · rintro x2 r2 ε ⟨pr, re, o5, o6, hr2, hp2, rfl⟩ hnx2
        cases re with
        | nil => cases hr2
        | cons s re =>
          cases hr2
          have ms : s ∈ g := by rw [hp2]; exact List.mem_append_right _ (List.mem_cons_self ..)
          obtain ⟨⟨i', j', l', es, _⟩, bs⟩ := hg s ms
          simp only [td, es, List.map_cons, List.map_nil, b__law_product_1, ↓wE.eq_1, ↓wE.eq_2, ↓wE.eq_3, ↓wE.eq_4, ↓wE.eq_5, ↓wE.eq_6, ↓wE.eq_7, ↓wE.eq_8, ↓wE.eq_9, ↓wE.eq_10, ↓wE.eq_11, ↓wE.eq_12, ↓wE.eq_13, ↓wE.eq_14, ↓wE.eq_15, ↓wE.eq_16, ↓wE.eq_18, ↓wE.eq_19, ↓wE.eq_22, ↓wE.eq_23, ↓wE.eq_24, ↓wE.eq_25, ↓wE.eq_26, ↓wE.eq_27, ↓wE.eq_28, ↓wE.eq_29, ↓wE.eq_30, ↓wE.eq_31, ↓wE.eq_32, ↓wE.eq_34, ↓wE.eq_35, ↓wE.eq_36, ↓wE.eq_37, ↓wE.eq_38, ↓wE.eq_39, ↓wE.eq_40, ↓wE.eq_41, ↓wE_call, ↓wE_callP, ↓wE_lc, ↓wE_lcg, ↓wE_isv, ↓wE_ix, ↓ix_fr0, ↓ix_fr1, ↓cmp_fr, ↓cmp_frn, ↓cmp_fr0, ↓cmp_tz, ↓cmp_tzn, ↓cmp_tz0, ↓cmp_tzn0, ↓bi_list_tz, ↓add_tz,  ↓len_tz, ↓len_fr, ↓isT_fr, items_tz, ↓cmp_bb, ↓cmp_bbn, ↓wS_whl, ↓wS_for, ↓wS_forP, ↓wS_asg, ↓wS_par, ↓wS_setIx, ↓wS_app, ↓tgW_one, ↓tgW_tup, pvF_eq, ↓wS.eq_1, ↓wS.eq_2, ↓wS.eq_3, ↓wS.eq_5, ↓wS.eq_7, ↓wS.eq_10, ↓wS.eq_11, ↓wS.eq_12, ↓wS.eq_13, ↓wS.eq_14, ↓wS.eq_15, ↓wS.eq_16, ↓wS.eq_17, ↓wS.eq_20, ↓wS.eq_21, ↓wS.eq_22, ↓wS.eq_23, ↓wS.eq_24, ↓wS.eq_25, ↓wS.eq_26, ↓wS.eq_27, ↓wS.eq_28, ↓wS.eq_29, ↓wS.eq_30, ↓augW.eq_1, ↓augW.eq_2, ↓augW.eq_3, ↓augW.eq_4, ↓inW.eq_1, ↓inW.eq_2, ↓inW.eq_3, ↓inW.eq_4, ↓zipW.eq_1, ↓zipW.eq_2, ↓zipW.eq_3, ↓cntW.eq_1, ↓dspW.eq_1, ↓idxW.eq_1, ↓opW.eq_1, ↓opW.eq_2, ↓opW.eq_3, ↓opW.eq_4, ↓opW.eq_5, ↓opW.eq_6, ↓opW.eq_7, ↓opW.eq_8, ↓opW.eq_9, ↓opW.eq_10, ↓opW.eq_11, ↓opW.eq_12, ↓opW.eq_13, ↓opW.eq_14, ↓cmpW.eq_1, ↓cmpW.eq_2, ↓cmpW.eq_5, ↓cmpW.eq_6, ↓cmpW.eq_7, ↓cmpW.eq_8, ↓cmpW.eq_9, ↓cmpW.eq_10, ↓cmpW.eq_11, ↓cmpW.eq_12, ↓cmp_ll, ↓cmp_lln, ↓cmp_tt, ↓cmp_ttn, ↓biW.eq_1, ↓biW.eq_2, ↓biW.eq_3, ↓biW.eq_4, ↓biW.eq_5, ↓biW.eq_6, ↓biW.eq_7, ↓biW.eq_8, ↓biW.eq_9, ↓biW.eq_10, ↓biW.eq_11, ↓biW.eq_12, ↓biW.eq_13, ↓biW.eq_14, ↓biW.eq_15, ↓biW.eq_16, ↓biW.eq_17, ↓lenW.eq_1, ↓lenW.eq_2, ↓slW.eq_1, ↓slW.eq_2, ↓revW.eq_1, ↓revW.eq_2, ↓pkW_var, ↓ptW_nil, ↓ptK_i, ↓pkW_cst, ↓pkW_tup, ↓pkW_lst, ↓pkW_bin, ↓pkW_neg, ↓pkW_ix, ↓pkW_sl, ↓pkW_rev, ↓pkW_call, ↓pkW_callP, ↓pkW_bi, ↓pkW_len, ↓pkW_lc, ↓pkW_ite, ↓pkW_gc, ↓pkW_mov, ↓pkW_dsp, ↓pkW_bone, ↓pkW_cmp, ↓pkW_cnt, ↓ptW_cst, ↓ptW_tup, ↓ptW_lst, ↓ptW_bin, ↓ptW_neg, ↓ptW_ix, ↓ptW_sl, ↓ptW_rev, ↓ptW_call, ↓ptW_callP, ↓ptW_bi, ↓ptW_len, ↓ptW_lc, ↓ptW_ite, ↓ptW_gc, ↓ptW_mov, ↓ptW_dsp, ↓ptW_bone, ↓ptW_cmp, ↓ptW_cnt, ↓ptW_var, ↓peek, ↓ownAt, ↓kD.eq_1, ↓kD.eq_2, ↓kM.eq_1, ↓kB.eq_1, ↓kV.eq_1, ↓kV.eq_2, ↓setW, ↓rngW1.eq_1, ↓rngW2.eq_1, ↓rngWd.eq_1, isVar, isNil, isT, gv, pv, setAll, ev0, items.eq_1, items.eq_2, tgs, wipeE, blind_cons, blind_nil, bl1, runB, List.map_cons, List.map_nil, List.replicate, List.cons_append, List.nil_append, if_true, if_false, ite_true, ite_false, reduceCtorEq, Bool.true_and, Bool.and_true, Bool.not_true, Bool.not_false, Bool.false_eq_true, ↓reduceIte, Nat.reduceSub, Nat.reduceAdd, List.length_cons, List.length_nil, decide_eq_true_eq, Bool.not_eq_true', decide_eq_false_iff_not, Bool.and_false, Bool.false_and, true_and, and_true, Nat.sub_self, Nat.succ_eq_add_one, flat, Nat.reduceLeDiff, Int.reduceLE, Int.reduceLT, Int.reduceEq, ne_eq, not_false_eq_true, s10, la_2, la_3, la_4, la_5, la_6, la_7, la_8, la_9, la_10, la_11, la_12, la_13, la_14, la_15, la_16, la_18, la_19, la_20, la_21, la_24, la_25, la_28, la_30, la_35, la_36, la_39, la_40, la_41, la_44, la_45, la_49, la_50, la_52, la_54, la_57, la_63, la_64, la_65, la_72, la_78, la_81, la_90, la_100, la_121, la_123, la_125, la_126, la_144, la_162, la_168, la_176, la_196, la_200, la_216, la_240, la_360, la_369, la_400, la_402, la_441, la_540, la_550, la_900, la_907, la_997, la_1009, la_1100, la_1152, la_1440, la_1764, la_2001, la_2003, la_2200, la_3150, la_4099, la_16807, la_22500, la_24200, la_72600, Nat.reduceLT, ↓ix_t0, ↓ix_t1, ↓ix_t2, ↓ix_t3, ↓ix_t4, ↓ix_t5, ↓ix_t6, ↓ix_l0, ↓ix_l1, ↓ix_l2, ↓ix_l3, ↓ix_l4, ↓ix_l5, ↓ix_l6, ↓add_ttz, ↓isT_tz, ↓sl_tz, isN_non, isN_tup, isN_lst, isN_int, isN_str, isN_bl, isN_fr, isN_tz, ↓hS.eq_1, ↓hS.eq_2, ↓hS.eq_3, ↓hS.eq_4, hE, hB, ↓hide.eq_1, ↓hide.eq_2, isS, Nat.reduceBEq, Bool.or_true, Bool.or_false, Bool.true_or, Bool.false_or, beq_self_eq_true, not_true_eq_false, Int.cast_ofNat_Int, ↓wE_callL, ↓wE_callLP, ↓kR_d, ↓kR_o, ↓kT_twoO, ↓kTP_two, ↓kTP_twoO, ↓pkW_callLP, ↓wE_lemp, ↓wE_lix, ↓wE_lpop0, ↓wE_lcL, ↓wE_lcK, ↓pkW_lcK, ↓kT_two, ↓lentAt, unlend_nil, unlend_cons, ul1_n, ul1_d, ul1_o, ul1_l, ↓wS_lend, ↓wS_lfn, ↓wS_retL, ↓wS_lset, ↓wS_asgN, ↓tgW_nst, noTwo_d, noTwo_o, ↓pkW_callL, ↓pkW_lix, ↓pkW_lemp, ↓pkW_lpop0, ↓pkW_lcL, ↓ptW_callL, ↓ptW_lix, ↓wE_lit, ↓pkW_lit, ↓ptW_lit, ↓cmp_geT, ↓wE_dget, ↓wE_dix, ↓wE_dsrt, ↓wE_dlc, ↓wE_lcD, ↓wE_srt, ↓wS_dnewT, ↓wS_dnewI, ↓wS_dset, ↓dictAt, itemsD_I, itemsD_T, ↓pkW_dget, ↓ptW_dget, ↓pkW_dix, ↓ptW_dix, ↓pkW_dsrt, ↓ptW_dsrt, ↓pkW_dlc, ↓ptW_dlc, ↓pkW_lcD, ↓ptW_lcD, ↓pkW_srt, ↓ptW_srt, ↓wE_callF, ↓kF_o, ↓wE_rvl, ↓rvlK_l, ↓wE_lset, ↓lsetK_l, ↓wE_emp, ↓wE_lcO, ↓pkW_lcO, ↓ptW_lcO, hTx, ↓hS.eq_5, ↓pkW_callF, ↓ptW_callF, ↓pkW_rvl, ↓ptW_rvl, ↓pkW_lset, ↓ptW_lset, ↓pkW_emp, ↓ptW_emp]
          refine ⟨mulOk_of bt bs hs, ?_, ?_⟩
          · rw [List.length_map, List.length_append, List.length_map]
            have e1 := prods_len pre g
            have e2 : pr.length < g.length := by rw [hp2, List.length_append]; simp
            omega
          · have eL : (prods pre g ++ pr.map fun b => (addk t.1 b.1, t.2 * b.2)).map td ++ [PyData.tuple [.tuple [.int ((i : Int) + i'), .int ((j : Int) + j'), .int ((l : Int) + l')], .int (t.2 * s.2)]] = (prods pre g ++ (pr ++ [s]).map fun b => (addk t.1 b.1, t.2 * b.2)).map td := by
              rw [List.map_append (l₁ := pr), ← List.append_assoc, List.map_append (l₁ := prods pre g ++ _)]
              simp [td, et, es, addk]
            rw [eL]
            exact hnx2 _ ⟨pr ++ [s], re, _, _, rfl, by rw [hp2, List.append_assoc]; rfl, rfl⟩
      · rintro ε ⟨pr, re, o5, o6, hr2, hp2, rfl⟩
        cases re with
        | cons _ _ => cases hr2
        | nil =>
          rw [List.append_nil] at hp2
          subst hp2
          walk_at "s"
          rw [show prods pre g ++ g.map (fun b => (addk t.1 b.1, t.2 * b.2)) = prods (pre ++ [t]) g by unfold prods; rw [List.flatMap_append]; simp]
          exact hnx _ ⟨pre ++ [t], rest, _, _, _, _, rfl, by rw [hp, List.append_assoc]; rfl, rfl⟩
  · rintro ε ⟨pre, rest, o3, o4, o5, o6, hr, hp, rfl⟩
    cases rest with
    | cons _ _ => cases hr
    | nil =>
      rw [List.append_nil] at hp
      subst hp
      (simp only [b__law_product_3]; walk_at "s")
      refine p_lfsum (ts := prods f g) rfl ?_ ?_
      · rw [prods_len]; exact hl
      walk_at "s"
      exact h

end
end K33

namespace K33
open PySem Rc
local macro_rules | `(tactic| walk_at "s") => `(tactic| simp only [↓wE.eq_1, ↓wE.eq_2, ↓wE.eq_3, ↓wE.eq_4, ↓wE.eq_5, ↓wE.eq_6, ↓wE.eq_7, ↓wE.eq_8, ↓wE.eq_9, ↓wE.eq_10, ↓wE.eq_11, ↓wE.eq_12, ↓wE.eq_13, ↓wE.eq_14, ↓wE.eq_15, ↓wE.eq_16, ↓wE.eq_18, ↓wE.eq_19, ↓wE.eq_22, ↓wE.eq_23, ↓wE.eq_24, ↓wE.eq_25, ↓wE.eq_26, ↓wE.eq_27, ↓wE.eq_28, ↓wE.eq_29, ↓wE.eq_30, ↓wE.eq_31, ↓wE.eq_32, ↓wE.eq_34, ↓wE.eq_35, ↓wE.eq_36, ↓wE.eq_37, ↓wE.eq_38, ↓wE.eq_39, ↓wE.eq_40, ↓wE.eq_41, ↓wE_call, ↓wE_callP, ↓wE_lc, ↓wE_lcg, ↓wE_isv, ↓wE_ix, ↓ix_fr0, ↓ix_fr1, ↓cmp_fr, ↓cmp_frn, ↓cmp_fr0, ↓cmp_tz, ↓cmp_tzn, ↓cmp_tz0, ↓cmp_tzn0, ↓bi_list_tz, ↓add_tz,   ↓len_tz, ↓len_fr, ↓isT_fr, items_tz, ↓cmp_bb, ↓cmp_bbn, ↓wS_whl, ↓wS_for, ↓wS_forP, ↓wS_asg, ↓wS_par, ↓wS_setIx, ↓wS_app, ↓tgW_one, ↓tgW_tup, pvF_eq, ↓wS.eq_1, ↓wS.eq_2, ↓wS.eq_3, ↓wS.eq_5, ↓wS.eq_7, ↓wS.eq_10, ↓wS.eq_11, ↓wS.eq_12, ↓wS.eq_13, ↓wS.eq_14, ↓wS.eq_15, ↓wS.eq_16, ↓wS.eq_17, ↓wS.eq_20, ↓wS.eq_21, ↓wS.eq_22, ↓wS.eq_23, ↓wS.eq_24, ↓wS.eq_25, ↓wS.eq_26, ↓wS.eq_27, ↓wS.eq_28, ↓wS.eq_29, ↓wS.eq_30, ↓augW.eq_1, ↓augW.eq_2, ↓augW.eq_3, ↓augW.eq_4, ↓inW.eq_1, ↓inW.eq_2, ↓inW.eq_3, ↓inW.eq_4, ↓zipW.eq_1, ↓zipW.eq_2, ↓zipW.eq_3, ↓cntW.eq_1, ↓dspW.eq_1, ↓idxW.eq_1, ↓opW.eq_1, ↓opW.eq_2, ↓opW.eq_3, ↓opW.eq_4, ↓opW.eq_5, ↓opW.eq_6, ↓opW.eq_7, ↓opW.eq_8, ↓opW.eq_9, ↓opW.eq_10, ↓opW.eq_11, ↓opW.eq_12, ↓opW.eq_13, ↓opW.eq_14, ↓cmpW.eq_1, ↓cmpW.eq_2, ↓cmpW.eq_5, ↓cmpW.eq_6, ↓cmpW.eq_7, ↓cmpW.eq_8, ↓cmpW.eq_9, ↓cmpW.eq_10, ↓cmpW.eq_11, ↓cmpW.eq_12, ↓cmp_ll, ↓cmp_lln, ↓cmp_tt, ↓cmp_ttn, ↓biW.eq_1, ↓biW.eq_2, ↓biW.eq_3, ↓biW.eq_4, ↓biW.eq_5, ↓biW.eq_6, ↓biW.eq_7, ↓biW.eq_8, ↓biW.eq_9, ↓biW.eq_10, ↓biW.eq_11, ↓biW.eq_12, ↓biW.eq_13, ↓biW.eq_14, ↓biW.eq_15, ↓biW.eq_16, ↓biW.eq_17, ↓lenW.eq_1, ↓lenW.eq_2, ↓slW.eq_1, ↓slW.eq_2, ↓revW.eq_1, ↓revW.eq_2, ↓pkW_var, ↓ptW_nil, ↓ptK_i, ↓pkW_cst, ↓pkW_tup, ↓pkW_lst, ↓pkW_bin, ↓pkW_neg, ↓pkW_ix, ↓pkW_sl, ↓pkW_rev, ↓pkW_call, ↓pkW_callP, ↓pkW_bi, ↓pkW_len, ↓pkW_lc, ↓pkW_ite, ↓pkW_gc, ↓pkW_mov, ↓pkW_dsp, ↓pkW_bone, ↓pkW_cmp, ↓pkW_cnt, ↓ptW_cst, ↓ptW_tup, ↓ptW_lst, ↓ptW_bin, ↓ptW_neg, ↓ptW_ix, ↓ptW_sl, ↓ptW_rev, ↓ptW_call, ↓ptW_callP, ↓ptW_bi, ↓ptW_len, ↓ptW_lc, ↓ptW_ite, ↓ptW_gc, ↓ptW_mov, ↓ptW_dsp, ↓ptW_bone, ↓ptW_cmp, ↓ptW_cnt, ↓ptW_var, ↓peek, ↓ownAt, ↓kD.eq_1, ↓kD.eq_2, ↓kM.eq_1, ↓kB.eq_1, ↓kV.eq_1, ↓kV.eq_2, ↓setW, ↓rngW1.eq_1, ↓rngW2.eq_1, ↓rngWd.eq_1, isVar, isNil, isT, gv, pv, setAll, ev0, items.eq_1, items.eq_2, tgs, wipeE, blind_cons, blind_nil, bl1, runB, List.map_cons, List.map_nil, List.replicate, List.cons_append, List.nil_append, if_true, if_false, ite_true, ite_false, reduceCtorEq, Bool.true_and, Bool.and_true, Bool.not_true, Bool.not_false, Bool.false_eq_true, ↓reduceIte, Nat.reduceSub, Nat.reduceAdd, List.length_cons, List.length_nil, decide_eq_true_eq, Bool.not_eq_true', decide_eq_false_iff_not, Bool.and_false, Bool.false_and, true_and, and_true, Nat.sub_self, Nat.succ_eq_add_one, flat, Nat.reduceLeDiff, Int.reduceLE, Int.reduceLT, Int.reduceEq, ne_eq, not_false_eq_true, s10, la_2, la_3, la_4, la_5, la_6, la_7, la_8, la_9, la_10, la_11, la_12, la_13, la_14, la_15, la_16, la_18, la_19, la_20, la_21, la_24, la_25, la_28, la_30, la_35, la_36, la_39, la_40, la_41, la_44, la_45, la_49, la_50, la_52, la_54, la_57, la_63, la_64, la_65, la_72, la_78, la_81, la_90, la_100, la_121, la_123, la_125, la_126, la_144, la_162, la_168, la_176, la_196, la_200, la_216, la_240, la_360, la_369, la_400, la_402, la_441, la_540, la_550, la_900, la_907, la_997, la_1009, la_1100, la_1152, la_1440, la_1764, la_2001, la_2003, la_2200, la_3150, la_4099, la_16807, la_22500, la_24200, la_72600, Nat.reduceLT, ↓ix_t0, ↓ix_t1, ↓ix_t2, ↓ix_t3, ↓ix_t4, ↓ix_t5, ↓ix_t6, ↓ix_l0, ↓ix_l1, ↓ix_l2, ↓ix_l3, ↓ix_l4, ↓ix_l5, ↓ix_l6, ↓add_ttz, ↓isT_tz, ↓sl_tz, isN_non, isN_tup, isN_lst, isN_int, isN_str, isN_bl, isN_fr, isN_tz, ↓hS.eq_1, ↓hS.eq_2, ↓hS.eq_3, ↓hS.eq_4, hE, hB, ↓hide.eq_1, ↓hide.eq_2, isS, Nat.reduceBEq, Bool.or_true, Bool.or_false, Bool.true_or, Bool.false_or, beq_self_eq_true, not_true_eq_false, Int.cast_ofNat_Int, ↓wE_callL, ↓wE_callLP, ↓kR_d, ↓kR_o, ↓kT_twoO, ↓kTP_two, ↓kTP_twoO, ↓pkW_callLP, ↓wE_lemp, ↓wE_lix, ↓wE_lpop0, ↓wE_lcL, ↓wE_lcK, ↓pkW_lcK, ↓kT_two, ↓lentAt, unlend_nil, unlend_cons, ul1_n, ul1_d, ul1_o, ul1_l, ↓wS_lend, ↓wS_lfn, ↓wS_retL, ↓wS_lset, ↓wS_asgN, ↓tgW_nst, noTwo_d, noTwo_o, ↓pkW_callL, ↓pkW_lix, ↓pkW_lemp, ↓pkW_lpop0, ↓pkW_lcL, ↓ptW_callL, ↓ptW_lix, ↓wE_lit, ↓pkW_lit, ↓ptW_lit, ↓cmp_geT, ↓wE_dget, ↓wE_dix, ↓wE_dsrt, ↓wE_dlc, ↓wE_lcD, ↓wE_srt, ↓wS_dnewT, ↓wS_dnewI, ↓wS_dset, ↓dictAt, itemsD_I, itemsD_T, ↓pkW_dget, ↓ptW_dget, ↓pkW_dix, ↓ptW_dix, ↓pkW_dsrt, ↓ptW_dsrt, ↓pkW_dlc, ↓ptW_dlc, ↓pkW_lcD, ↓ptW_lcD, ↓pkW_srt, ↓ptW_srt, ↓wE_callF, ↓kF_o, ↓wE_rvl, ↓rvlK_l, ↓wE_lset, ↓lsetK_l, ↓wE_emp, ↓wE_lcO, ↓pkW_lcO, ↓ptW_lcO, hTx, ↓hS.eq_5, ↓pkW_callF, ↓ptW_callF, ↓pkW_rvl, ↓ptW_rvl, ↓pkW_lset, ↓ptW_lset, ↓pkW_emp, ↓ptW_emp])
section
variable {k : Nat} {X : Nat → Prop} {Q : Val → Prop}

theorem lc_cons {t : Tg} {ε : Ev} {E : Ev → (D → Ev → Prop) → Prop} {K : List D → Prop} {q : Tok ((fun ε2 k => k true ε2 : Ev → (Bool → Ev → Prop) → Prop), E, K)} {x : D} {r acc : List D}
    (h : tgW t x (wipeE (blind ε) (tgs t)) fun ε1 => E ε1 fun y _ => acc.length < 16777216 ∧ lcF t (fun ε2 k => k true ε2) E K q ε r (acc ++ [y])) : lcF t (fun ε2 k => k true ε2) E K q ε (x :: r) acc := h
theorem lc_nil {t : Tg} {ε : Ev} {E : Ev → (D → Ev → Prop) → Prop} {K : List D → Prop} {q : Tok ((fun ε2 k => k true ε2 : Ev → (Bool → Ev → Prop) → Prop), E, K)} {acc : List D} (h : K acc) : lcF t (fun ε2 k => k true ε2) E K q ε [] acc := h
/-- the greatest power -/
def mxp (n : Nat) : List Tm → Nat
  | [] => 0
  | t :: r => max (t.1.getD n 0).toNat (mxp n r)
theorem mxp_le {n m : Nat} : ∀ {f : List Tm}, (∀ t ∈ f, (t.1.getD n 0).toNat ≤ m) → mxp n f ≤ m
  | [], _ => Nat.zero_le _
  | t :: r, h => by
    have h1 := h t (List.mem_cons_self ..)
    have h2 := mxp_le (n := n) fun s hs => h s (List.mem_cons_of_mem _ hs)
    show max _ _ ≤ m
    omega
theorem mxp_ge {n : Nat} : ∀ {f : List Tm} {t : Tm}, t ∈ f → (t.1.getD n 0).toNat ≤ mxp n f
  | [], _, h => absurd h List.not_mem_nil
  | s :: r, t, h => by
    show _ ≤ max _ _
    rcases List.mem_cons.mp h with rfl | h
    · omega
    · have := mxp_ge (n := n) h; omega
theorem mxp_mem {n : Nat} : ∀ {f : List Tm}, (∀ t ∈ f, 0 ≤ t.1.getD n 0) → ((mxp n f : Nat) : Int) ∈ (0 :: f.map fun t => t.1.getD n 0)
  | [], _ => List.mem_cons_self ..
  | t :: r, h => by
    have h1 := h t (List.mem_cons_self ..)
    have ih := mxp_mem (n := n) fun s hs => h s (List.mem_cons_of_mem _ hs)
    show ((max (t.1.getD n 0).toNat (mxp n r) : Nat) : Int) ∈ _
    rw [List.map_cons]
    by_cases c : mxp n r ≤ (t.1.getD n 0).toNat
    · rw [Nat.max_eq_left c, Int.toNat_of_nonneg h1]
      exact List.mem_cons_of_mem _ (List.mem_cons_self ..)
    · rw [Nat.max_eq_right (by omega)]
      rcases List.mem_cons.mp ih with e | ih
      · rw [e]; exact List.mem_cons_self ..
      · exact List.mem_cons_of_mem _ (List.mem_cons_of_mem _ ih)
theorem asInts_m (xs : List Int) : asInts (xs.map PyData.int) = some xs := by
  induction xs with
  | nil => rfl
  | cons x r ih => show (asInts (r.map PyData.int)).map (x :: ·) = _; rw [ih]; rfl
theorem fmod_lt {x y : Int} (h : y ≠ 0) : (x.fmod y).natAbs < y.natAbs := by
  have h1 := Int.emod_nonneg x h
  have h2 := Int.emod_lt x h
  rw [Int.fmod_eq_emod]
  split
  · omega
  · rename_i hn
    have : x % y ≠ 0 := fun e => hn (.inr (Int.dvd_of_emod_eq_zero e))
    have : ¬ 0 ≤ y := fun z => hn (.inl z)
    omega
theorem gcd_fmod (x y : Int) : Int.gcd y (x.fmod y) = Int.gcd x y := by
  have e : x.fmod y = x - y * x.fdiv y := by
    have := Int.mul_fdiv_add_fmod x y
    omega
  rw [e, Int.gcd_sub_mul_left_right, Int.gcd_comm]
theorem p_lfraction {xs : List D} (hs : Dr xs) (h : ∀ q ys, Sz 42 q → Dr ys → Q (.two (fr q) ys)) : sem fns (k + 2) 17 [.list xs] X Q := by
  refine sem_at rfl ⟨rfl, ?_⟩
  have e12 : (10 : Int) ^ Int.toNat 12 = 1000000000000 := by decide +kernel
  (simp only [b__law_fraction]; walk_at "s")
  refine p_lnext (by decide) hs fun r ys r0 r1 hs1 => ?_
  walk_at "s"
  rw [e12]
  repeat (refine And.intro (by first | exact small10 | decide | decide +kernel) ?_)
  refine p_lnext (by decide) hs1 fun r2 ys2 r20 r21 hs2 => ?_
  walk_at "s"
  refine p_lnext (by decide) hs2 fun r3 ys3 r30 r31 hs3 => ?_
  walk_at "s"
  refine ix_in r30 (by simpa using r31) fun v hv => ?_
  obtain ⟨x, rfl, x0, x1⟩ : ∃ x : Int, v = .int x ∧ 0 ≤ x ∧ x < 1000000000000 := by
    simp only [List.mem_cons, List.not_mem_nil, or_false] at hv
    rcases hv with rfl | rfl | rfl
    · exact ⟨0, rfl, by decide, by decide⟩
    · exact ⟨r, rfl, r0, by omega⟩
    · exact ⟨r2, rfl, r20, r21⟩
  walk_at "s"
  refine p_lnext (by decide) hs3 fun r4 ys4 r40 r41 hs4 => ?_
  walk_at "s"
  rw [e12]
  repeat (refine And.intro (by first | exact small10 | decide | decide +kernel) ?_)
  refine ⟨mulOk_l (by unfold small64; decide), ?_⟩
  refine p_lnext (by decide) hs4 fun r5 ys5 r50 r51 hs5 => ?_
  walk_at "s"
  rw [e12]
  repeat (refine And.intro (by first | exact small10 | decide | decide +kernel) ?_)
  refine p_lnext (by decide) hs5 fun r6 ys6 r60 r61 hs6 => ?_
  walk_at "s"
  refine ix_in r60 (by simpa using r61) fun v hv => ?_
  obtain ⟨y, rfl, y1⟩ : ∃ y : Int, v = .int y ∧ Bt 42 y := by
    simp only [List.mem_cons, List.not_mem_nil, or_false] at hv
    rcases hv with rfl | rfl
    · exact ⟨_, rfl, by unfold Bt; omega⟩
    · exact ⟨_, rfl, by unfold Bt; omega⟩
  walk_at "s"
  have b0 : 1 + x ≠ 0 := by omega
  have bS : Bt 42 (1 + x) := by unfold Bt; omega
  refine whl_at' (fun m ε => ∃ u w : Int, ε = [some (.lent ys6), some (.d (.int (1 + x))), some (.d (.int y)), some (.d (.int u)), some (.d (.int w))] ∧ 0 ≤ w ∧ 0 ≤ u ∧ Int.gcd u w = Int.gcd y (1 + x) ∧ m = w.natAbs) _ ⟨_, _, rfl, by omega, by omega, ?_, rfl⟩ ?_
  · rw [absI]
    unfold Int.gcd
    simp
  rintro m ε1 ⟨u, w, rfl, w0, u0, hg, rfl⟩
  (simp only [c__law_fraction_1, b__law_fraction_2, b__law_fraction_3]; walk_at "s")
  split
  · rename_i hw
    refine ⟨by omega, (u.fmod w).natAbs, fmod_lt (by omega), _, _, rfl, ?_, w0, by rw [← hg, gcd_fmod], rfl⟩
    rw [fmod_pos hw]; exact Int.emod_nonneg _ (by omega)
  · have w00 : w = 0 := by omega
    subst w00
    rw [Int.gcd_zero_right] at hg
    have hu : u = (Int.gcd y (1 + x) : Int) := by omega
    have g0 := gsg0 (t := y) b0
    have e1 := fr_num (t := y) b0
    have e2 := fr_den (t := y) b0
    unfold gsg at g0 e1 e2
    rw [if_neg (by omega), ← hu] at g0 e1 e2
    refine ⟨g0, g0, ?_⟩
    rw [e1, e2]
    exact h _ _ (sz_divInt b0 y1 bS) hs6
theorem p_lis {V : Rat} {top bot : Int} (tB : Bt 2000000 top) (bB : Bt 2000000 bot) (vB : Sz 2000000 V) (hV : (top : Rat) = V * (bot : Rat)) (h : Q (.d (.bool true))) : sem fns (k + 1) 19 [fr V, .int top, .int bot] X Q := by
  refine sem_at rfl ⟨rfl, ?_⟩
  (simp only [b__law_is]; walk_at "s")
  show lcF _ (fun ε2 k_1 => k_1 true ε2) _ _ _ _ [PyData.int V.num, PyData.int (V.den : Int)] []
  refine lc_cons ?_
  (simp only [e__law_is_1]; walk_at "s")
  refine lc_cons ?_
  walk_at "s"
  refine lc_nil ?_
  walk_at "s"
  refine ⟨[true, true], rfl, ?_⟩
  rw [if_neg (by decide)]
  have dp := V.den_pos
  refine whl_at' (fun m ε => ∃ u w : Int, ε = [some (.d (fr V)), some (.d (.int top)), some (.d (.int bot)), none, some (.d (.int u)), some (.d (.int w))] ∧ 0 ≤ w ∧ 0 ≤ u ∧ Int.gcd u w = 1 ∧ m = w.natAbs) _ ⟨_, _, rfl, by omega, by omega, ?_, rfl⟩ ?_
  · rw [absI]
    have := V.reduced
    unfold Int.gcd
    simpa using this
  rintro m ε1 ⟨u, w, rfl, w0, u0, hg, rfl⟩
  (simp only [c__law_is_2, b__law_is_3, b__law_is_4]; walk_at "s")
  split
  · rename_i hw
    refine ⟨by omega, (u.fmod w).natAbs, fmod_lt (by omega), _, _, rfl, ?_, w0, by rw [← hg, gcd_fmod], rfl⟩
    rw [fmod_pos hw]; exact Int.emod_nonneg _ (by omega)
  · have w00 : w = 0 := by omega
    subst w00
    rw [Int.gcd_zero_right] at hg
    have hu : u = 1 := by omega
    have e : V.num * bot = top * (V.den : Int) := by
      refine Rat.intCast_inj.mp ?_
      rw [Rat.intCast_mul, Rat.intCast_mul, hV, num_eq]
      have : (((V.den : Int)) : Rat) = ((V.den : Nat) : Rat) := rfl
      rw [this]
      grind
    rw [if_pos (by omega), if_pos hu]
    refine ⟨mulOk_of vB.1 bB (by omega), mulOk_of tB vB.2 (by omega), ?_⟩
    rw [e, decide_eq_true rfl]
    exact h
theorem lv_pow {c0 c4 c6 o8 c9 : Option Val} {ats ms ps : List D} {kk part : Int} {p m A : Nat} {q : Rat} {E : En} (h1 : L2.atI ats kk = some (fr q)) (h2 : L2.atI ms kk = some (.int (m : Int))) (h3 : L2.atI ps kk = some (.int (p : Int))) (hq : Sz 42 q) (ho : Bt A part) (hp : p ≤ m) (hm : m ≤ 10) (hA : A ≤ 100000)
    (h : ∀ o8, Bt (A + m * 42) (part * (q.num ^ p * (q.den : Int) ^ (m - p))) → E.nx [c0, some (.d (.tuple ats)), some (.own ms), some (.d (.tuple ps)), c4, some (.d (.int kk)), c6, some (.d (.int (part * (q.num ^ p * (q.den : Int) ^ (m - p))))), o8, c9]) :
    wS (sem fns k) b__law_value_6 [c0, some (.d (.tuple ats)), some (.own ms), some (.d (.tuple ps)), c4, some (.d (.int kk)), c6, some (.d (.int part)), o8, c9] E := by
  (simp only [b__law_value_6]; walk_at "s")
  refine ix_tup h3 ?_
  walk_at "s"
  refine ⟨⟨by omega, by omega⟩, ?_⟩
  refine for_at' (fun r ε => ∃ (j : Nat) (o8 : Option Val), r.length + j = p ∧ Bt (A + j * 42) (part * q.num ^ j) ∧ ε = [c0, some (.d (.tuple ats)), some (.own ms), some (.d (.tuple ps)), c4, some (.d (.int kk)), c6, some (.d (.int (part * q.num ^ j))), o8, c9]) ?_ ?_ _ _ ⟨0, o8, by simp, by rw [Int.pow_zero, Int.mul_one]; exact ho.mono (by omega), by rw [Int.pow_zero, Int.mul_one]⟩
  · rintro x r ε ⟨j, o8, hj, b1, rfl⟩ hnx
    have hj : r.length + 1 + j = p := hj
    (simp only [b__law_value_3]; walk_at "s")
    refine ix_tup h1 ?_
    walk_at "s"
    have hjp : j * 42 ≤ 420 := by omega
    refine ⟨mulOk_of b1 hq.1 (by omega), ?_⟩
    have e1 : ∀ x y : Int, x * y ^ j * y = x * y ^ (j + 1) := fun x y => by rw [Int.pow_succ, ← Int.mul_assoc]
    rw [e1]
    exact hnx _ ⟨j + 1, _, by omega, by rw [← e1]; exact (b1.mul hq.1).mono (by omega), rfl⟩
  · rintro ε ⟨j, o8, hj, b1, rfl⟩
    have hj : 0 + j = p := hj
    obtain rfl : j = p := by omega
    (simp only [b__law_value_5]; walk_at "s")
    refine ix_lst h2 ?_
    walk_at "s"
    refine ix_tup h3 ?_
    walk_at "s"
    refine ⟨⟨by omega, by omega⟩, ?_⟩
    rw [show ((m : Int) - (j : Int)).toNat = m - j by omega]
    refine for_at' (fun r ε => ∃ (i : Nat) (o8 : Option Val), r.length + i = m - j ∧ Bt (A + j * 42 + i * 42) (part * (q.num ^ j * (q.den : Int) ^ i)) ∧ ε = [c0, some (.d (.tuple ats)), some (.own ms), some (.d (.tuple ps)), c4, some (.d (.int kk)), c6, some (.d (.int (part * (q.num ^ j * (q.den : Int) ^ i)))), o8, c9]) ?_ ?_ _ _ ⟨0, o8, by simp, by rw [Int.pow_zero, Int.mul_one]; exact b1.mono (by omega), by rw [Int.pow_zero, Int.mul_one]⟩
    · rintro x r ε ⟨i, o8, hi, b2, rfl⟩ hnx
      have hi : r.length + 1 + i = m - j := hi
      (simp only [b__law_value_4]; walk_at "s")
      refine ix_tup h1 ?_
      walk_at "s"
      have hjp : i * 42 ≤ 420 := by omega
      have hjp : j * 42 ≤ 420 := by omega
      refine ⟨mulOk_of b2 hq.2 (by omega), ?_⟩
      have e1 : part * (q.num ^ j * (q.den : Int) ^ i) * (q.den : Int) = part * (q.num ^ j * (q.den : Int) ^ (i + 1)) := by
        rw [Int.pow_succ, Int.mul_assoc, Int.mul_assoc]
      have b3 := b2.mul hq.2
      rw [e1] at b3 ⊢
      exact hnx _ ⟨i + 1, _, by omega, b3.mono (by omega), rfl⟩
    · rintro ε ⟨i, o8, hi, b2, rfl⟩
      have hi : 0 + i = m - j := hi
      walk_at "s"
      obtain rfl : i = m - j := by omega
      exact h _ (b2.mono (by omega))
theorem lv_bot {c0 c3 c4 c6 c7 o8 : Option Val} {ats ms : List D} {kk bot : Int} {m A : Nat} {q : Rat} {E : En} (h1 : L2.atI ats kk = some (fr q)) (h2 : L2.atI ms kk = some (.int (m : Int))) (hq : Sz 42 q) (ho : Bt A bot) (hm : m ≤ 10) (hA : A ≤ 100000)
    (h : ∀ o8, Bt (A + m * 42) (bot * (q.den : Int) ^ m) → E.nx [c0, some (.d (.tuple ats)), some (.own ms), c3, c4, some (.d (.int kk)), c6, c7, o8, some (.d (.int (bot * (q.den : Int) ^ m)))]) :
    wS (sem fns k) b__law_value_10 [c0, some (.d (.tuple ats)), some (.own ms), c3, c4, some (.d (.int kk)), c6, c7, o8, some (.d (.int bot))] E := by
  (simp only [b__law_value_10]; walk_at "s")
  refine ix_lst h2 ?_
  walk_at "s"
  refine ⟨⟨by omega, by omega⟩, ?_⟩
  refine for_at' (fun r ε => ∃ (j : Nat) (o8 : Option Val), r.length + j = m ∧ Bt (A + j * 42) (bot * (q.den : Int) ^ j) ∧ ε = [c0, some (.d (.tuple ats)), some (.own ms), c3, c4, some (.d (.int kk)), c6, c7, o8, some (.d (.int (bot * (q.den : Int) ^ j)))]) ?_ ?_ _ _ ⟨0, o8, by simp, by rw [Int.pow_zero, Int.mul_one]; exact ho.mono (by omega), by rw [Int.pow_zero, Int.mul_one]⟩
  · rintro x r ε ⟨j, o8, hj, b1, rfl⟩ hnx
    have hj : r.length + 1 + j = m := hj
    (simp only [b__law_value_9]; walk_at "s")
    refine ix_tup h1 ?_
    walk_at "s"
    have hjp : j * 42 ≤ 420 := by omega
    refine ⟨mulOk_of b1 hq.2 (by omega), ?_⟩
    have e1 : ∀ x y : Int, x * y ^ j * y = x * y ^ (j + 1) := fun x y => by rw [Int.pow_succ, ← Int.mul_assoc]
    rw [e1]
    exact hnx _ ⟨j + 1, _, by omega, by rw [← e1]; exact (b1.mul hq.2).mono (by omega), rfl⟩
  · rintro ε ⟨j, o8, hj, b1, rfl⟩
    have hj : 0 + j = m := hj
    obtain rfl : j = m := by omega
    walk_at "s"
    exact h _ b1
theorem k3_n {m : Nat} {t : Tm} (h : K3 m t) (n : Nat) : 0 ≤ t.1.getD n 0 ∧ (t.1.getD n 0).toNat ≤ m := by
  obtain ⟨i, j, l, e, h1, h2, h3⟩ := h
  rw [e]
  match n with
  | 0 => exact ⟨Int.natCast_nonneg i, h1⟩
  | 1 => exact ⟨Int.natCast_nonneg j, h2⟩
  | 2 => exact ⟨Int.natCast_nonneg l, h3⟩
  | n + 3 => exact ⟨Int.le_refl 0, Nat.zero_le _⟩
theorem p_lvalue {f : List Tm} {a b c : Rat} (ha : Sz 42 a) (hb : Sz 42 b) (hc : Sz 42 c) {m B : Nat} (hf : ∀ t ∈ f, K3 m t ∧ Bt B t.2) (hm : m ≤ 10) (hB : B ≤ 10000) (hl : f.length ≤ 50)
    (h : ∀ top bot : Int, (top : Rat) = vF [a, b, c] f * (bot : Rat) → 0 < bot → Bt 20000 top → Bt 20000 bot → Q (.d (.tuple [.int top, .int bot]))) :
    sem fns (k + 3) 18 [.tuple (f.map td), .tuple [fr a, fr b, fr c]] X Q := by
  refine sem_at rfl ⟨rfl, ?_⟩
  (simp only [b__law_value]; walk_at "s")
  rw [show (List.range (3 : Int).toNat).map (fun (i : Nat) => PyData.int i) = [.int 0, .int 1, .int 2] from rfl]
  have mx : ∀ n : Nat, ∀ {R : Int → Prop}, R (mxp n f : Nat) → ∃ (ns : List Int) (m : Int), asInts (PyData.int 0 :: f.map fun t => PyData.int (t.1.getD n 0)) = some ns ∧ m ∈ ns ∧ (∀ y ∈ ns, y ≤ m) ∧ R m := fun n R hR => by
    refine ⟨0 :: f.map fun t => t.1.getD n 0, (mxp n f : Nat), ?_, mxp_mem fun t ht => (k3_n (hf t ht).1 n).1, fun y hy => ?_, hR⟩
    · have := asInts_m (0 :: f.map fun t => t.1.getD n 0)
      rw [List.map_cons, List.map_map] at this
      exact this
    · rcases List.mem_cons.mp hy with rfl | hy
      · exact Int.natCast_nonneg _
      · obtain ⟨t, ht, rfl⟩ := List.mem_map.mp hy
        have := mxp_ge (n := n) ht
        have := (k3_n (hf t ht).1 n).1
        omega
  refine ⟨by decide, ?_⟩
  refine lc_cons ?_
  (simp only [e__law_value_2]; walk_at "s")
  refine lc_as td (fun t : Tm => .int (t.1.getD 0 0)) (fun t ht kk hk => ?_) (by omega) ?_
  · obtain ⟨i, j, l, et, _⟩ := (hf t ht).1
    simp only [td, et, List.map_cons, List.map_nil, e__law_value_1, ↓wE.eq_1, ↓wE.eq_2, ↓wE.eq_3, ↓wE.eq_4, ↓wE.eq_5, ↓wE.eq_6, ↓wE.eq_7, ↓wE.eq_8, ↓wE.eq_9, ↓wE.eq_10, ↓wE.eq_11, ↓wE.eq_12, ↓wE.eq_13, ↓wE.eq_14, ↓wE.eq_15, ↓wE.eq_16, ↓wE.eq_18, ↓wE.eq_19, ↓wE.eq_22, ↓wE.eq_23, ↓wE.eq_24, ↓wE.eq_25, ↓wE.eq_26, ↓wE.eq_27, ↓wE.eq_28, ↓wE.eq_29, ↓wE.eq_30, ↓wE.eq_31, ↓wE.eq_32, ↓wE.eq_34, ↓wE.eq_35, ↓wE.eq_36, ↓wE.eq_37, ↓wE.eq_38, ↓wE.eq_39, ↓wE.eq_40, ↓wE.eq_41, ↓wE_call, ↓wE_callP, ↓wE_lc, ↓wE_lcg, ↓wE_isv, ↓wE_ix, ↓ix_fr0, ↓ix_fr1, ↓cmp_fr, ↓cmp_frn, ↓cmp_fr0, ↓cmp_tz, ↓cmp_tzn, ↓cmp_tz0, ↓cmp_tzn0, ↓bi_list_tz, ↓add_tz,   ↓len_tz, ↓len_fr, ↓isT_fr, items_tz, ↓cmp_bb, ↓cmp_bbn, ↓wS_whl, ↓wS_for, ↓wS_forP, ↓wS_asg, ↓wS_par, ↓wS_setIx, ↓wS_app, ↓tgW_one, ↓tgW_tup, pvF_eq, ↓wS.eq_1, ↓wS.eq_2, ↓wS.eq_3, ↓wS.eq_5, ↓wS.eq_7, ↓wS.eq_10, ↓wS.eq_11, ↓wS.eq_12, ↓wS.eq_13, ↓wS.eq_14, ↓wS.eq_15, ↓wS.eq_16, ↓wS.eq_17, ↓wS.eq_20, ↓wS.eq_21, ↓wS.eq_22, ↓wS.eq_23, ↓wS.eq_24, ↓wS.eq_25, ↓wS.eq_26, ↓wS.eq_27, ↓wS.eq_28, ↓wS.eq_29, ↓wS.eq_30, ↓augW.eq_1, ↓augW.eq_2, ↓augW.eq_3, ↓augW.eq_4, ↓inW.eq_1, ↓inW.eq_2, ↓inW.eq_3, ↓inW.eq_4, ↓zipW.eq_1, ↓zipW.eq_2, ↓zipW.eq_3, ↓cntW.eq_1, ↓dspW.eq_1, ↓idxW.eq_1, ↓opW.eq_1, ↓opW.eq_2, ↓opW.eq_3, ↓opW.eq_4, ↓opW.eq_5, ↓opW.eq_6, ↓opW.eq_7, ↓opW.eq_8, ↓opW.eq_9, ↓opW.eq_10, ↓opW.eq_11, ↓opW.eq_12, ↓opW.eq_13, ↓opW.eq_14, ↓cmpW.eq_1, ↓cmpW.eq_2, ↓cmpW.eq_5, ↓cmpW.eq_6, ↓cmpW.eq_7, ↓cmpW.eq_8, ↓cmpW.eq_9, ↓cmpW.eq_10, ↓cmpW.eq_11, ↓cmpW.eq_12, ↓cmp_ll, ↓cmp_lln, ↓cmp_tt, ↓cmp_ttn, ↓biW.eq_1, ↓biW.eq_2, ↓biW.eq_3, ↓biW.eq_4, ↓biW.eq_5, ↓biW.eq_6, ↓biW.eq_7, ↓biW.eq_8, ↓biW.eq_9, ↓biW.eq_10, ↓biW.eq_11, ↓biW.eq_12, ↓biW.eq_13, ↓biW.eq_14, ↓biW.eq_15, ↓biW.eq_16, ↓biW.eq_17, ↓lenW.eq_1, ↓lenW.eq_2, ↓slW.eq_1, ↓slW.eq_2, ↓revW.eq_1, ↓revW.eq_2, ↓pkW_var, ↓ptW_nil, ↓ptK_i, ↓pkW_cst, ↓pkW_tup, ↓pkW_lst, ↓pkW_bin, ↓pkW_neg, ↓pkW_ix, ↓pkW_sl, ↓pkW_rev, ↓pkW_call, ↓pkW_callP, ↓pkW_bi, ↓pkW_len, ↓pkW_lc, ↓pkW_ite, ↓pkW_gc, ↓pkW_mov, ↓pkW_dsp, ↓pkW_bone, ↓pkW_cmp, ↓pkW_cnt, ↓ptW_cst, ↓ptW_tup, ↓ptW_lst, ↓ptW_bin, ↓ptW_neg, ↓ptW_ix, ↓ptW_sl, ↓ptW_rev, ↓ptW_call, ↓ptW_callP, ↓ptW_bi, ↓ptW_len, ↓ptW_lc, ↓ptW_ite, ↓ptW_gc, ↓ptW_mov, ↓ptW_dsp, ↓ptW_bone, ↓ptW_cmp, ↓ptW_cnt, ↓ptW_var, ↓peek, ↓ownAt, ↓kD.eq_1, ↓kD.eq_2, ↓kM.eq_1, ↓kB.eq_1, ↓kV.eq_1, ↓kV.eq_2, ↓setW, ↓rngW1.eq_1, ↓rngW2.eq_1, ↓rngWd.eq_1, isVar, isNil, isT, gv, pv, setAll, ev0, items.eq_1, items.eq_2, tgs, wipeE, blind_cons, blind_nil, bl1, runB, List.map_cons, List.map_nil, List.replicate, List.cons_append, List.nil_append, if_true, if_false, ite_true, ite_false, reduceCtorEq, Bool.true_and, Bool.and_true, Bool.not_true, Bool.not_false, Bool.false_eq_true, ↓reduceIte, Nat.reduceSub, Nat.reduceAdd, List.length_cons, List.length_nil, decide_eq_true_eq, Bool.not_eq_true', decide_eq_false_iff_not, Bool.and_false, Bool.false_and, true_and, and_true, Nat.sub_self, Nat.succ_eq_add_one, flat, Nat.reduceLeDiff, Int.reduceLE, Int.reduceLT, Int.reduceEq, ne_eq, not_false_eq_true, s10, la_2, la_3, la_4, la_5, la_6, la_7, la_8, la_9, la_10, la_11, la_12, la_13, la_14, la_15, la_16, la_18, la_19, la_20, la_21, la_24, la_25, la_28, la_30, la_35, la_36, la_39, la_40, la_41, la_44, la_45, la_49, la_50, la_52, la_54, la_57, la_63, la_64, la_65, la_72, la_78, la_81, la_90, la_100, la_121, la_123, la_125, la_126, la_144, la_162, la_168, la_176, la_196, la_200, la_216, la_240, la_360, la_369, la_400, la_402, la_441, la_540, la_550, la_900, la_907, la_997, la_1009, la_1100, la_1152, la_1440, la_1764, la_2001, la_2003, la_2200, la_3150, la_4099, la_16807, la_22500, la_24200, la_72600, Nat.reduceLT, ↓ix_t0, ↓ix_t1, ↓ix_t2, ↓ix_t3, ↓ix_t4, ↓ix_t5, ↓ix_t6, ↓ix_l0, ↓ix_l1, ↓ix_l2, ↓ix_l3, ↓ix_l4, ↓ix_l5, ↓ix_l6, ↓add_ttz, ↓isT_tz, ↓sl_tz, isN_non, isN_tup, isN_lst, isN_int, isN_str, isN_bl, isN_fr, isN_tz, ↓hS.eq_1, ↓hS.eq_2, ↓hS.eq_3, ↓hS.eq_4, hE, hB, ↓hide.eq_1, ↓hide.eq_2, isS, Nat.reduceBEq, Bool.or_true, Bool.or_false, Bool.true_or, Bool.false_or, beq_self_eq_true, not_true_eq_false, Int.cast_ofNat_Int, ↓wE_callL, ↓wE_callLP, ↓kR_d, ↓kR_o, ↓kT_twoO, ↓kTP_two, ↓kTP_twoO, ↓pkW_callLP, ↓wE_lemp, ↓wE_lix, ↓wE_lpop0, ↓wE_lcL, ↓wE_lcK, ↓pkW_lcK, ↓kT_two, ↓lentAt, unlend_nil, unlend_cons, ul1_n, ul1_d, ul1_o, ul1_l, ↓wS_lend, ↓wS_lfn, ↓wS_retL, ↓wS_lset, ↓wS_asgN, ↓tgW_nst, noTwo_d, noTwo_o, ↓pkW_callL, ↓pkW_lix, ↓pkW_lemp, ↓pkW_lpop0, ↓pkW_lcL, ↓ptW_callL, ↓ptW_lix, ↓wE_lit, ↓pkW_lit, ↓ptW_lit, ↓cmp_geT, ↓wE_dget, ↓wE_dix, ↓wE_dsrt, ↓wE_dlc, ↓wE_lcD, ↓wE_srt, ↓wS_dnewT, ↓wS_dnewI, ↓wS_dset, ↓dictAt, itemsD_I, itemsD_T, ↓pkW_dget, ↓ptW_dget, ↓pkW_dix, ↓ptW_dix, ↓pkW_dsrt, ↓ptW_dsrt, ↓pkW_dlc, ↓ptW_dlc, ↓pkW_lcD, ↓ptW_lcD, ↓pkW_srt, ↓ptW_srt, ↓wE_callF, ↓kF_o, ↓wE_rvl, ↓rvlK_l, ↓wE_lset, ↓lsetK_l, ↓wE_emp, ↓wE_lcO, ↓pkW_lcO, ↓ptW_lcO, hTx, ↓hS.eq_5, ↓pkW_callF, ↓ptW_callF, ↓pkW_rvl, ↓ptW_rvl, ↓pkW_lset, ↓ptW_lset, ↓pkW_emp, ↓ptW_emp]
    have := hk
    rw [et] at this
    exact this _
  walk_at "s"
  refine ⟨by rw [List.length_map]; omega, ?_⟩
  refine mx 0 ?_
  refine lc_cons ?_
  walk_at "s"
  refine lc_as td (fun t : Tm => .int (t.1.getD 1 0)) (fun t ht kk hk => ?_) (by omega) ?_
  · obtain ⟨i, j, l, et, _⟩ := (hf t ht).1
    simp only [td, et, List.map_cons, List.map_nil, e__law_value_1, ↓wE.eq_1, ↓wE.eq_2, ↓wE.eq_3, ↓wE.eq_4, ↓wE.eq_5, ↓wE.eq_6, ↓wE.eq_7, ↓wE.eq_8, ↓wE.eq_9, ↓wE.eq_10, ↓wE.eq_11, ↓wE.eq_12, ↓wE.eq_13, ↓wE.eq_14, ↓wE.eq_15, ↓wE.eq_16, ↓wE.eq_18, ↓wE.eq_19, ↓wE.eq_22, ↓wE.eq_23, ↓wE.eq_24, ↓wE.eq_25, ↓wE.eq_26, ↓wE.eq_27, ↓wE.eq_28, ↓wE.eq_29, ↓wE.eq_30, ↓wE.eq_31, ↓wE.eq_32, ↓wE.eq_34, ↓wE.eq_35, ↓wE.eq_36, ↓wE.eq_37, ↓wE.eq_38, ↓wE.eq_39, ↓wE.eq_40, ↓wE.eq_41, ↓wE_call, ↓wE_callP, ↓wE_lc, ↓wE_lcg, ↓wE_isv, ↓wE_ix, ↓ix_fr0, ↓ix_fr1, ↓cmp_fr, ↓cmp_frn, ↓cmp_fr0, ↓cmp_tz, ↓cmp_tzn, ↓cmp_tz0, ↓cmp_tzn0, ↓bi_list_tz, ↓add_tz,   ↓len_tz, ↓len_fr, ↓isT_fr, items_tz, ↓cmp_bb, ↓cmp_bbn, ↓wS_whl, ↓wS_for, ↓wS_forP, ↓wS_asg, ↓wS_par, ↓wS_setIx, ↓wS_app, ↓tgW_one, ↓tgW_tup, pvF_eq, ↓wS.eq_1, ↓wS.eq_2, ↓wS.eq_3, ↓wS.eq_5, ↓wS.eq_7, ↓wS.eq_10, ↓wS.eq_11, ↓wS.eq_12, ↓wS.eq_13, ↓wS.eq_14, ↓wS.eq_15, ↓wS.eq_16, ↓wS.eq_17, ↓wS.eq_20, ↓wS.eq_21, ↓wS.eq_22, ↓wS.eq_23, ↓wS.eq_24, ↓wS.eq_25, ↓wS.eq_26, ↓wS.eq_27, ↓wS.eq_28, ↓wS.eq_29, ↓wS.eq_30, ↓augW.eq_1, ↓augW.eq_2, ↓augW.eq_3, ↓augW.eq_4, ↓inW.eq_1, ↓inW.eq_2, ↓inW.eq_3, ↓inW.eq_4, ↓zipW.eq_1, ↓zipW.eq_2, ↓zipW.eq_3, ↓cntW.eq_1, ↓dspW.eq_1, ↓idxW.eq_1, ↓opW.eq_1, ↓opW.eq_2, ↓opW.eq_3, ↓opW.eq_4, ↓opW.eq_5, ↓opW.eq_6, ↓opW.eq_7, ↓opW.eq_8, ↓opW.eq_9, ↓opW.eq_10, ↓opW.eq_11, ↓opW.eq_12, ↓opW.eq_13, ↓opW.eq_14, ↓cmpW.eq_1, ↓cmpW.eq_2, ↓cmpW.eq_5, ↓cmpW.eq_6, ↓cmpW.eq_7, ↓cmpW.eq_8, ↓cmpW.eq_9, ↓cmpW.eq_10, ↓cmpW.eq_11, ↓cmpW.eq_12, ↓cmp_ll, ↓cmp_lln, ↓cmp_tt, ↓cmp_ttn, ↓biW.eq_1, ↓biW.eq_2, ↓biW.eq_3, ↓biW.eq_4, ↓biW.eq_5, ↓biW.eq_6, ↓biW.eq_7, ↓biW.eq_8, ↓biW.eq_9, ↓biW.eq_10, ↓biW.eq_11, ↓biW.eq_12, ↓biW.eq_13, ↓biW.eq_14, ↓biW.eq_15, ↓biW.eq_16, ↓biW.eq_17, ↓lenW.eq_1, ↓lenW.eq_2, ↓slW.eq_1, ↓slW.eq_2, ↓revW.eq_1, ↓revW.eq_2, ↓pkW_var, ↓ptW_nil, ↓ptK_i, ↓pkW_cst, ↓pkW_tup, ↓pkW_lst, ↓pkW_bin, ↓pkW_neg, ↓pkW_ix, ↓pkW_sl, ↓pkW_rev, ↓pkW_call, ↓pkW_callP, ↓pkW_bi, ↓pkW_len, ↓pkW_lc, ↓pkW_ite, ↓pkW_gc, ↓pkW_mov, ↓pkW_dsp, ↓pkW_bone, ↓pkW_cmp, ↓pkW_cnt, ↓ptW_cst, ↓ptW_tup, ↓ptW_lst, ↓ptW_bin, ↓ptW_neg, ↓ptW_ix, ↓ptW_sl, ↓ptW_rev, ↓ptW_call, ↓ptW_callP, ↓ptW_bi, ↓ptW_len, ↓ptW_lc, ↓ptW_ite, ↓ptW_gc, ↓ptW_mov, ↓ptW_dsp, ↓ptW_bone, ↓ptW_cmp, ↓ptW_cnt, ↓ptW_var, ↓peek, ↓ownAt, ↓kD.eq_1, ↓kD.eq_2, ↓kM.eq_1, ↓kB.eq_1, ↓kV.eq_1, ↓kV.eq_2, ↓setW, ↓rngW1.eq_1, ↓rngW2.eq_1, ↓rngWd.eq_1, isVar, isNil, isT, gv, pv, setAll, ev0, items.eq_1, items.eq_2, tgs, wipeE, blind_cons, blind_nil, bl1, runB, List.map_cons, List.map_nil, List.replicate, List.cons_append, List.nil_append, if_true, if_false, ite_true, ite_false, reduceCtorEq, Bool.true_and, Bool.and_true, Bool.not_true, Bool.not_false, Bool.false_eq_true, ↓reduceIte, Nat.reduceSub, Nat.reduceAdd, List.length_cons, List.length_nil, decide_eq_true_eq, Bool.not_eq_true', decide_eq_false_iff_not, Bool.and_false, Bool.false_and, true_and, and_true, Nat.sub_self, Nat.succ_eq_add_one, flat, Nat.reduceLeDiff, Int.reduceLE, Int.reduceLT, Int.reduceEq, ne_eq, not_false_eq_true, s10, la_2, la_3, la_4, la_5, la_6, la_7, la_8, la_9, la_10, la_11, la_12, la_13, la_14, la_15, la_16, la_18, la_19, la_20, la_21, la_24, la_25, la_28, la_30, la_35, la_36, la_39, la_40, la_41, la_44, la_45, la_49, la_50, la_52, la_54, la_57, la_63, la_64, la_65, la_72, la_78, la_81, la_90, la_100, la_121, la_123, la_125, la_126, la_144, la_162, la_168, la_176, la_196, la_200, la_216, la_240, la_360, la_369, la_400, la_402, la_441, la_540, la_550, la_900, la_907, la_997, la_1009, la_1100, la_1152, la_1440, la_1764, la_2001, la_2003, la_2200, la_3150, la_4099, la_16807, la_22500, la_24200, la_72600, Nat.reduceLT, ↓ix_t0, ↓ix_t1, ↓ix_t2, ↓ix_t3, ↓ix_t4, ↓ix_t5, ↓ix_t6, ↓ix_l0, ↓ix_l1, ↓ix_l2, ↓ix_l3, ↓ix_l4, ↓ix_l5, ↓ix_l6, ↓add_ttz, ↓isT_tz, ↓sl_tz, isN_non, isN_tup, isN_lst, isN_int, isN_str, isN_bl, isN_fr, isN_tz, ↓hS.eq_1, ↓hS.eq_2, ↓hS.eq_3, ↓hS.eq_4, hE, hB, ↓hide.eq_1, ↓hide.eq_2, isS, Nat.reduceBEq, Bool.or_true, Bool.or_false, Bool.true_or, Bool.false_or, beq_self_eq_true, not_true_eq_false, Int.cast_ofNat_Int, ↓wE_callL, ↓wE_callLP, ↓kR_d, ↓kR_o, ↓kT_twoO, ↓kTP_two, ↓kTP_twoO, ↓pkW_callLP, ↓wE_lemp, ↓wE_lix, ↓wE_lpop0, ↓wE_lcL, ↓wE_lcK, ↓pkW_lcK, ↓kT_two, ↓lentAt, unlend_nil, unlend_cons, ul1_n, ul1_d, ul1_o, ul1_l, ↓wS_lend, ↓wS_lfn, ↓wS_retL, ↓wS_lset, ↓wS_asgN, ↓tgW_nst, noTwo_d, noTwo_o, ↓pkW_callL, ↓pkW_lix, ↓pkW_lemp, ↓pkW_lpop0, ↓pkW_lcL, ↓ptW_callL, ↓ptW_lix, ↓wE_lit, ↓pkW_lit, ↓ptW_lit, ↓cmp_geT, ↓wE_dget, ↓wE_dix, ↓wE_dsrt, ↓wE_dlc, ↓wE_lcD, ↓wE_srt, ↓wS_dnewT, ↓wS_dnewI, ↓wS_dset, ↓dictAt, itemsD_I, itemsD_T, ↓pkW_dget, ↓ptW_dget, ↓pkW_dix, ↓ptW_dix, ↓pkW_dsrt, ↓ptW_dsrt, ↓pkW_dlc, ↓ptW_dlc, ↓pkW_lcD, ↓ptW_lcD, ↓pkW_srt, ↓ptW_srt, ↓wE_callF, ↓kF_o, ↓wE_rvl, ↓rvlK_l, ↓wE_lset, ↓lsetK_l, ↓wE_emp, ↓wE_lcO, ↓pkW_lcO, ↓ptW_lcO, hTx, ↓hS.eq_5, ↓pkW_callF, ↓ptW_callF, ↓pkW_rvl, ↓ptW_rvl, ↓pkW_lset, ↓ptW_lset, ↓pkW_emp, ↓ptW_emp]
    have := hk
    rw [et] at this
    exact this _
  walk_at "s"
  refine ⟨by rw [List.length_map]; omega, ?_⟩
  refine mx 1 ?_
  refine lc_cons ?_
  walk_at "s"
  refine lc_as td (fun t : Tm => .int (t.1.getD 2 0)) (fun t ht kk hk => ?_) (by omega) ?_
  · obtain ⟨i, j, l, et, _⟩ := (hf t ht).1
    simp only [td, et, List.map_cons, List.map_nil, e__law_value_1, ↓wE.eq_1, ↓wE.eq_2, ↓wE.eq_3, ↓wE.eq_4, ↓wE.eq_5, ↓wE.eq_6, ↓wE.eq_7, ↓wE.eq_8, ↓wE.eq_9, ↓wE.eq_10, ↓wE.eq_11, ↓wE.eq_12, ↓wE.eq_13, ↓wE.eq_14, ↓wE.eq_15, ↓wE.eq_16, ↓wE.eq_18, ↓wE.eq_19, ↓wE.eq_22, ↓wE.eq_23, ↓wE.eq_24, ↓wE.eq_25, ↓wE.eq_26, ↓wE.eq_27, ↓wE.eq_28, ↓wE.eq_29, ↓wE.eq_30, ↓wE.eq_31, ↓wE.eq_32, ↓wE.eq_34, ↓wE.eq_35, ↓wE.eq_36, ↓wE.eq_37, ↓wE.eq_38, ↓wE.eq_39, ↓wE.eq_40, ↓wE.eq_41, ↓wE_call, ↓wE_callP, ↓wE_lc, ↓wE_lcg, ↓wE_isv, ↓wE_ix, ↓ix_fr0, ↓ix_fr1, ↓cmp_fr, ↓cmp_frn, ↓cmp_fr0, ↓cmp_tz, ↓cmp_tzn, ↓cmp_tz0, ↓cmp_tzn0, ↓bi_list_tz, ↓add_tz,   ↓len_tz, ↓len_fr, ↓isT_fr, items_tz, ↓cmp_bb, ↓cmp_bbn, ↓wS_whl, ↓wS_for, ↓wS_forP, ↓wS_asg, ↓wS_par, ↓wS_setIx, ↓wS_app, ↓tgW_one, ↓tgW_tup, pvF_eq, ↓wS.eq_1, ↓wS.eq_2, ↓wS.eq_3, ↓wS.eq_5, ↓wS.eq_7, ↓wS.eq_10, ↓wS.eq_11, ↓wS.eq_12, ↓wS.eq_13, ↓wS.eq_14, ↓wS.eq_15, ↓wS.eq_16, ↓wS.eq_17, ↓wS.eq_20, ↓wS.eq_21, ↓wS.eq_22, ↓wS.eq_23, ↓wS.eq_24, ↓wS.eq_25, ↓wS.eq_26, ↓wS.eq_27, ↓wS.eq_28, ↓wS.eq_29, ↓wS.eq_30, ↓augW.eq_1, ↓augW.eq_2, ↓augW.eq_3, ↓augW.eq_4, ↓inW.eq_1, ↓inW.eq_2, ↓inW.eq_3, ↓inW.eq_4, ↓zipW.eq_1, ↓zipW.eq_2, ↓zipW.eq_3, ↓cntW.eq_1, ↓dspW.eq_1, ↓idxW.eq_1, ↓opW.eq_1, ↓opW.eq_2, ↓opW.eq_3, ↓opW.eq_4, ↓opW.eq_5, ↓opW.eq_6, ↓opW.eq_7, ↓opW.eq_8, ↓opW.eq_9, ↓opW.eq_10, ↓opW.eq_11, ↓opW.eq_12, ↓opW.eq_13, ↓opW.eq_14, ↓cmpW.eq_1, ↓cmpW.eq_2, ↓cmpW.eq_5, ↓cmpW.eq_6, ↓cmpW.eq_7, ↓cmpW.eq_8, ↓cmpW.eq_9, ↓cmpW.eq_10, ↓cmpW.eq_11, ↓cmpW.eq_12, ↓cmp_ll, ↓cmp_lln, ↓cmp_tt, ↓cmp_ttn, ↓biW.eq_1, ↓biW.eq_2, ↓biW.eq_3, ↓biW.eq_4, ↓biW.eq_5, ↓biW.eq_6, ↓biW.eq_7, ↓biW.eq_8, ↓biW.eq_9, ↓biW.eq_10, ↓biW.eq_11, ↓biW.eq_12, ↓biW.eq_13, ↓biW.eq_14, ↓biW.eq_15, ↓biW.eq_16, ↓biW.eq_17, ↓lenW.eq_1, ↓lenW.eq_2, ↓slW.eq_1, ↓slW.eq_2, ↓revW.eq_1, ↓revW.eq_2, ↓pkW_var, ↓ptW_nil, ↓ptK_i, ↓pkW_cst, ↓pkW_tup, ↓pkW_lst, ↓pkW_bin, ↓pkW_neg, ↓pkW_ix, ↓pkW_sl, ↓pkW_rev, ↓pkW_call, ↓pkW_callP, ↓pkW_bi, ↓pkW_len, ↓pkW_lc, ↓pkW_ite, ↓pkW_gc, ↓pkW_mov, ↓pkW_dsp, ↓pkW_bone, ↓pkW_cmp, ↓pkW_cnt, ↓ptW_cst, ↓ptW_tup, ↓ptW_lst, ↓ptW_bin, ↓ptW_neg, ↓ptW_ix, ↓ptW_sl, ↓ptW_rev, ↓ptW_call, ↓ptW_callP, ↓ptW_bi, ↓ptW_len, ↓ptW_lc, ↓ptW_ite, ↓ptW_gc, ↓ptW_mov, ↓ptW_dsp, ↓ptW_bone, ↓ptW_cmp, ↓ptW_cnt, ↓ptW_var, ↓peek, ↓ownAt, ↓kD.eq_1, ↓kD.eq_2, ↓kM.eq_1, ↓kB.eq_1, ↓kV.eq_1, ↓kV.eq_2, ↓setW, ↓rngW1.eq_1, ↓rngW2.eq_1, ↓rngWd.eq_1, isVar, isNil, isT, gv, pv, setAll, ev0, items.eq_1, items.eq_2, tgs, wipeE, blind_cons, blind_nil, bl1, runB, List.map_cons, List.map_nil, List.replicate, List.cons_append, List.nil_append, if_true, if_false, ite_true, ite_false, reduceCtorEq, Bool.true_and, Bool.and_true, Bool.not_true, Bool.not_false, Bool.false_eq_true, ↓reduceIte, Nat.reduceSub, Nat.reduceAdd, List.length_cons, List.length_nil, decide_eq_true_eq, Bool.not_eq_true', decide_eq_false_iff_not, Bool.and_false, Bool.false_and, true_and, and_true, Nat.sub_self, Nat.succ_eq_add_one, flat, Nat.reduceLeDiff, Int.reduceLE, Int.reduceLT, Int.reduceEq, ne_eq, not_false_eq_true, s10, la_2, la_3, la_4, la_5, la_6, la_7, la_8, la_9, la_10, la_11, la_12, la_13, la_14, la_15, la_16, la_18, la_19, la_20, la_21, la_24, la_25, la_28, la_30, la_35, la_36, la_39, la_40, la_41, la_44, la_45, la_49, la_50, la_52, la_54, la_57, la_63, la_64, la_65, la_72, la_78, la_81, la_90, la_100, la_121, la_123, la_125, la_126, la_144, la_162, la_168, la_176, la_196, la_200, la_216, la_240, la_360, la_369, la_400, la_402, la_441, la_540, la_550, la_900, la_907, la_997, la_1009, la_1100, la_1152, la_1440, la_1764, la_2001, la_2003, la_2200, la_3150, la_4099, la_16807, la_22500, la_24200, la_72600, Nat.reduceLT, ↓ix_t0, ↓ix_t1, ↓ix_t2, ↓ix_t3, ↓ix_t4, ↓ix_t5, ↓ix_t6, ↓ix_l0, ↓ix_l1, ↓ix_l2, ↓ix_l3, ↓ix_l4, ↓ix_l5, ↓ix_l6, ↓add_ttz, ↓isT_tz, ↓sl_tz, isN_non, isN_tup, isN_lst, isN_int, isN_str, isN_bl, isN_fr, isN_tz, ↓hS.eq_1, ↓hS.eq_2, ↓hS.eq_3, ↓hS.eq_4, hE, hB, ↓hide.eq_1, ↓hide.eq_2, isS, Nat.reduceBEq, Bool.or_true, Bool.or_false, Bool.true_or, Bool.false_or, beq_self_eq_true, not_true_eq_false, Int.cast_ofNat_Int, ↓wE_callL, ↓wE_callLP, ↓kR_d, ↓kR_o, ↓kT_twoO, ↓kTP_two, ↓kTP_twoO, ↓pkW_callLP, ↓wE_lemp, ↓wE_lix, ↓wE_lpop0, ↓wE_lcL, ↓wE_lcK, ↓pkW_lcK, ↓kT_two, ↓lentAt, unlend_nil, unlend_cons, ul1_n, ul1_d, ul1_o, ul1_l, ↓wS_lend, ↓wS_lfn, ↓wS_retL, ↓wS_lset, ↓wS_asgN, ↓tgW_nst, noTwo_d, noTwo_o, ↓pkW_callL, ↓pkW_lix, ↓pkW_lemp, ↓pkW_lpop0, ↓pkW_lcL, ↓ptW_callL, ↓ptW_lix, ↓wE_lit, ↓pkW_lit, ↓ptW_lit, ↓cmp_geT, ↓wE_dget, ↓wE_dix, ↓wE_dsrt, ↓wE_dlc, ↓wE_lcD, ↓wE_srt, ↓wS_dnewT, ↓wS_dnewI, ↓wS_dset, ↓dictAt, itemsD_I, itemsD_T, ↓pkW_dget, ↓ptW_dget, ↓pkW_dix, ↓ptW_dix, ↓pkW_dsrt, ↓ptW_dsrt, ↓pkW_dlc, ↓ptW_dlc, ↓pkW_lcD, ↓ptW_lcD, ↓pkW_srt, ↓ptW_srt, ↓wE_callF, ↓kF_o, ↓wE_rvl, ↓rvlK_l, ↓wE_lset, ↓lsetK_l, ↓wE_emp, ↓wE_lcO, ↓pkW_lcO, ↓ptW_lcO, hTx, ↓hS.eq_5, ↓pkW_callF, ↓ptW_callF, ↓pkW_rvl, ↓ptW_rvl, ↓pkW_lset, ↓ptW_lset, ↓pkW_emp, ↓ptW_emp]
    have := hk
    rw [et] at this
    exact this _
  walk_at "s"
  refine ⟨by rw [List.length_map]; omega, ?_⟩
  refine mx 2 ?_
  refine lc_nil ?_
  have l0 : mxp 0 f ≤ m := mxp_le fun t ht => (k3_n (hf t ht).1 0).2
  have l1 : mxp 1 f ≤ m := mxp_le fun t ht => (k3_n (hf t ht).1 1).2
  have l2 : mxp 2 f ≤ m := mxp_le fun t ht => (k3_n (hf t ht).1 2).2
  have g0 : ∀ t ∈ f, (t.1.getD 0 0).toNat ≤ mxp 0 f := fun t ht => mxp_ge ht
  have g1 : ∀ t ∈ f, (t.1.getD 1 0).toNat ≤ mxp 1 f := fun t ht => mxp_ge ht
  have g2 : ∀ t ∈ f, (t.1.getD 2 0).toNat ≤ mxp 2 f := fun t ht => mxp_ge ht
  clear mx
  generalize mxp 0 f = m0 at l0 g0
  generalize mxp 1 f = m1 at l1 g1
  generalize mxp 2 f = m2 at l2 g2
  walk_at "s"
  refine for_at' (fun r ε => ∃ (pre rest : List Tm) (top : Int) (o3 o4 o5 o7 o8 : Option Val), r = rest.map td ∧ f = pre ++ rest ∧ (top : Rat) = vF [a, b, c] pre * (((a.den : Int) ^ m0 * (b.den : Int) ^ m1 * (c.den : Int) ^ m2 : Int) : Rat) ∧ Bt (12000 + pre.length) top ∧
    ε = [some (.d (.tuple (f.map td))), some (.d (.tuple [fr a, fr b, fr c])), some (.own [.int (m0 : Int), .int (m1 : Int), .int (m2 : Int)]), o3, o4, o5, some (.d (.int top)), o7, o8, none]) ?_ ?_ _ _ ⟨[], f, 0, _, _, _, _, _, rfl, rfl, by rw [show vF [a, b, c] [] = 0 from rfl, Rat.zero_mul]; rfl, (bt_c (a := 1) (by decide)).mono (by omega), rfl⟩
  · rintro x r ε ⟨pre, rest, top, o3, o4, o5, o7, o8, hr, hp, ht, tB, rfl⟩ hnx
    cases rest with
    | nil => cases hr
    | cons t rest =>
      cases hr
      have mt : t ∈ f := by rw [hp]; exact List.mem_append_right _ (List.mem_cons_self ..)
      obtain ⟨⟨i, j, l, et, hi, hj, hl'⟩, bt⟩ := hf t mt
      have hpl : pre.length + 1 ≤ f.length := by rw [hp]; simp
      have i0 : i ≤ m0 := by have := g0 t mt; rw [et] at this; exact this
      have i1 : j ≤ m1 := by have := g1 t mt; rw [et] at this; exact this
      have i2 : l ≤ m2 := by have := g2 t mt; rw [et] at this; exact this
      simp only [td, et, List.map_cons, List.map_nil, b__law_value_8, ↓wE.eq_1, ↓wE.eq_2, ↓wE.eq_3, ↓wE.eq_4, ↓wE.eq_5, ↓wE.eq_6, ↓wE.eq_7, ↓wE.eq_8, ↓wE.eq_9, ↓wE.eq_10, ↓wE.eq_11, ↓wE.eq_12, ↓wE.eq_13, ↓wE.eq_14, ↓wE.eq_15, ↓wE.eq_16, ↓wE.eq_18, ↓wE.eq_19, ↓wE.eq_22, ↓wE.eq_23, ↓wE.eq_24, ↓wE.eq_25, ↓wE.eq_26, ↓wE.eq_27, ↓wE.eq_28, ↓wE.eq_29, ↓wE.eq_30, ↓wE.eq_31, ↓wE.eq_32, ↓wE.eq_34, ↓wE.eq_35, ↓wE.eq_36, ↓wE.eq_37, ↓wE.eq_38, ↓wE.eq_39, ↓wE.eq_40, ↓wE.eq_41, ↓wE_call, ↓wE_callP, ↓wE_lc, ↓wE_lcg, ↓wE_isv, ↓wE_ix, ↓ix_fr0, ↓ix_fr1, ↓cmp_fr, ↓cmp_frn, ↓cmp_fr0, ↓cmp_tz, ↓cmp_tzn, ↓cmp_tz0, ↓cmp_tzn0, ↓bi_list_tz, ↓add_tz,   ↓len_tz, ↓len_fr, ↓isT_fr, items_tz, ↓cmp_bb, ↓cmp_bbn, ↓wS_whl, ↓wS_for, ↓wS_forP, ↓wS_asg, ↓wS_par, ↓wS_setIx, ↓wS_app, ↓tgW_one, ↓tgW_tup, pvF_eq, ↓wS.eq_1, ↓wS.eq_2, ↓wS.eq_3, ↓wS.eq_5, ↓wS.eq_7, ↓wS.eq_10, ↓wS.eq_11, ↓wS.eq_12, ↓wS.eq_13, ↓wS.eq_14, ↓wS.eq_15, ↓wS.eq_16, ↓wS.eq_17, ↓wS.eq_20, ↓wS.eq_21, ↓wS.eq_22, ↓wS.eq_23, ↓wS.eq_24, ↓wS.eq_25, ↓wS.eq_26, ↓wS.eq_27, ↓wS.eq_28, ↓wS.eq_29, ↓wS.eq_30, ↓augW.eq_1, ↓augW.eq_2, ↓augW.eq_3, ↓augW.eq_4, ↓inW.eq_1, ↓inW.eq_2, ↓inW.eq_3, ↓inW.eq_4, ↓zipW.eq_1, ↓zipW.eq_2, ↓zipW.eq_3, ↓cntW.eq_1, ↓dspW.eq_1, ↓idxW.eq_1, ↓opW.eq_1, ↓opW.eq_2, ↓opW.eq_3, ↓opW.eq_4, ↓opW.eq_5, ↓opW.eq_6, ↓opW.eq_7, ↓opW.eq_8, ↓opW.eq_9, ↓opW.eq_10, ↓opW.eq_11, ↓opW.eq_12, ↓opW.eq_13, ↓opW.eq_14, ↓cmpW.eq_1, ↓cmpW.eq_2, ↓cmpW.eq_5, ↓cmpW.eq_6, ↓cmpW.eq_7, ↓cmpW.eq_8, ↓cmpW.eq_9, ↓cmpW.eq_10, ↓cmpW.eq_11, ↓cmpW.eq_12, ↓cmp_ll, ↓cmp_lln, ↓cmp_tt, ↓cmp_ttn, ↓biW.eq_1, ↓biW.eq_2, ↓biW.eq_3, ↓biW.eq_4, ↓biW.eq_5, ↓biW.eq_6, ↓biW.eq_7, ↓biW.eq_8, ↓biW.eq_9, ↓biW.eq_10, ↓biW.eq_11, ↓biW.eq_12, ↓biW.eq_13, ↓biW.eq_14, ↓biW.eq_15, ↓biW.eq_16, ↓biW.eq_17, ↓lenW.eq_1, ↓lenW.eq_2, ↓slW.eq_1, ↓slW.eq_2, ↓revW.eq_1, ↓revW.eq_2, ↓pkW_var, ↓ptW_nil, ↓ptK_i, ↓pkW_cst, ↓pkW_tup, ↓pkW_lst, ↓pkW_bin, ↓pkW_neg, ↓pkW_ix, ↓pkW_sl, ↓pkW_rev, ↓pkW_call, ↓pkW_callP, ↓pkW_bi, ↓pkW_len, ↓pkW_lc, ↓pkW_ite, ↓pkW_gc, ↓pkW_mov, ↓pkW_dsp, ↓pkW_bone, ↓pkW_cmp, ↓pkW_cnt, ↓ptW_cst, ↓ptW_tup, ↓ptW_lst, ↓ptW_bin, ↓ptW_neg, ↓ptW_ix, ↓ptW_sl, ↓ptW_rev, ↓ptW_call, ↓ptW_callP, ↓ptW_bi, ↓ptW_len, ↓ptW_lc, ↓ptW_ite, ↓ptW_gc, ↓ptW_mov, ↓ptW_dsp, ↓ptW_bone, ↓ptW_cmp, ↓ptW_cnt, ↓ptW_var, ↓peek, ↓ownAt, ↓kD.eq_1, ↓kD.eq_2, ↓kM.eq_1, ↓kB.eq_1, ↓kV.eq_1, ↓kV.eq_2, ↓setW, ↓rngW1.eq_1, ↓rngW2.eq_1, ↓rngWd.eq_1, isVar, isNil, isT, gv, pv, setAll, ev0, items.eq_1, items.eq_2, tgs, wipeE, blind_cons, blind_nil, bl1, runB, List.map_cons, List.map_nil, List.replicate, List.cons_append, List.nil_append, if_true, if_false, ite_true, ite_false, reduceCtorEq, Bool.true_and, Bool.and_true, Bool.not_true, Bool.not_false, Bool.false_eq_true, ↓reduceIte, Nat.reduceSub, Nat.reduceAdd, List.length_cons, List.length_nil, decide_eq_true_eq, Bool.not_eq_true', decide_eq_false_iff_not, Bool.and_false, Bool.false_and, true_and, and_true, Nat.sub_self, Nat.succ_eq_add_one, flat, Nat.reduceLeDiff, Int.reduceLE, Int.reduceLT, Int.reduceEq, ne_eq, not_false_eq_true, s10, la_2, la_3, la_4, la_5, la_6, la_7, la_8, la_9, la_10, la_11, la_12, la_13, la_14, la_15, la_16, la_18, la_19, la_20, la_21, la_24, la_25, la_28, la_30, la_35, la_36, la_39, la_40, la_41, la_44, la_45, la_49, la_50, la_52, la_54, la_57, la_63, la_64, la_65, la_72, la_78, la_81, la_90, la_100, la_121, la_123, la_125, la_126, la_144, la_162, la_168, la_176, la_196, la_200, la_216, la_240, la_360, la_369, la_400, la_402, la_441, la_540, la_550, la_900, la_907, la_997, la_1009, la_1100, la_1152, la_1440, la_1764, la_2001, la_2003, la_2200, la_3150, la_4099, la_16807, la_22500, la_24200, la_72600, Nat.reduceLT, ↓ix_t0, ↓ix_t1, ↓ix_t2, ↓ix_t3, ↓ix_t4, ↓ix_t5, ↓ix_t6, ↓ix_l0, ↓ix_l1, ↓ix_l2, ↓ix_l3, ↓ix_l4, ↓ix_l5, ↓ix_l6, ↓add_ttz, ↓isT_tz, ↓sl_tz, isN_non, isN_tup, isN_lst, isN_int, isN_str, isN_bl, isN_fr, isN_tz, ↓hS.eq_1, ↓hS.eq_2, ↓hS.eq_3, ↓hS.eq_4, hE, hB, ↓hide.eq_1, ↓hide.eq_2, isS, Nat.reduceBEq, Bool.or_true, Bool.or_false, Bool.true_or, Bool.false_or, beq_self_eq_true, not_true_eq_false, Int.cast_ofNat_Int, ↓wE_callL, ↓wE_callLP, ↓kR_d, ↓kR_o, ↓kT_twoO, ↓kTP_two, ↓kTP_twoO, ↓pkW_callLP, ↓wE_lemp, ↓wE_lix, ↓wE_lpop0, ↓wE_lcL, ↓wE_lcK, ↓pkW_lcK, ↓kT_two, ↓lentAt, unlend_nil, unlend_cons, ul1_n, ul1_d, ul1_o, ul1_l, ↓wS_lend, ↓wS_lfn, ↓wS_retL, ↓wS_lset, ↓wS_asgN, ↓tgW_nst, noTwo_d, noTwo_o, ↓pkW_callL, ↓pkW_lix, ↓pkW_lemp, ↓pkW_lpop0, ↓pkW_lcL, ↓ptW_callL, ↓ptW_lix, ↓wE_lit, ↓pkW_lit, ↓ptW_lit, ↓cmp_geT, ↓wE_dget, ↓wE_dix, ↓wE_dsrt, ↓wE_dlc, ↓wE_lcD, ↓wE_srt, ↓wS_dnewT, ↓wS_dnewI, ↓wS_dset, ↓dictAt, itemsD_I, itemsD_T, ↓pkW_dget, ↓ptW_dget, ↓pkW_dix, ↓ptW_dix, ↓pkW_dsrt, ↓ptW_dsrt, ↓pkW_dlc, ↓ptW_dlc, ↓pkW_lcD, ↓ptW_lcD, ↓pkW_srt, ↓ptW_srt, ↓wE_callF, ↓kF_o, ↓wE_rvl, ↓rvlK_l, ↓wE_lset, ↓lsetK_l, ↓wE_emp, ↓wE_lcO, ↓pkW_lcO, ↓ptW_lcO, hTx, ↓hS.eq_5, ↓pkW_callF, ↓ptW_callF, ↓pkW_rvl, ↓ptW_rvl, ↓pkW_lset, ↓ptW_lset, ↓pkW_emp, ↓ptW_emp]
      refine ⟨by decide, ?_⟩
      rw [show (List.range (3 : Int).toNat).map (fun (i : Nat) => PyData.int i) = [.int 0, .int 1, .int 2] from rfl]
      refine for_cons ?_
      walk_at "s"
      refine lv_pow (A := B) (p := i) (m := m0) rfl rfl rfl ha bt i0 (by omega) (by omega) fun o8 z0 => ?_
      walk_at "s"
      refine for_cons ?_
      walk_at "s"
      refine lv_pow (A := B + m0 * 42) (p := j) (m := m1) rfl rfl rfl hb z0 i1 (by omega) (by omega) fun o8 z1 => ?_
      walk_at "s"
      refine for_cons ?_
      walk_at "s"
      refine lv_pow (A := B + m0 * 42 + m1 * 42) (p := l) (m := m2) rfl rfl rfl hc z1 i2 (by omega) (by omega) fun o8 z2 => ?_
      walk_at "s"
      refine for_nil ?_
      (simp only [b__law_value_7]; walk_at "s")
      have e := pT_eq (a := a) (b := b) (c := c) et i0 i1 i2
      have e2 : t.2 * (a.num ^ i * (a.den : Int) ^ (m0 - i)) * (b.num ^ j * (b.den : Int) ^ (m1 - j)) * (c.num ^ l * (c.den : Int) ^ (m2 - l)) = pT m0 m1 m2 [a, b, c] t := by
        unfold pT
        rw [et]
        show _ = t.2 * (a.num ^ (i : Int).toNat * (a.den : Int) ^ (m0 - (i : Int).toNat)) * (b.num ^ (j : Int).toNat * (b.den : Int) ^ (m1 - (j : Int).toNat)) * (c.num ^ (l : Int).toNat * (c.den : Int) ^ (m2 - (l : Int).toNat))
        simp only [Int.toNat_natCast]
      rw [e2] at z2 ⊢
      refine hnx _ ⟨pre ++ [t], rest, _, _, _, _, _, _, rfl, by rw [hp, List.append_assoc]; rfl, ?_, ?_, rfl⟩
      · rw [vF_app, show vF [a, b, c] [t] = vT [a, b, c] t + 0 from rfl, Rat.intCast_add, ht, e]
        grind
      · rw [List.length_append]
        show Bt (12000 + (pre.length + 1)) _
        exact (Bt.add tB (z2.mono (by omega))).mono (by omega)
  · rintro ε ⟨pre, rest, top, o3, o4, o5, o7, o8, hr, hp, ht, tB, rfl⟩
    cases rest with
    | cons _ _ => cases hr
    | nil =>
      rw [List.append_nil] at hp
      subst hp
      (simp only [b__law_value_12]; walk_at "s")
      refine ⟨by decide, ?_⟩
      rw [show (List.range (3 : Int).toNat).map (fun (i : Nat) => PyData.int i) = [.int 0, .int 1, .int 2] from rfl]
      refine for_cons ?_
      walk_at "s"
      refine lv_bot (A := 1) (m := m0) rfl rfl ha (bt_c (a := 1) (by decide)) (by omega) (by omega) fun o8 z0 => ?_
      walk_at "s"
      refine for_cons ?_
      walk_at "s"
      refine lv_bot (A := 1 + m0 * 42) (m := m1) rfl rfl hb z0 (by omega) (by omega) fun o8 z1 => ?_
      walk_at "s"
      refine for_cons ?_
      walk_at "s"
      refine lv_bot (A := 1 + m0 * 42 + m1 * 42) (m := m2) rfl rfl hc z1 (by omega) (by omega) fun o8 z2 => ?_
      walk_at "s"
      refine for_nil ?_
      (simp only [b__law_value_11]; walk_at "s")
      refine h _ _ ?_ ?_ (tB.mono (by omega)) (z2.mono (by omega))
      · rw [ht, Int.one_mul]
      · rw [Int.one_mul]
        exact Int.mul_pos (Int.mul_pos (den_pow_pos a _) (den_pow_pos b _)) (den_pow_pos c _)
theorem td_map (f g : List Tm) : f.map td ++ g.map td = (f ++ g).map td := (List.map_append ..).symm
theorem p_law {ns : List Int} (h : Q (.d (.bool true))) : sem fns (k + 5) 20 [.list (ns.map .int)] X Q := by
  refine sem_at rfl ⟨rfl, ?_⟩
  (simp only [b_law]; walk_at "s")
  refine p_cell (i := 0) ?_
  walk_at "s"
  refine p_ldraws (m := 60) (by omega) fun xs hs => ?_
  walk_at "s"
  refine p_lterms (n := 10) (m := 3) (by omega) (by omega) hs fun one ys l1 k1 hs1 => ?_
  walk_at "s"
  refine p_cell (i := 1) ?_
  walk_at "s"
  refine p_ldraws (m := 60) (by omega) fun xs2 hs2 => ?_
  walk_at "s"
  refine p_lterms (n := 6) (m := 3) (by omega) (by omega) hs2 fun two ys2 l2 k2 hs3 => ?_
  walk_at "s"
  refine p_form (ts := one) rfl (by omega) ?_
  walk_at "s"
  rw [← List.map_reverse]
  refine p_form (ts := two.reverse) rfl (by rw [List.length_reverse]; omega) ?_
  rw [show frm two.reverse = frm two from frm_ext fun k => cs_rev two k]
  walk_at "s"
  have k1' : ∀ t ∈ one, K3 3 t ∧ Bt 70 t.2 := fun t ht => ⟨(k1 t ht).k3, by obtain ⟨_, _, _, _, _, _, _, q⟩ := k1 t ht; exact q⟩
  have k2' : ∀ t ∈ two, K3 3 t ∧ Bt 70 t.2 := fun t ht => ⟨(k2 t ht).k3, by obtain ⟨_, _, _, _, _, _, _, q⟩ := k2 t ht; exact q⟩
  have f1 : ∀ t ∈ frm one, K3 3 t ∧ Bt 74 t.2 := fun t ht => ⟨frm_k3 (fun t ht => (k1' t ht).1) t ht, frm_bt (c := 4) (fun t ht => (k1' t ht).2) (by omega) t ht⟩
  have f2 : ∀ t ∈ frm two, K3 3 t ∧ Bt 74 t.2 := fun t ht => ⟨frm_k3 (fun t ht => (k2' t ht).1) t ht, frm_bt (c := 4) (fun t ht => (k2' t ht).2) (by omega) t ht⟩
  have n1 := frm_len one
  have n2 := frm_len two
  refine ⟨shTdL _, shTdL _, ?_⟩
  rw [eqvTdL, decide_eq_true rfl, if_neg (by decide)]
  refine p_lfsum (ts := one) rfl (by omega) ?_
  walk_at "s"
  refine ⟨shTdT _, shTdT _, ?_⟩
  rw [eqvTdT, decide_eq_true rfl, if_neg (by decide)]
  refine p_lfsum (ts := two) rfl (by omega) ?_
  walk_at "s"
  refine ⟨shTdT _, shTdT _, ?_⟩
  rw [eqvTdT, decide_eq_true rfl, if_neg (by decide)]
  rw [← List.map_reverse]
  refine p_form (ts := one.reverse) rfl (by rw [List.length_reverse]; omega) ?_
  rw [show frm one.reverse = frm one from frm_ext fun k => cs_rev one k]
  walk_at "s"
  refine ⟨shTdT _, shTdT _, ?_⟩
  rw [eqvTdT, decide_eq_true rfl, if_neg (by decide)]
  have isF : ∀ {ts : List Tm}, (∀ t ∈ ts, K3 3 t) → isFm (.tuple ((frm ts).map td)) = true := fun {ts} hk => by
    have ok := frm_ok ts
    rw [isFm_td (fm_k ok fun t ht => ?_), chn_pw ok.up]
    obtain ⟨i, j, l, e, _⟩ := frm_k3 hk t ht
    rw [e]
    refine ⟨rfl, fun z hz => ?_⟩
    simp only [List.mem_cons, List.not_mem_nil, or_false] at hz
    rcases hz with rfl | rfl | rfl <;> exact Int.natCast_nonneg _
  refine p_is_form (fun xs e => ?_) ?_
  · cases e
    rw [List.length_map]; omega
  rw [isF fun t ht => (k1' t ht).1]
  walk_at "s"
  refine p_is_form (fun xs e => ?_) ?_
  · cases e
    rw [List.length_map]; omega
  rw [isF fun t ht => (k2' t ht).1]
  walk_at "s"
  refine p_f_plus (by omega) ?_
  walk_at "s"
  refine ⟨by rw [List.length_map, List.length_map]; omega, ?_⟩
  rw [td_map]
  refine p_lfsum (ts := one ++ two) rfl (by rw [List.length_append]; omega) ?_
  walk_at "s"
  refine ⟨shTdT _, shTdT _, ?_⟩
  rw [eqvTdT, decide_eq_true (frm_ext fun k => by rw [cs_app, cs_app, cs_frm, cs_frm]), if_neg (by decide)]
  have n12 : (frm one).length * (frm two).length ≤ 10 * 6 := Nat.mul_le_mul (by omega) (by omega)
  refine p_f_times f1 f2 (by omega) (by omega) ?_
  walk_at "s"
  refine p_lprods f1 f2 (by omega) (by omega) ?_
  walk_at "s"
  refine ⟨shTdT _, shTdT _, ?_⟩
  rw [eqvTdT, decide_eq_true rfl, if_neg (by decide)]
  refine p_cell (i := 2) ?_
  walk_at "s"
  refine p_ldraws (m := 2) (by omega) fun xs3 hs4 => ?_
  walk_at "s"
  refine p_lweight hs4 fun w ys3 wB hs5 => ?_
  walk_at "s"
  refine p_f_scaled (fun t ht => (f1 t ht).2) wB (by omega) (by omega) ?_
  walk_at "s"
  refine lc_as td (fun t : Tm => td (t.1, t.2 * w)) (fun t ht kk hk => ?_) (by omega) ?_
  · simp only [td, e_law_1, ↓wE.eq_1, ↓wE.eq_2, ↓wE.eq_3, ↓wE.eq_4, ↓wE.eq_5, ↓wE.eq_6, ↓wE.eq_7, ↓wE.eq_8, ↓wE.eq_9, ↓wE.eq_10, ↓wE.eq_11, ↓wE.eq_12, ↓wE.eq_13, ↓wE.eq_14, ↓wE.eq_15, ↓wE.eq_16, ↓wE.eq_18, ↓wE.eq_19, ↓wE.eq_22, ↓wE.eq_23, ↓wE.eq_24, ↓wE.eq_25, ↓wE.eq_26, ↓wE.eq_27, ↓wE.eq_28, ↓wE.eq_29, ↓wE.eq_30, ↓wE.eq_31, ↓wE.eq_32, ↓wE.eq_34, ↓wE.eq_35, ↓wE.eq_36, ↓wE.eq_37, ↓wE.eq_38, ↓wE.eq_39, ↓wE.eq_40, ↓wE.eq_41, ↓wE_call, ↓wE_callP, ↓wE_lc, ↓wE_lcg, ↓wE_isv, ↓wE_ix, ↓ix_fr0, ↓ix_fr1, ↓cmp_fr, ↓cmp_frn, ↓cmp_fr0, ↓cmp_tz, ↓cmp_tzn, ↓cmp_tz0, ↓cmp_tzn0, ↓bi_list_tz, ↓add_tz,   ↓len_tz, ↓len_fr, ↓isT_fr, items_tz, ↓cmp_bb, ↓cmp_bbn, ↓wS_whl, ↓wS_for, ↓wS_forP, ↓wS_asg, ↓wS_par, ↓wS_setIx, ↓wS_app, ↓tgW_one, ↓tgW_tup, pvF_eq, ↓wS.eq_1, ↓wS.eq_2, ↓wS.eq_3, ↓wS.eq_5, ↓wS.eq_7, ↓wS.eq_10, ↓wS.eq_11, ↓wS.eq_12, ↓wS.eq_13, ↓wS.eq_14, ↓wS.eq_15, ↓wS.eq_16, ↓wS.eq_17, ↓wS.eq_20, ↓wS.eq_21, ↓wS.eq_22, ↓wS.eq_23, ↓wS.eq_24, ↓wS.eq_25, ↓wS.eq_26, ↓wS.eq_27, ↓wS.eq_28, ↓wS.eq_29, ↓wS.eq_30, ↓augW.eq_1, ↓augW.eq_2, ↓augW.eq_3, ↓augW.eq_4, ↓inW.eq_1, ↓inW.eq_2, ↓inW.eq_3, ↓inW.eq_4, ↓zipW.eq_1, ↓zipW.eq_2, ↓zipW.eq_3, ↓cntW.eq_1, ↓dspW.eq_1, ↓idxW.eq_1, ↓opW.eq_1, ↓opW.eq_2, ↓opW.eq_3, ↓opW.eq_4, ↓opW.eq_5, ↓opW.eq_6, ↓opW.eq_7, ↓opW.eq_8, ↓opW.eq_9, ↓opW.eq_10, ↓opW.eq_11, ↓opW.eq_12, ↓opW.eq_13, ↓opW.eq_14, ↓cmpW.eq_1, ↓cmpW.eq_2, ↓cmpW.eq_5, ↓cmpW.eq_6, ↓cmpW.eq_7, ↓cmpW.eq_8, ↓cmpW.eq_9, ↓cmpW.eq_10, ↓cmpW.eq_11, ↓cmpW.eq_12, ↓cmp_ll, ↓cmp_lln, ↓cmp_tt, ↓cmp_ttn, ↓biW.eq_1, ↓biW.eq_2, ↓biW.eq_3, ↓biW.eq_4, ↓biW.eq_5, ↓biW.eq_6, ↓biW.eq_7, ↓biW.eq_8, ↓biW.eq_9, ↓biW.eq_10, ↓biW.eq_11, ↓biW.eq_12, ↓biW.eq_13, ↓biW.eq_14, ↓biW.eq_15, ↓biW.eq_16, ↓biW.eq_17, ↓lenW.eq_1, ↓lenW.eq_2, ↓slW.eq_1, ↓slW.eq_2, ↓revW.eq_1, ↓revW.eq_2, ↓pkW_var, ↓ptW_nil, ↓ptK_i, ↓pkW_cst, ↓pkW_tup, ↓pkW_lst, ↓pkW_bin, ↓pkW_neg, ↓pkW_ix, ↓pkW_sl, ↓pkW_rev, ↓pkW_call, ↓pkW_callP, ↓pkW_bi, ↓pkW_len, ↓pkW_lc, ↓pkW_ite, ↓pkW_gc, ↓pkW_mov, ↓pkW_dsp, ↓pkW_bone, ↓pkW_cmp, ↓pkW_cnt, ↓ptW_cst, ↓ptW_tup, ↓ptW_lst, ↓ptW_bin, ↓ptW_neg, ↓ptW_ix, ↓ptW_sl, ↓ptW_rev, ↓ptW_call, ↓ptW_callP, ↓ptW_bi, ↓ptW_len, ↓ptW_lc, ↓ptW_ite, ↓ptW_gc, ↓ptW_mov, ↓ptW_dsp, ↓ptW_bone, ↓ptW_cmp, ↓ptW_cnt, ↓ptW_var, ↓peek, ↓ownAt, ↓kD.eq_1, ↓kD.eq_2, ↓kM.eq_1, ↓kB.eq_1, ↓kV.eq_1, ↓kV.eq_2, ↓setW, ↓rngW1.eq_1, ↓rngW2.eq_1, ↓rngWd.eq_1, isVar, isNil, isT, gv, pv, setAll, ev0, items.eq_1, items.eq_2, tgs, wipeE, blind_cons, blind_nil, bl1, runB, List.map_cons, List.map_nil, List.replicate, List.cons_append, List.nil_append, if_true, if_false, ite_true, ite_false, reduceCtorEq, Bool.true_and, Bool.and_true, Bool.not_true, Bool.not_false, Bool.false_eq_true, ↓reduceIte, Nat.reduceSub, Nat.reduceAdd, List.length_cons, List.length_nil, decide_eq_true_eq, Bool.not_eq_true', decide_eq_false_iff_not, Bool.and_false, Bool.false_and, true_and, and_true, Nat.sub_self, Nat.succ_eq_add_one, flat, Nat.reduceLeDiff, Int.reduceLE, Int.reduceLT, Int.reduceEq, ne_eq, not_false_eq_true, s10, la_2, la_3, la_4, la_5, la_6, la_7, la_8, la_9, la_10, la_11, la_12, la_13, la_14, la_15, la_16, la_18, la_19, la_20, la_21, la_24, la_25, la_28, la_30, la_35, la_36, la_39, la_40, la_41, la_44, la_45, la_49, la_50, la_52, la_54, la_57, la_63, la_64, la_65, la_72, la_78, la_81, la_90, la_100, la_121, la_123, la_125, la_126, la_144, la_162, la_168, la_176, la_196, la_200, la_216, la_240, la_360, la_369, la_400, la_402, la_441, la_540, la_550, la_900, la_907, la_997, la_1009, la_1100, la_1152, la_1440, la_1764, la_2001, la_2003, la_2200, la_3150, la_4099, la_16807, la_22500, la_24200, la_72600, Nat.reduceLT, ↓ix_t0, ↓ix_t1, ↓ix_t2, ↓ix_t3, ↓ix_t4, ↓ix_t5, ↓ix_t6, ↓ix_l0, ↓ix_l1, ↓ix_l2, ↓ix_l3, ↓ix_l4, ↓ix_l5, ↓ix_l6, ↓add_ttz, ↓isT_tz, ↓sl_tz, isN_non, isN_tup, isN_lst, isN_int, isN_str, isN_bl, isN_fr, isN_tz, ↓hS.eq_1, ↓hS.eq_2, ↓hS.eq_3, ↓hS.eq_4, hE, hB, ↓hide.eq_1, ↓hide.eq_2, isS, Nat.reduceBEq, Bool.or_true, Bool.or_false, Bool.true_or, Bool.false_or, beq_self_eq_true, not_true_eq_false, Int.cast_ofNat_Int, ↓wE_callL, ↓wE_callLP, ↓kR_d, ↓kR_o, ↓kT_twoO, ↓kTP_two, ↓kTP_twoO, ↓pkW_callLP, ↓wE_lemp, ↓wE_lix, ↓wE_lpop0, ↓wE_lcL, ↓wE_lcK, ↓pkW_lcK, ↓kT_two, ↓lentAt, unlend_nil, unlend_cons, ul1_n, ul1_d, ul1_o, ul1_l, ↓wS_lend, ↓wS_lfn, ↓wS_retL, ↓wS_lset, ↓wS_asgN, ↓tgW_nst, noTwo_d, noTwo_o, ↓pkW_callL, ↓pkW_lix, ↓pkW_lemp, ↓pkW_lpop0, ↓pkW_lcL, ↓ptW_callL, ↓ptW_lix, ↓wE_lit, ↓pkW_lit, ↓ptW_lit, ↓cmp_geT, ↓wE_dget, ↓wE_dix, ↓wE_dsrt, ↓wE_dlc, ↓wE_lcD, ↓wE_srt, ↓wS_dnewT, ↓wS_dnewI, ↓wS_dset, ↓dictAt, itemsD_I, itemsD_T, ↓pkW_dget, ↓ptW_dget, ↓pkW_dix, ↓ptW_dix, ↓pkW_dsrt, ↓ptW_dsrt, ↓pkW_dlc, ↓ptW_dlc, ↓pkW_lcD, ↓ptW_lcD, ↓pkW_srt, ↓ptW_srt, ↓wE_callF, ↓kF_o, ↓wE_rvl, ↓rvlK_l, ↓wE_lset, ↓lsetK_l, ↓wE_emp, ↓wE_lcO, ↓pkW_lcO, ↓ptW_lcO, hTx, ↓hS.eq_5, ↓pkW_callF, ↓ptW_callF, ↓pkW_rvl, ↓ptW_rvl, ↓pkW_lset, ↓ptW_lset, ↓pkW_emp, ↓ptW_emp]
    refine ⟨mulOk_of (k1' t ht).2 wB (by omega), ?_⟩
    exact hk _
  walk_at "s"
  refine p_lfsum (ts := one.map fun t => (t.1, t.2 * w)) (by rw [List.map_map]; rfl) (by rw [List.length_map]; omega) ?_
  walk_at "s"
  refine ⟨shTdT _, shTdT _, ?_⟩
  rw [eqvTdT, decide_eq_true (frm_ext fun k => by rw [cs_scl, cs_scl, cs_frm]), if_neg (by decide)]
  refine p_cell (i := 3) ?_
  walk_at "s"
  refine p_ldraws (m := 18) (by omega) fun xs4 hs6 => ?_
  walk_at "s"
  refine p_lfraction hs6 fun a ys4 aS hs7 => ?_
  walk_at "s"
  refine p_lfraction hs7 fun b ys5 bS hs8 => ?_
  walk_at "s"
  refine p_lfraction hs8 fun c ys6 cS hs9 => ?_
  walk_at "s"
  refine p_lvalue aS bS cS f1 (by omega) (by omega) (by omega) fun top bot hV b0 tB bB => ?_
  walk_at "s"
  refine p_f_value aS bS cS f1 (by omega) (by omega) (by omega) ?_
  walk_at "s"
  refine p_lis (tB.mono (by omega)) (bB.mono (by omega)) ?_ hV ?_
  · rw [← fv_end hV (by omega)]
    exact sz_divInt (by omega) (tB.mono (by omega)) (bB.mono (by omega))
  walk_at "s"
  exact h
theorem holds : PySem.Challenge.rw_rootcourt_k33_forms_made.Holds := holds_of 4 ⟨rfl, by decide, by decide⟩ fun ns _ _ => p_law (k := 0) rfl
end

end K33

theorem PySem.Challenge.cw_rootcourt_k33_forms_made_holds : PySem.Challenge.rw_rootcourt_k33_forms_made.Holds := by
  exact K33.holds

