import PyProof.Rows.All
import Wide.All
import OpenK.AllK
import Wide.FinOn
import KE.KStateDown
import KE.KTupSum
import HandS.Base
import HandS.Call
import HandS.List
import HandS.Comp
import HandS.Ends
import HandS.Iter
import HandS.Text
import HandS.Walk
import HandS.Wide
import HandS.Rev
import HandS.Zip
import HandS.TupAny
import HandS.TupMul
import HandS.Style
import HandS.IsInst
import HandS.Deep
import HandS.Exc
import HandS.ExcOwn
import HandS.TryOnly
import HandS.CallSlots
import HandS.RevRange
import HandS.More
import HandS.SetFor
import HandS.Words
import HandS.WordsExc
import HandS.WordsList
import HandS.ExcIs
import KE.KIsAll
import KE.GoesEnum
import HandS.Defaults
import HandS.Head0
import HandS.Head1
import HandS.Head2
import HandS.HeadEnd
import HandS.EndBits
import HandS.HeadHook1
import HandS.HeadHook2
import HandS.HeadHook4
import PySem.Challenge.RW_rootcourt_k20_cuts_told
set_option Elab.async false
set_option linter.all false
set_option maxRecDepth 100000
set_option maxHeartbeats 4000000
/-! The small language: its data, its terms, what they mean. No heap here. -/
namespace Rc
open PySem

abbrev D := PyData
/-- what a name holds: data that stands still, or a list that this frame alone has and may change -/
inductive Val where
  | d (x : D) | own (xs : List D) | many (xs : List D) | exc (c : Nat)
abbrev Ev := List (Option Val)
def gv : Ev → Nat → Option Val
  | [], _ => none
  | x :: _, 0 => x
  | _ :: r, n + 1 => gv r n
def pv : Ev → Nat → Option Val → Ev
  | [], _, _ => []
  | _ :: r, 0, v => v :: r
  | x :: r, n + 1, v => x :: pv r n v

inductive Ty where
  | int | bool | tuple | list | str
  deriving DecidableEq
inductive Bi where
  | abs | int | list | tuple | max | min | all | any | sum | str
  deriving DecidableEq
inductive Tg where
  | one (j : Nat) | tup (js : List Nat)
inductive IE where
  | nil | cons (a r : IE) | consP (a r : IE)
  | var (j : Nat) | mov (j : Nat)
  | cst (c : D)
  | tup (a : IE) | lst (a : IE)
  | bin (o : Operator) (a b : IE)
  | cmp (o : CmpOp) (a b : IE)
  | neg (a : IE)
  | bnot (a : IE) | band (a r : IE) | bor (a r : IE) | bone (a : IE)
  | ite (c a b : IE)
  | ix (a b : IE)
  | sl (a lo hi : IE)
  | rev (a : IE)
  | call (f : Nat) (a : IE) | callP (f : Nat) (a : IE)
  | bi (b : Bi) (a : IE) | len (a : IE)
  | isi (t : Ty) (a : IE)
  | isx (c : Nat) (j : Nat)
  | itv (a : IE) | rng1 (a : IE) | rng2 (a b : IE) | rngd (a b : IE) | enm (a : IE) | rvd (a : IE) | zip (a b : IE)
  | lc (t : Tg) (it c elt : IE)
  | inn (neg : Bool) (a b : IE) | cmp2 (o o' : CmpOp) (a b c : IE) | cnt (a b : IE) | dsp (kvs : List (Str × D)) (a : IE) | rvr (a : IE) | gc (f : Nat) (d : D) | lsc (a : IE)
/-- what an except suite reckons: it knows the class that was caught alone -/
inductive HE where
  | cst (c : D) | isx (c : Nat) | isv
  | bnot (a : HE) | band (a r : HE) | bor (a r : HE) | bone (a : HE)
inductive HS where
  | nil | asg (j : Nat) (e : HE) (r : HS) | ite (c : HE) (a b r : HS) | ret (e : HE)
/-- class c' is a class c: class 0 is above all others -/
def isS (c' c : Nat) : Bool := c == 0 || c == c'
def hB (c' : Nat) : HE → Bool
  | .cst (.bool b) => b
  | .cst _ => false
  | .isx c => isS c' c
  | .isv => true
  | .bnot a => !hB c' a
  | .band a r => hB c' a && hB c' r
  | .bor a r => hB c' a || hB c' r
  | .bone a => hB c' a
def hE (c' : Nat) : HE → D
  | .cst c => c
  | e => .bool (hB c' e)
inductive IS where
  | nil | seq (s r : IS) | still (j : Nat) (r : IS)
  | asg (j : Nat) (e : IE)
  | asgT (js : List Nat) (e : IE)
  | par (i j : Nat) (a b : IE) | par3 (i j l : Nat) (a b c : IE)
  | setIx (j : Nat) (k e : IE)
  | app (j : Nat) (e : IE) | pop (j : Nat) | popT (t : Tg) (j : Nat) | ins (j : Nat) (k e : IE) | clr (j : Nat)
  | drop (e : IE)
  | ret (e : IE) | retN
  | ite (c : IE) (a b : IS) | whl (c : IE) (b : IS) | forr (t : Tg) (it : IE) (b : IS)
  | raise (c : Nat)
  | try1 (b : IS) (c : Nat) (j : Option Nat) (h : HS)
  | brk | cont | pass | never
  | aug (j : Nat) (o : Operator) (e : IE) | ext (j : Nat) (e : IE) | popI (t : Tg) (j : Nat) (k : IE)
  | set2 (j : Nat) (k l e : IE)
  | clrE (e : IE) | forP (t : Tg) (j : Nat) (c e : IE)

/-- what may be wanted of an error -/
abbrev XP := Nat → Ev → Prop
abbrev KE := Val → Ev → Prop
def kD (k : D → Ev → Prop) : KE := fun v ε => match v with
  | .d x => k x ε
  | .own xs => k (.list xs) ε
  | _ => False
def kM (k : List D → Ev → Prop) : KE := fun v ε => match v with
  | .many xs => k xs ε
  | _ => False
def kB (k : Bool → Ev → Prop) : KE := fun v ε => match v with
  | .d (.bool b) => k b ε
  | _ => False
/-- a name, looked at -/
def isVar : IE → Option Nat
  | .var j => some j
  | _ => none
def peek (ε : Ev) (j : Nat) (k : D → Ev → Prop) : Prop := match gv ε j with
  | some (.d x) => k x ε
  | some (.own xs) => k (.list xs) ε
  | _ => False

def cut {α : Type} (xs : List α) (lo hi : Option Int) : List α := (xs.drop (HT.sIx xs.length 0 lo)).take (HT.sIx xs.length xs.length hi - HT.sIx xs.length 0 lo)
def small64 (i : Int) : Prop := -(2 ^ 64) < i ∧ i < 2 ^ 64
def mulOk (i j : Int) : Prop := small64 i ∨ small64 j ∨ i.natAbs.log2 + j.natAbs.log2 + 2 ≤ 134217728
def opW : Operator → D → D → (Val → Prop) → Prop
  | .Add, .int i, .int j, Q => Q (.d (.int (i + j)))
  | .Add, .tuple a, .tuple b, Q => a.length + b.length ≤ 16777216 ∧ Q (.d (.tuple (a ++ b)))
  | .Add, .list a, .list b, Q => a.length + b.length ≤ 16777216 ∧ Q (.own (a ++ b))
  | .Add, .str a, .str b, Q => a.length + b.length ≤ 16777216 ∧ Q (.d (.str (a ++ b)))
  | .Sub, .int i, .int j, Q => Q (.d (.int (i - j)))
  | .Mult, .int i, .int j, Q => mulOk i j ∧ Q (.d (.int (i * j)))
  | .Mult, .list a, .int k, Q => -(2 ^ 63) ≤ k ∧ k < 2 ^ 63 ∧ a.length * k.toNat ≤ 16777216 ∧ Q (.own (List.replicate k.toNat a).flatten)
  | .FloorDiv, .int i, .int j, Q => j ≠ 0 ∧ Q (.d (.int (i.fdiv j)))
  | .Mod, .int i, .int j, Q => j ≠ 0 ∧ Q (.d (.int (i.fmod j)))
  | .Pow, .int i, .int j, Q => 0 ≤ j ∧ j ≤ 1000000 ∧ small64 i ∧ Q (.d (.int (i ^ j.toNat)))
  | .LShift, .int i, .int j, Q => 0 ≤ j ∧ j ≤ 1000000 ∧ small64 i ∧ Q (.d (.int (i * 2 ^ j.toNat)))
  | .RShift, .int i, .int j, Q => 0 ≤ j ∧ Q (.d (.int (i / 2 ^ j.toNat)))
  | .BitAnd, .int i, .int j, Q => Q (.d (.int (Builtin.bitAnd i j)))
  | .Mult, .tuple a, .int k, Q => -(2 ^ 63) ≤ k ∧ k ≤ 1000 ∧ a.length ≤ 1000 ∧ Q (.d (.tuple (List.replicate k.toNat a).flatten))
  | _, _, _, _ => False
def isNone : D → Bool
  | .none => true
  | _ => false
def cmpW : CmpOp → D → D → (Bool → Prop) → Prop
  | .Eq, .int i, .int j, Q => Q (decide (i = j))
  | .NotEq, .int i, .int j, Q => Q (!decide (i = j))
  | .Eq, a, b, Q => SeqAt.shaped a = true ∧ SeqAt.shaped b = true ∧ Q (PyData.eqv a b)
  | .NotEq, a, b, Q => SeqAt.shaped a = true ∧ SeqAt.shaped b = true ∧ Q (!PyData.eqv a b)
  | .Lt, .int i, .int j, Q => Q (decide (i < j))
  | .LtE, .int i, .int j, Q => Q (decide (i ≤ j))
  | .Gt, .int i, .int j, Q => Q (decide (j < i))
  | .GtE, .int i, .int j, Q => Q (decide (j ≤ i))
  | .Is, a, .none, Q => Q (isNone a)
  | .IsNot, a, .none, Q => Q (!isNone a)
  | .Is, .bool a, .bool b, Q => Q (decide (a = b))
  | .IsNot, .bool a, .bool b, Q => Q (!decide (a = b))
  | _, _, _, _ => False
def flatD : D → Bool
  | .none | .bool _ | .int _ | .str _ => true
  | _ => false
/-- x in y -/
def inW : D → D → (Bool → Prop) → Prop
  | x, .list ys, Q => SeqAt.shaped x = true ∧ SeqAt.shaped (.list ys) = true ∧ Q (ys.any fun z => PyData.eqv z x)
  | x, .tuple ys, Q => flatD x = true ∧ ys.all flatD = true ∧ Q (ys.any fun z => PyData.eqv z x)
  | .str i, .str j, Q => Q (!(Builtin.Str.occurrences j i 0 j.length 1).isEmpty)
  | _, _, _ => False
/-- what a display of texts tells -/
def dspGet (s : Str) : List (Str × D) → Option D
  | [] => none
  | (x, d) :: r => if x = s then some d else dspGet s r
def dspW (kvs : List (Str × D)) : D → (D → Prop) → Prop
  | .str s, Q => ∃ d, dspGet s kvs = some d ∧ Q d
  | _, _ => False
def ixW : D → D → (D → Prop) → Prop
  | .list xs, .int i, Q => ∃ v, L2.atI xs i = some v ∧ Q v
  | .tuple xs, .int i, Q => ∃ v, L2.atI xs i = some v ∧ Q v
  | _, _, _ => False
def slW : D → Option Int → Option Int → (Val → Prop) → Prop
  | .list xs, lo, hi, Q => Q (.own (cut xs lo hi))
  | .tuple xs, lo, hi, Q => Q (.d (.tuple (cut xs lo hi)))
  | _, _, _, _ => False
def revW : D → (Val → Prop) → Prop
  | .list xs, Q => Q (.own xs.reverse)
  | .tuple xs, Q => Q (.d (.tuple xs.reverse))
  | _, _ => False
def isT : Ty → D → Bool
  | .int, .int _ => true
  | .int, .bool _ => true
  | .bool, .bool _ => true
  | .tuple, .tuple _ => true
  | .list, .list _ => true
  | .str, .str _ => true
  | _, _ => false
def asInts : List D → Option (List Int)
  | [] => some []
  | .int i :: r => (asInts r).map (i :: ·)
  | _ :: _ => none
def asBools : List D → Option (List Bool)
  | [] => some []
  | .bool i :: r => (asBools r).map (i :: ·)
  | _ :: _ => none
def biW : Bi → List D → (Val → Prop) → Prop
  | .abs, [.int i], Q => Q (.d (.int (if i < 0 then -i else i)))
  | .int, [.int i], Q => Q (.d (.int i))
  | .int, [.bool b], Q => Q (.d (.int (if b then 1 else 0)))
  | .list, [.list xs], Q => Q (.own xs)
  | .list, [.tuple xs], Q => Q (.own xs)
  | .tuple, [.list xs], Q => Q (.d (.tuple xs))
  | .tuple, [.tuple xs], Q => Q (.d (.tuple xs))
  | .max, [.int i, .int j], Q => Q (.d (.int (if j > i then j else i)))
  | .min, [.int i, .int j], Q => Q (.d (.int (if j < i then j else i)))
  | .max, [.list xs], Q => ∃ ns m, asInts xs = some ns ∧ m ∈ ns ∧ (∀ y ∈ ns, y ≤ m) ∧ Q (.d (.int m))
  | .min, [.list xs], Q => ∃ ns m, asInts xs = some ns ∧ m ∈ ns ∧ (∀ y ∈ ns, m ≤ y) ∧ Q (.d (.int m))
  | .sum, [.list xs], Q => ∃ ns, asInts xs = some ns ∧ Q (.d (.int ns.sum))
  | .sum, [.tuple xs], Q => ∃ ns, asInts xs = some ns ∧ Q (.d (.int ns.sum))
  | .all, [.list xs], Q => ∃ bs, asBools xs = some bs ∧ Q (.d (.bool (bs.all id)))
  | .any, [.list xs], Q => ∃ bs, asBools xs = some bs ∧ Q (.d (.bool (bs.any id)))
  | .str, [.int i], Q => i.natAbs.log2 < 1920 ∧ Q (.d (.str (toString i)))
  | _, _, _ => False
def cntW : D → D → (Int → Prop) → Prop
  | .list xs, .int i, Q => ∃ ns, asInts xs = some ns ∧ Q ((ns.count i : Nat) : Int)
  | _, _, _ => False
def lenW : D → (Int → Prop) → Prop
  | .list xs, Q => Q xs.length
  | .tuple xs, Q => Q xs.length
  | _, _ => False
def rngW1 : D → (List D → Prop) → Prop
  | .int n, Q => (n < 2 ^ 62 ∧ -(2 ^ 62) ≤ n) ∧ Q ((List.range n.toNat).map fun (i : Nat) => .int i)
  | _, _ => False
def rngW2 : D → D → (List D → Prop) → Prop
  | .int a, .int b, Q => (-(2 ^ 62) ≤ a ∧ a < 2 ^ 62 ∧ -(2 ^ 62) ≤ b ∧ b < 2 ^ 62) ∧ Q ((List.range (b - a).toNat).map fun (i : Nat) => .int (a + i))
  | _, _, _ => False
def rngWd : D → D → (List D → Prop) → Prop
  | .int a, .int b, Q => (-(2 ^ 62) ≤ a ∧ a < 2 ^ 62 ∧ -(2 ^ 62) ≤ b ∧ b < 2 ^ 62) ∧ Q ((List.range (a - b).toNat).map fun (i : Nat) => .int (a - i))
  | _, _, _ => False
def items : D → Option (List D)
  | .list xs => some xs
  | .tuple xs => some xs
  | _ => none
def enums (n : Nat) : List D → List D
  | [] => []
  | x :: r => .tuple [.int n, x] :: enums (n + 1) r
def zips : List D → List D → List D
  | x :: r, y :: t => .tuple [x, y] :: zips r t
  | _, _ => []
def zipW : D → D → (List D → Prop) → Prop
  | .list xs, .list ys, Q => Q (zips xs ys)
  | .tuple xs, .tuple ys, Q => Q (zips xs ys)
  | _, _, _ => False
def setAll : List Nat → List D → Ev → Ev
  | j :: js, x :: xs, ε => setAll js xs (pv ε j (some (.d x)))
  | _, _, ε => ε
def tgW : Tg → D → Ev → (Ev → Prop) → Prop
  | .one j, x, ε, K => K (pv ε j (some (.d x)))
  | .tup js, .tuple xs, ε, K => xs.length = js.length ∧ K (setAll js xs ε)
  | _, _, _, _ => False
def tgs : Tg → List Nat
  | .one j => [j]
  | .tup js => js
def wipeE (ε : Ev) : List Nat → Ev
  | [] => ε
  | j :: js => pv (wipeE ε js) j none
/-- a frame's own lists are out of sight -/
def blind : Ev → Ev
  | [] => []
  | some (.d x) :: r => some (.d x) :: blind r
  | _ :: r => none :: blind r
/-- a comprehension's turns: C the test, E the element -/
def lcW (t : Tg) (ε : Ev) (C : Ev → (Bool → Ev → Prop) → Prop) (E : Ev → (D → Ev → Prop) → Prop) : List D → List D → (List D → Prop) → Prop
  | [], acc, K => K acc
  | x :: r, acc, K => tgW t x (wipeE (blind ε) (tgs t)) fun ε1 => C ε1 fun b ε2 =>
      if b = true then E ε2 fun y _ => acc.length < 16777216 ∧ lcW t ε C E r (acc ++ [y]) K else lcW t ε C E r acc K
/-- what the defs do -/
abbrev Fs := Nat → List D → (Nat → Prop) → (Val → Prop) → Prop
def flat : Val → Bool
  | .d .none | .d (.bool _) | .d (.int _) | .d (.str _) => true
  | _ => false
/-- an operand: a name is only looked at -/
def pkW (i : IE) (ε : Ev) (T : KE → Prop) (k : D → Ev → Prop) : Prop := match isVar i with
  | some j => peek ε j k
  | none => T (kD k)
def isNil : IE → Bool
  | .nil => true
  | _ => false
def ptW (i : IE) (ε : Ev) (T : KE → Prop) (k : Option Int → Ev → Prop) : Prop :=
  if isNil i = true then k none ε else T (kD fun y ε1 => match y with | .int h => k (some h) ε1 | _ => False)
section
variable (Φ : Fs)
def wE : IE → Ev → XP → KE → Prop
  | .nil, ε, _, Q => Q (.many []) ε
  | .cons a r, ε, X, Q => wE a ε X (kD fun x ε1 => wE r ε1 X (kM fun xs ε2 => Q (.many (x :: xs)) ε2))
  | .consP a r, ε, X, Q => pkW a ε (fun T => wE a ε X T) fun x ε1 => wE r ε1 X (kM fun xs ε2 => Q (.many (x :: xs)) ε2)
  | .var j, ε, _, Q => (match gv ε j with
    | some (.d x) => Q (.d x) ε
    | some (.own xs) => Q (.d (.list xs)) (pv ε j (some (.d (.list xs))))
    | _ => False)
  | .mov j, ε, _, Q => (match gv ε j with
    | some (.d x) => Q (.d x) ε
    | some (.own xs) => Q (.own xs) (pv ε j none)
    | _ => False)
  | .cst c, ε, _, Q => Q (.d c) ε
  | .tup a, ε, X, Q => wE a ε X (kM fun xs ε1 => xs.length ≤ 16777216 ∧ Q (.d (.tuple xs)) ε1)
  | .lst a, ε, X, Q => wE a ε X (kM fun xs ε1 => xs.length ≤ 16777216 ∧ Q (.own xs) ε1)
  | .bin o a b, ε, X, Q => wE a ε X (kD fun x ε1 => wE b ε1 X (kD fun y ε2 => opW o x y fun v => Q v ε2))
  | .cmp o a b, ε, X, Q => pkW a ε (fun T => wE a ε X T) fun x ε1 => pkW b ε1 (fun T => wE b ε1 X T) fun y ε2 => cmpW o x y fun c => Q (.d (.bool c)) ε2
  | .neg a, ε, X, Q => wE a ε X (kD fun x ε1 => match x with
    | .int i => Q (.d (.int (-i))) ε1
    | _ => False)
  | .bnot a, ε, X, Q => wE a ε X (kB fun b ε1 => Q (.d (.bool (!b))) ε1)
  | .band a r, ε, X, Q => wE a ε X (kB fun b ε1 => if b = true then wE r ε1 X Q else Q (.d (.bool false)) ε1)
  | .bor a r, ε, X, Q => wE a ε X (kB fun b ε1 => if b = true then Q (.d (.bool true)) ε1 else wE r ε1 X Q)
  | .bone a, ε, X, Q => wE a ε X (kD fun x ε1 => Q (.d x) ε1)
  | .ite c a b, ε, X, Q => wE c ε X (kB fun t ε1 => if t = true then wE a ε1 X Q else wE b ε1 X Q)
  | .ix a b, ε, X, Q => pkW a ε (fun T => wE a ε X T) fun x ε1 => wE b ε1 X (kD fun y ε2 => ixW x y fun v => Q (.d v) ε2)
  | .sl a lo hi, ε, X, Q => pkW a ε (fun T => wE a ε X T) fun x ε1 => ptW lo ε1 (fun T => wE lo ε1 X T) fun l ε2 => ptW hi ε2 (fun T => wE hi ε2 X T) fun h ε3 => slW x l h fun v => Q v ε3
  | .rev a, ε, X, Q => pkW a ε (fun T => wE a ε X T) fun x ε1 => revW x fun v => Q v ε1
  | .call f a, ε, X, Q => wE a ε X (kM fun ds ε1 => Φ f ds (fun c => X c ε1) fun v => Q v ε1)
  | .callP f a, ε, X, Q => wE a ε X (kM fun ds ε1 => Φ f ds (fun c => X c ε1) fun v => flat v = true ∧ Q v ε1)
  | .bi b a, ε, X, Q => wE a ε X (kM fun ds ε1 => biW b ds fun v => Q v ε1)
  | .len a, ε, X, Q => pkW a ε (fun T => wE a ε X T) fun x ε1 => lenW x fun n => Q (.d (.int n)) ε1
  | .isi t a, ε, X, Q => pkW a ε (fun T => wE a ε X T) fun x ε1 => Q (.d (.bool (isT t x))) ε1
  | .isx c j, ε, X, Q => False
  | .itv a, ε, X, Q => wE a ε X (kD fun x ε1 => match items x with
    | some xs => Q (.many xs) ε1
    | none => False)
  | .rng1 a, ε, X, Q => wE a ε X (kD fun x ε1 => rngW1 x fun xs => Q (.many xs) ε1)
  | .rng2 a b, ε, X, Q => wE a ε X (kD fun x ε1 => wE b ε1 X (kD fun y ε2 => rngW2 x y fun xs => Q (.many xs) ε2))
  | .rngd a b, ε, X, Q => wE a ε X (kD fun x ε1 => wE b ε1 X (kD fun y ε2 => rngWd x y fun xs => Q (.many xs) ε2))
  | .enm a, ε, X, Q => wE a ε X (kD fun x ε1 => match items x with
    | some xs => Q (.many (enums 0 xs)) ε1
    | none => False)
  | .rvd a, ε, X, Q => wE a ε X (kD fun x ε1 => match items x with
    | some xs => Q (.many xs.reverse) ε1
    | none => False)
  | .zip a b, ε, X, Q => wE a ε X (kD fun x ε1 => wE b ε1 X (kD fun y ε2 => zipW x y fun zs => Q (.many zs) ε2))
  | .lc t it c elt, ε, X, Q => wE it ε X (kM fun xs ε1 =>
      lcW t ε1 (fun ε2 k => if isNil c = true then k true ε2 else wE c ε2 (fun _ _ => False) (kB k))
        (fun ε2 k => wE elt ε2 (fun _ _ => False) (kD k)) xs [] fun ys => Q (.own ys) ε1)
  | .inn neg a b, ε, X, Q => pkW a ε (fun T => wE a ε X T) fun x ε1 => pkW b ε1 (fun T => wE b ε1 X T) fun y ε2 => inW x y fun c => Q (.d (.bool (if neg = true then !c else c))) ε2
  | .cmp2 o o' a b c, ε, X, Q => wE a ε X (kD fun x ε1 => wE b ε1 X (kD fun y ε2 => cmpW o x y fun t =>
      if t = true then wE c ε2 X (kD fun z ε3 => cmpW o' y z fun u => Q (.d (.bool u)) ε3) else Q (.d (.bool false)) ε2))
  | .cnt a b, ε, X, Q => pkW a ε (fun T => wE a ε X T) fun x ε1 => isT .list x = true ∧ wE b ε1 X (kD fun y ε2 => cntW x y fun n => Q (.d (.int n)) ε2)
  | .dsp kvs a, ε, X, Q => wE a ε X (kD fun y ε1 => dspW kvs y fun d => Q (.d d) ε1)
  | .gc _ d, ε, _, Q => Q (.d d) ε
  | .rvr a, ε, X, Q => wE a ε X (kD fun x ε1 => rngW1 x fun xs => Q (.many xs.reverse) ε1)
  | .lsc a, ε, X, Q => pkW a ε (fun T => wE a ε X T) fun x ε1 => match items x with
    | some xs => Q (.own xs) ε1
    | none => False
end
/-! ### statements -/
structure En where
  nx : Ev → Prop
  rt : Val → Prop
  bk : Ev → Prop := fun _ => False
  ct : Ev → Prop := fun _ => False
  ex : XP := fun _ _ => False
def kV (k : Val → Ev → Prop) : KE := fun v ε => match v with
  | .d _ => k v ε
  | .own _ => k v ε
  | _ => False
def forW (t : Tg) (B : Ev → En → Prop) : List D → Ev → En → Prop
  | [], ε, D => D.nx ε
  | x :: r, ε, D => tgW t x ε fun ε1 => B ε1 { D with nx := fun e => forW t B r e D, ct := fun e => forW t B r e D, bk := D.nx }
def whlW (T : Ev → (Bool → Ev → Prop) → Prop) (B : Ev → En → Prop) (ε : Ev) (D : En) : Prop :=
  ∃ I : Nat → Ev → Prop, (∃ m, I m ε) ∧ ∀ m ε1, I m ε1 → T ε1 fun b ε2 =>
    if b = true then B ε2 { D with nx := fun e => ∃ m', m' < m ∧ I m' e, ct := fun e => ∃ m', m' < m ∧ I m' e, bk := D.nx } else D.nx ε2
def ownAt (ε : Ev) (j : Nat) (k : List D → Prop) : Prop := match gv ε j with
  | some (.own xs) => k xs
  | _ => False
/-- x op= y -/
def augW : Operator → D → D → (D → Prop) → Prop
  | .Add, .int i, .int j, Q => Q (.int (i + j))
  | .Add, .str a, .str b, Q => a.length + b.length ≤ 16777216 ∧ Q (.str (a ++ b))
  | .Sub, .int i, .int j, Q => Q (.int (i - j))
  | .Mult, .int i, .int j, Q => mulOk i j ∧ Q (.int (i * j))
  | _, _, _, _ => False
def hS (c' : Nat) : HS → Ev → En → Prop
  | .nil, ε, D => D.nx ε
  | .asg j e r, ε, D => hS c' r (pv ε j (some (.d (hE c' e)))) D
  | .ite c a b r, ε, D => if hB c' c = true then hS c' a ε { D with nx := fun ε1 => hS c' r ε1 D } else hS c' b ε { D with nx := fun ε1 => hS c' r ε1 D }
  | .ret e, _, D => D.rt (.d (hE c' e))
/-- the name of an except clause is out of sight -/
def hide (ε : Ev) : Option Nat → Ev
  | some j => pv ε j none
  | none => ε
/-- x[k] = v of a frame's own list -/
def setW (Φ : Fs) (j : Nat) (k : IE) (v : D) (ε : Ev) (X : XP) (K : Ev → Prop) : Prop := ownAt ε j fun _ => wE Φ k ε X (kD fun i ε2 => match i with
  | .int z => ownAt ε2 j fun xs => ∃ n, L2.ixN xs.length z = some n ∧ K (pv ε2 j (some (.own (xs.set n v))))
  | _ => False)
/-- for x in L: if c: return e -/
def forPW (t : Tg) (j : Nat) (xs0 : List D) (T : Ev → (Bool → Ev → Prop) → Prop) (Rt : Ev → Prop) (nx : Ev → Prop) : List D → Ev → Prop
  | [], ε => nx ε
  | x :: r, ε => tgW t x ε fun ε1 => T ε1 fun b ε2 => if b = true then Rt ε2 else gv ε2 j = some (.own xs0) ∧ forPW t j xs0 T Rt nx r ε2
section
variable (Φ : Fs)
def wS : IS → Ev → En → Prop
  | .nil, ε, D => D.nx ε
  | .seq s r, ε, D => wS s ε { D with nx := fun ε1 => wS r ε1 D }
  | .still j r, ε, D => wE Φ (.var j) ε (fun _ _ => False) (fun _ ε1 => wS r ε1 D)
  | .asg j e, ε, D => wE Φ e ε D.ex (kV fun v ε1 => D.nx (pv ε1 j (some v)))
  | .asgT js e, ε, D => wE Φ e ε D.ex (kD fun x ε1 => tgW (.tup js) x ε1 D.nx)
  | .par i j a b, ε, D => wE Φ a ε D.ex (kD fun x ε1 => wE Φ b ε1 D.ex (kD fun y ε2 => D.nx (pv (pv ε2 i (some (.d x))) j (some (.d y)))))
  | .par3 i j l a b c, ε, D => wE Φ a ε D.ex (kD fun x ε1 => wE Φ b ε1 D.ex (kD fun y ε2 => wE Φ c ε2 D.ex (kD fun z ε3 => D.nx (pv (pv (pv ε3 i (some (.d x))) j (some (.d y))) l (some (.d z))))))
  | .setIx j k e, ε, D => wE Φ e ε D.ex (kD fun v ε1 => ownAt ε1 j fun _ => wE Φ k ε1 D.ex (kD fun i ε2 => match i with
      | .int z => ownAt ε2 j fun xs => ∃ n, L2.ixN xs.length z = some n ∧ D.nx (pv ε2 j (some (.own (xs.set n v))))
      | _ => False))
  | .app j e, ε, D => ownAt ε j fun _ => wE Φ e ε D.ex (kD fun v ε1 => ownAt ε1 j fun xs => xs.length < 16777216 ∧ D.nx (pv ε1 j (some (.own (xs ++ [v])))))
  | .pop j, ε, D => ownAt ε j fun xs => xs ≠ [] ∧ D.nx (pv ε j (some (.own xs.dropLast)))
  | .popT t j, ε, D => ownAt ε j fun xs => ∃ x, xs[xs.length - 1]? = some x ∧ tgW t x (pv ε j (some (.own xs.dropLast))) D.nx
  | .ins j k e, ε, D => ownAt ε j fun _ => wE Φ k ε D.ex (kD fun i ε1 => wE Φ e ε1 D.ex (kD fun v ε2 => match i with
      | .int z => ownAt ε2 j fun xs => (0 ≤ z ∧ z < 2 ^ 63 ∧ xs.length < 16777216) ∧ D.nx (pv ε2 j (some (.own (xs.take z.toNat ++ [v] ++ xs.drop z.toNat))))
      | _ => False))
  | .clr j, ε, D => ownAt ε j fun _ => D.nx (pv ε j (some (.own [])))
  | .drop e, ε, D => wE Φ e ε D.ex (kV fun _ ε1 => D.nx ε1)
  | .ret e, ε, D => wE Φ e ε D.ex (kV fun v _ => D.rt v)
  | .retN, _, D => D.rt (.d .none)
  | .ite c a b, ε, D => wE Φ c ε D.ex (kB fun t ε1 => if t = true then wS a ε1 D else wS b ε1 D)
  | .whl c b, ε, D => whlW (fun ε1 k => wE Φ c ε1 D.ex (kB k)) (fun ε1 D' => wS b ε1 D') ε D
  | .forr t it b, ε, D => wE Φ it ε D.ex (kM fun xs ε1 => forW t (fun ε2 D' => wS b ε2 D') xs ε1 D)
  | .raise c, ε, D => D.ex c ε
  | .try1 b c j h, ε, D => wS b ε { D with ex := fun c' ε1 => if isS c' c = true then hS c' h (hide ε1 j) D else D.ex c' ε1 }
  | .brk, ε, D => D.bk ε
  | .cont, ε, D => D.ct ε
  | .pass, ε, D => D.nx ε
  | .never, _, _ => False
  | .aug j o e, ε, D => ∃ d0, gv ε j = some (.d d0) ∧ wE Φ e ε D.ex (kD fun y ε1 => ∃ d1, gv ε1 j = some (.d d1) ∧ augW o d1 y fun v => D.nx (pv ε1 j (some (.d v))))
  | .ext j e, ε, D => ownAt ε j fun _ => wE Φ e ε D.ex fun v ε1 => (match v with
      | .own ys => ownAt ε1 j fun xs => xs.length + ys.length ≤ 16777216 ∧ D.nx (pv ε1 j (some (.own (xs ++ ys))))
      | _ => False)
  | .popI t j k, ε, D => ownAt ε j fun _ => wE Φ k ε D.ex (kD fun i ε1 => match i with
      | .int z => ownAt ε1 j fun xs => (-(2 ^ 63) ≤ z ∧ z < 2 ^ 63) ∧ ∃ n x, seqIndex? z xs.length = some n ∧ xs[n]? = some x ∧ tgW t x (pv ε1 j (some (.own (xs.eraseIdx n)))) D.nx
      | _ => False)
  | .set2 j k l e, ε, D => wE Φ e ε D.ex (kD fun x ε1 => match x with
      | .tuple [v, w] => setW Φ j k v ε1 D.ex fun ε2 => setW Φ j l w ε2 D.ex D.nx
      | _ => False)
  | .clrE e, ε, D => wE Φ e ε D.ex fun v ε1 => (match v with
      | .own _ => D.nx ε1
      | _ => False)
  | .forP t j c e, ε, D => ownAt ε j fun xs => forPW t j xs (fun ε1 k => wE Φ c ε1 D.ex (kB k)) (fun ε1 => wE Φ e ε1 D.ex (kV fun v _ => D.rt v)) D.nx xs ε
end
structure FnI where
  name : Str
  ps : List Str
  N : List Str
  np : Nat
  nn : Nat
  body : IS
  con : Option D
def ev0 (n : Nat) (ds : List D) : Ev := ds.map (fun x => some (.d x)) ++ List.replicate (n - ds.length) none
def runB (Φ : Fs) (fi : FnI) (ds : List D) (X : Nat → Prop) (Q : Val → Prop) : Prop :=
  ds.length = fi.np ∧ wS Φ fi.body (ev0 fi.nn ds) { nx := fun _ => Q (.d .none), rt := Q, ex := fun c _ => X c }
def sem (fns : List FnI) : Nat → Fs
  | 0 => fun _ _ _ _ => False
  | k + 1 => fun f ds X Q => match fns[f]? with
    | some fi => runB (sem fns k) fi ds X Q
    | none => False
end Rc

/-! The heap behind the small language. -/
namespace Rc
open PySem PySem.Spec PyProof.Rows L2
abbrev St := L2.St

/-! ### names and their values -/
theorem gv_pv : ∀ (ε : Ev) (i : Nat) (v : Option Val) (j : Nat), gv (pv ε i v) j = if j = i then (if i < ε.length then v else none) else gv ε j
  | [], i, v, j => by
    show gv [] j = _
    cases j <;> simp [gv]
  | x :: r, 0, v, j => by
    cases j with
    | zero => simp [pv, gv]
    | succ j => simp [pv, gv]
  | x :: r, i + 1, v, j => by
    cases j with
    | zero => simp [pv, gv]
    | succ j => simp [pv, gv, gv_pv r i v j]
theorem pv_len : ∀ (ε : Ev) (i : Nat) (v : Option Val), (pv ε i v).length = ε.length
  | [], _, _ => rfl
  | _ :: _, 0, _ => rfl
  | _ :: r, i + 1, v => by simp [pv, pv_len r i v]
theorem gv_lt : ∀ {ε : Ev} {j : Nat} {v : Val}, gv ε j = some v → j < ε.length
  | [], _, _, h => by cases h
  | _ :: _, 0, _, _ => by simp
  | _ :: r, j + 1, v, h => by
    have := gv_lt (ε := r) (j := j) (v := v) h
    simp; omega

/-! ### data at values -/
mutual
inductive Dp (K : PySem.W.Frag) (H : Hp) : V → D → Prop
  | non : Dp K H .non .none
  | bl (b : Bool) : Dp K H (.bl b) (.bool b)
  | int (i : Int) : Dp K H (.int i) (.int i)
  | str (x : Str) : Dp K H (.str x) (.str x)
  | lst {a : Addr} {xs : List V} {ds : List D} : SqL K H a xs → DpAll K H xs ds → Dp K H (.ref a) (.list ds)
  | tup {a : Addr} {xs : List V} {ds : List D} : SqT K H a xs → DpAll K H xs ds → Dp K H (.ref a) (.tuple ds)
inductive DpAll (K : PySem.W.Frag) (H : Hp) : List V → List D → Prop
  | nil : DpAll K H [] []
  | cons {v : V} {vs : List V} {d : D} {ds : List D} : Dp K H v d → DpAll K H vs ds → DpAll K H (v :: vs) (d :: ds)
end
mutual
theorem dpOut {K : PySem.W.Frag} {F : Hp} : ∀ {v : V} {d : D}, Dp K F v d → L2.Dp K F v d
  | _, _, .non => .non
  | _, _, .bl b => .bl b
  | _, _, .int i => .int i
  | _, _, .str x => .str x
  | _, _, .lst q r => .lst q (daOut r)
  | _, _, .tup q r => .tup q (daOut r)
theorem daOut {K : PySem.W.Frag} {F : Hp} : ∀ {vs : List V} {ds : List D}, DpAll K F vs ds → L2.DpAll K F vs ds
  | _, _, .nil => .nil
  | _, _, .cons a b => .cons (dpOut a) (daOut b)
end

/-! ### heaps -/
def Sub (F H : Hp) : Prop := ∀ a o, F a = some o → H a = some o
theorem Sub.refl (F : Hp) : Sub F F := fun _ _ h => h
theorem Sub.trans {F G H : Hp} (a : Sub F G) (b : Sub G H) : Sub F H := fun c o h => b c o (a c o h)
theorem Sub.upd {F H : Hp} {a : Addr} {o : HO} (s : Sub F H) (n : F a = none) : Sub F (upd H a o) := fun c u h => by
  by_cases e : c = a
  · subst e; rw [n] at h; cases h
  · rw [upd_ne e]; exact s c u h
theorem Sub.none {F H : Hp} {a : Addr} (s : Sub F H) (n : H a = none) : F a = none := by
  cases q : F a with
  | none => rfl
  | some o => rw [s a o q] at n; cases n
theorem Sub.upd2 {F H : Hp} {a : Addr} {o : HO} (s : Sub F H) : Sub (L2.upd F a o) (L2.upd H a o) := fun c u h => by
  by_cases e : c = a
  · subst e; rw [upd_same] at h ⊢; exact h
  · rw [upd_ne e] at h ⊢; exact s c u h
theorem Sub.add {F H : Hp} {a : Addr} {o : HO} (s : Sub F H) (h : H a = some o) : Sub (L2.upd F a o) H := fun c u q => by
  by_cases e : c = a
  · subst e; rw [upd_same] at q; rw [h]; exact q
  · rw [upd_ne e] at q; exact s c u q
section
variable {K : PySem.W.Frag} {F G H : Hp}
theorem rdSub {a : Addr} {u : HO} (s : Sub F G) (r : Rd F a u) : Rd G a u := by
  rcases r with r | ⟨o, r⟩
  · exact .inl (s _ _ r)
  · exact .inr ⟨o, s _ _ r⟩
theorem sqtSub {a : Addr} {xs : List V} (s : Sub F G) (r : SqT K F a xs) : SqT K G a xs := by
  rcases r with r | r
  · exact .inl (rdSub s r)
  · exact .inr r
theorem sqlSub {a : Addr} {xs : List V} (s : Sub F G) (r : SqL K F a xs) : SqL K G a xs := by
  rcases r with r | r
  · exact .inl (rdSub s r)
  · exact .inr r
mutual
theorem dpSub (s : Sub F G) : ∀ {v : V} {d : D}, Dp K F v d → Dp K G v d
  | _, _, .non => .non
  | _, _, .bl b => .bl b
  | _, _, .int i => .int i
  | _, _, .str x => .str x
  | _, _, .lst q r => .lst (sqlSub s q) (daSub s r)
  | _, _, .tup q r => .tup (sqtSub s q) (daSub s r)
theorem daSub (s : Sub F G) : ∀ {vs : List V} {ds : List D}, DpAll K F vs ds → DpAll K G vs ds
  | _, _, .nil => .nil
  | _, _, .cons a b => .cons (dpSub s a) (daSub s b)
end
theorem daLen : ∀ {vs : List V} {ds : List D}, DpAll K F vs ds → vs.length = ds.length
  | _, _, .nil => rfl
  | _, _, .cons _ b => by simp [daLen b]
theorem daGet : ∀ {vs : List V} {ds : List D} {i : Nat} {v : V}, DpAll K F vs ds → vs[i]? = some v → ∃ d, ds[i]? = some d ∧ Dp K F v d
  | _, _, _, _, .nil, h => by simp at h
  | _, _, 0, v, .cons a _, h => by simp at h; subst h; exact ⟨_, rfl, a⟩
  | _, _, i + 1, v, .cons _ b, h => by
    obtain ⟨d, h1, h2⟩ := daGet (i := i) (v := v) b (by simpa using h)
    exact ⟨d, by simpa using h1, h2⟩
theorem daGet' : ∀ {vs : List V} {ds : List D} {i : Nat} {d : D}, DpAll K F vs ds → ds[i]? = some d → ∃ v, vs[i]? = some v ∧ Dp K F v d
  | _, _, _, _, .nil, h => by simp at h
  | _, _, 0, v, .cons a _, h => by simp at h; subst h; exact ⟨_, rfl, a⟩
  | _, _, i + 1, v, .cons _ b, h => by
    obtain ⟨d, h1, h2⟩ := daGet' (i := i) (d := v) b (by simpa using h)
    exact ⟨d, by simpa using h1, h2⟩
theorem daApp : ∀ {vs ws : List V} {ds es : List D}, DpAll K F vs ds → DpAll K F ws es → DpAll K F (vs ++ ws) (ds ++ es)
  | _, _, _, _, .nil, h => h
  | _, _, _, _, .cons a b, h => .cons a (daApp b h)
theorem daSet {v : V} {d : D} (r : Dp K F v d) : ∀ {vs : List V} {ds : List D} (i : Nat), DpAll K F vs ds → DpAll K F (vs.set i v) (ds.set i d)
  | _, _, _, .nil => .nil
  | _, _, 0, .cons _ b => .cons r b
  | _, _, i + 1, .cons a b => .cons a (daSet r i b)
theorem daTake : ∀ {vs : List V} {ds : List D} (n : Nat), DpAll K F vs ds → DpAll K F (vs.take n) (ds.take n)
  | _, _, 0, _ => .nil
  | _, _, _ + 1, .nil => .nil
  | _, _, n + 1, .cons a b => .cons a (daTake n b)
theorem daDrop : ∀ {vs : List V} {ds : List D} (n : Nat), DpAll K F vs ds → DpAll K F (vs.drop n) (ds.drop n)
  | _, _, 0, r => r
  | _, _, _ + 1, .nil => .nil
  | _, _, n + 1, .cons _ b => daDrop n b
theorem daRev : ∀ {vs : List V} {ds : List D}, DpAll K F vs ds → DpAll K F vs.reverse ds.reverse
  | _, _, .nil => .nil
  | _, _, .cons a b => by
    rw [List.reverse_cons, List.reverse_cons]
    exact daApp (daRev b) (.cons a .nil)
theorem daRep {vs : List V} {ds : List D} (h : DpAll K F vs ds) : ∀ n : Nat, DpAll K F (List.replicate n vs).flatten (List.replicate n ds).flatten
  | 0 => .nil
  | n + 1 => by
    rw [List.replicate_succ, List.replicate_succ, List.flatten_cons, List.flatten_cons]
    exact daApp h (daRep h n)
theorem daDropLast : ∀ {vs : List V} {ds : List D}, DpAll K F vs ds → DpAll K F vs.dropLast ds.dropLast := fun {vs ds} h => by
  rw [List.dropLast_eq_take, List.dropLast_eq_take, ← daLen h]
  exact daTake _ h
theorem cutV_eq (xs : List V) (lo hi : Option Int) : cutV xs lo hi = cut xs lo hi := rfl
theorem daCut {vs : List V} {ds : List D} (h : DpAll K F vs ds) (lo hi : Option Int) : DpAll K F (cut vs lo hi) (cut ds lo hi) := by
  unfold Rc.cut
  rw [daLen h]
  exact daTake _ (daDrop _ h)
theorem dpInt {v : V} {i : Int} (h : Dp K F v (.int i)) : v = .int i := by cases h; rfl
theorem dpBl {v : V} {i : Bool} (h : Dp K F v (.bool i)) : v = .bl i := by cases h; rfl
theorem dpStr {v : V} {i : Str} (h : Dp K F v (.str i)) : v = .str i := by cases h; rfl
theorem dpNon {v : V} (h : Dp K F v .none) : v = .non := by cases h; rfl
theorem dpLst {v : V} {ds : List D} (h : Dp K F v (.list ds)) : ∃ a vs, v = .ref a ∧ SqL K F a vs ∧ DpAll K F vs ds := by
  cases h with
  | lst q r => exact ⟨_, _, rfl, q, r⟩
theorem dpTup {v : V} {ds : List D} (h : Dp K F v (.tuple ds)) : ∃ a vs, v = .ref a ∧ SqT K F a vs ∧ DpAll K F vs ds := by
  cases h with
  | tup q r => exact ⟨_, _, rfl, q, r⟩
theorem dpIsNon {v : V} {d : D} (h : Dp K F v d) : decide (v = .non) = isNone d := by
  cases h <;> rfl
theorem asInts_of : ∀ {vs : List V} {ds : List D} {ns : List Int}, DpAll K F vs ds → asInts ds = some ns → vs = ns.map V.int
  | _, _, _, .nil, h => by simp [asInts] at h; subst h; rfl
  | _, _, ns, .cons (d := d) a b, h => by
    cases d with
    | int i =>
      simp only [asInts, Option.map_eq_some_iff] at h
      obtain ⟨r, h1, h2⟩ := h
      subst h2
      rw [dpInt a, asInts_of b h1]
      rfl
    | _ => simp [asInts] at h
theorem asBools_of : ∀ {vs : List V} {ds : List D} {ns : List Bool}, DpAll K F vs ds → asBools ds = some ns → vs = ns.map V.bl
  | _, _, _, .nil, h => by simp [asBools] at h; subst h; rfl
  | _, _, ns, .cons (d := d) a b, h => by
    cases d with
    | bool i =>
      simp only [asBools, Option.map_eq_some_iff] at h
      obtain ⟨r, h1, h2⟩ := h
      subst h2
      rw [dpBl a, asBools_of b h1]
      rfl
    | _ => simp [asBools] at h
end

/-! ### the state told by the small language's names -/
structure Rep (K : PySem.W.Frag) (H0 F0 F H : Hp) (σ : St) (ε : Ev) : Prop where
  fh : Sub F H
  ff : Sub F0 F
  h0 : Sub H0 H
  fr : ∀ a o, F a = some o → F0 a = some o ∨ H0 a = none
  len : σ.length = ε.length
  dat : ∀ j x, gv ε j = some (.d x) → ∃ v, σ[j]? = some (some v) ∧ Dp K F v x
  own : ∀ j xs, gv ε j = some (.own xs) → ∃ p vs, σ[j]? = some (some (.ref p)) ∧ H p = some (.lst vs) ∧ DpAll K F vs xs ∧ F p = none ∧ H0 p = none
  uni : ∀ i j xs ys p, gv ε i = some (.own xs) → gv ε j = some (.own ys) → σ[i]? = some (some (.ref p)) → σ[j]? = some (some (.ref p)) → i = j
/-- p is no name's own list -/
def Off (σ : St) (ε : Ev) (p : Addr) : Prop := ∀ j ys, gv ε j = some (.own ys) → σ[j]? ≠ some (some (.ref p))
def VAt (K : PySem.W.Frag) (H0 F H : Hp) (σ : St) (ε : Ev) (v : V) : Val → Prop
  | .d x => Dp K F v x
  | .own xs => ∃ p vs, v = .ref p ∧ H p = some (.lst vs) ∧ DpAll K F vs xs ∧ F p = none ∧ H0 p = none ∧ Off σ ε p
  | _ => False
/-- a value that a look alone was taken at -/
def PAt (K : PySem.W.Frag) (F H : Hp) (v : V) (x : D) : Prop := Dp K F v x ∨ ∃ p vs xs, v = .ref p ∧ x = .list xs ∧ H p = some (.lst vs) ∧ DpAll K F vs xs
section
variable {K : PySem.W.Frag} {H0 F0 F H F' H' : Hp} {σ : St} {ε : Ev}
theorem PAt.dp {v : V} {x : D} (s : Sub F H) (h : PAt K F H v x) : Dp K H v x := by
  rcases h with h | ⟨p, vs, xs, rfl, rfl, h1, h2⟩
  · exact dpSub s h
  · exact .lst (.inl (.inl h1)) (daSub s h2)
theorem PAt.mono {v : V} {x : D} (s : Sub F F') (t : Same H H') (h : PAt K F H v x) : PAt K F' H' v x := by
  rcases h with h | ⟨p, vs, xs, rfl, rfl, h1, h2⟩
  · exact .inl (dpSub s h)
  · exact .inr ⟨p, vs, xs, rfl, rfl, t _ _ h1, daSub s h2⟩
/-- new things stand behind -/
def New (F F' H : Hp) : Prop := ∀ a o, F' a = some o → F a = some o ∨ H a = none
theorem Rep.grow (R : Rep K H0 F0 F H σ ε) (t : Same H H') (s : Sub F F') (fh : Sub F' H') (n : New F F' H) : Rep K H0 F0 F' H' σ ε where
  fh := fh
  ff := R.ff.trans s
  h0 := R.h0.trans t
  fr := fun a o h => by
    rcases n a o h with q | q
    · exact R.fr a o q
    · refine .inr ?_
      cases z : H0 a with
      | none => rfl
      | some u => rw [R.h0 a u z] at q; cases q
  len := R.len
  dat := fun j x h => let ⟨v, e, d⟩ := R.dat j x h; ⟨v, e, dpSub s d⟩
  own := fun j xs h => by
    obtain ⟨p, vs, e, h1, h2, h3, h4⟩ := R.own j xs h
    refine ⟨p, vs, e, t _ _ h1, daSub s h2, ?_, h4⟩
    cases z : F' p with
    | none => rfl
    | some u =>
      rcases n p u z with q | q
      · rw [h3] at q; cases q
      · rw [h1] at q; cases q
  uni := R.uni
theorem New.refl : New F F H := fun _ _ h => .inl h
theorem New.add {a : Addr} {o : HO} (h : H a = none) : New F (upd F a o) H := fun b u q => by
  by_cases e : b = a
  · subst e; exact .inr h
  · rw [upd_ne e] at q; exact .inl q
theorem same_upd {a : Addr} {o : HO} (h : H a = none) : Same H (upd H a o) := fun b u q => by
  rw [upd_ne (ne_of_none q h)]; exact q
theorem sub_updF {a : Addr} {o : HO} (h : F a = none) : Sub F (upd F a o) := fun b u q => by
  rw [upd_ne (ne_of_none q h)]; exact q
/-- a new tuple -/
theorem Rep.tup (R : Rep K H0 F0 F H σ ε) {p : Addr} (o : HO) (hp : H p = none) : Rep K H0 F0 (upd F p o) (upd H p o) σ ε :=
  R.grow (same_upd hp) (sub_updF (R.fh.none hp)) R.fh.upd2 (.add hp)
/-- a new list, nobody's yet -/
theorem Rep.lst (R : Rep K H0 F0 F H σ ε) {p : Addr} (o : HO) (hp : H p = none) : Rep K H0 F0 F (upd H p o) σ ε :=
  R.grow (same_upd hp) (Sub.refl F) (R.fh.upd (R.fh.none hp)) .refl
theorem Rep.offNew (R : Rep K H0 F0 F H σ ε) {p : Addr} (hp : H p = none) : Off σ ε p := fun j ys h e => by
  obtain ⟨q, vs, e1, h1, _⟩ := R.own j ys h
  rw [e] at e1
  have : p = q := by simpa using e1
  subst this
  rw [hp] at h1; cases h1
theorem VAt.newL (R : Rep K H0 F0 F H σ ε) {p : Addr} {vs : List V} {xs : List D} (hp : H p = none) (d : DpAll K F vs xs) : VAt K H0 F (upd H p (.lst vs)) σ ε (.ref p) (.own xs) :=
  ⟨p, vs, rfl, upd_same, d, R.fh.none hp, R.h0.none hp, R.offNew hp⟩
/-- an own thing that is held: it stands still from now on -/
theorem Rep.freeze (R : Rep K H0 F0 F H σ ε) {v : V} {x : Val} (h : VAt K H0 F H σ ε v x) {d : D} (e : (match x with | .d y => some y | .own xs => some (.list xs) | _ => none) = some d) :
    ∃ F', Sub F F' ∧ Rep K H0 F0 F' H σ ε ∧ Dp K F' v d := by
  cases x with
  | d y => cases e; exact ⟨F, .refl F, R, h⟩
  | own xs =>
    cases e
    obtain ⟨p, vs, rfl, h1, h2, h3, h4, h5⟩ := h
    have sb : Sub F (upd F p (.lst vs)) := sub_updF h3
    refine ⟨upd F p (.lst vs), sb, ⟨R.fh.add h1, R.ff.trans sb, R.h0, fun a o q => ?_, R.len, fun j y q => ?_, fun j ys q => ?_, R.uni⟩, .lst (.inl (.inl upd_same)) (daSub sb h2)⟩
    · by_cases e : a = p
      · subst e; exact .inr h4
      · rw [upd_ne e] at q; exact R.fr a o q
    · obtain ⟨w, e, q⟩ := R.dat j y q
      exact ⟨w, e, dpSub sb q⟩
    · obtain ⟨r, ws, e1, g1, g2, g3, g4⟩ := R.own j ys q
      have ne : r ≠ p := fun z => by subst z; exact h5 j ys q e1
      exact ⟨r, ws, e1, g1, daSub sb g2, by rw [upd_ne ne]; exact g3, g4⟩
  | many _ => cases e
  | exc _ => cases e
theorem σlt {σ : St} {j : Nat} {v : V} (h : σ[j]? = some (some v)) : j < σ.length := (List.getElem?_eq_some_iff.mp h).1
/-- a name is told less of -/
theorem Rep.forget (R : Rep K H0 F0 F H σ ε) (j : Nat) : Rep K H0 F0 F H σ (pv ε j none) where
  fh := R.fh
  ff := R.ff
  h0 := R.h0
  fr := R.fr
  len := by rw [pv_len]; exact R.len
  dat := fun i x h => by
    rw [gv_pv] at h
    split at h
    · split at h <;> cases h
    · exact R.dat i x h
  own := fun i x h => by
    rw [gv_pv] at h
    split at h
    · split at h <;> cases h
    · exact R.own i x h
  uni := fun i k xs ys p a b => by
    rw [gv_pv] at a b
    split at a
    · split at a <;> cases a
    · split at b
      · split at b <;> cases b
      · exact R.uni i k xs ys p a b
/-- a name's own list stands still from now on -/
theorem Rep.still (R : Rep K H0 F0 F H σ ε) {j : Nat} {xs : List D} (h : gv ε j = some (.own xs)) :
    ∃ v F', σ[j]? = some (some v) ∧ Sub F F' ∧ Rep K H0 F0 F' H σ (pv ε j (some (.d (.list xs)))) ∧ Dp K F' v (.list xs) := by
  obtain ⟨p, vs, e, h1, h2, h3, h4⟩ := R.own j xs h
  have sb : Sub F (upd F p (.lst vs)) := sub_updF h3
  have dd : Dp K (upd F p (.lst vs)) (.ref p) (.list xs) := .lst (.inl (.inl upd_same)) (daSub sb h2)
  refine ⟨.ref p, upd F p (.lst vs), e, sb, ⟨R.fh.add h1, R.ff.trans sb, R.h0, fun a o q => ?_, by rw [pv_len]; exact R.len, fun i y q => ?_, fun i ys q => ?_, fun i k ys zs r a b => ?_⟩, dd⟩
  · by_cases e : a = p
    · subst e; exact .inr h4
    · rw [upd_ne e] at q; exact R.fr a o q
  · rw [gv_pv] at q
    split at q
    · rename_i hi
      subst hi
      split at q
      · cases q; exact ⟨_, e, dd⟩
      · cases q
    · obtain ⟨w, e, q⟩ := R.dat i y q
      exact ⟨w, e, dpSub sb q⟩
  · rw [gv_pv] at q
    split at q
    · split at q <;> cases q
    · rename_i hi
      obtain ⟨r, ws, e1, g1, g2, g3, g4⟩ := R.own i ys q
      have ne : r ≠ p := fun z => by subst z; exact hi (R.uni i j ys xs r q h e1 e)
      exact ⟨r, ws, e1, g1, daSub sb g2, by rw [upd_ne ne]; exact g3, g4⟩
  · rw [gv_pv] at a b
    split at a
    · split at a <;> cases a
    · split at b
      · split at b <;> cases b
      · exact R.uni i k ys zs r a b
/-- a name's own list is handed on -/
theorem Rep.move (R : Rep K H0 F0 F H σ ε) {j : Nat} {xs : List D} (h : gv ε j = some (.own xs)) :
    ∃ v, σ[j]? = some (some v) ∧ Rep K H0 F0 F H σ (pv ε j none) ∧ VAt K H0 F H σ (pv ε j none) v (.own xs) := by
  obtain ⟨p, vs, e, h1, h2, h3, h4⟩ := R.own j xs h
  refine ⟨.ref p, e, R.forget j, p, vs, rfl, h1, h2, h3, h4, fun i ys q z => ?_⟩
  rw [gv_pv] at q
  split at q
  · split at q <;> cases q
  · rename_i hi
    exact hi (R.uni i j ys xs p q h z e)
/-- a name takes a value -/
theorem Rep.store (R : Rep K H0 F0 F H σ ε) {v : V} {x : Val} (h : VAt K H0 F H σ ε v x) (j : Nat) : Rep K H0 F0 F H (σ.set j (some v)) (pv ε j (some x)) where
  fh := R.fh
  ff := R.ff
  h0 := R.h0
  fr := R.fr
  len := by rw [pv_len, List.length_set]; exact R.len
  dat := fun i y q => by
    rw [gv_pv] at q
    split at q
    · rename_i hi
      subst hi
      split at q
      · rename_i hl
        cases q
        exact ⟨v, by rw [List.getElem?_set_self (by rw [R.len]; exact hl)], h⟩
      · cases q
    · rename_i hi
      obtain ⟨w, e, d⟩ := R.dat i y q
      exact ⟨w, by rw [List.getElem?_set_ne (Ne.symm hi)]; exact e, d⟩
  own := fun i ys q => by
    rw [gv_pv] at q
    split at q
    · rename_i hi
      subst hi
      split at q
      · rename_i hl
        cases q
        obtain ⟨p, vs, rfl, h1, h2, h3, h4, h5⟩ := h
        exact ⟨p, vs, by rw [List.getElem?_set_self (by rw [R.len]; exact hl)], h1, h2, h3, h4⟩
      · cases q
    · rename_i hi
      obtain ⟨w, ws, e, d⟩ := R.own i ys q
      exact ⟨w, ws, by rw [List.getElem?_set_ne (Ne.symm hi)]; exact e, d⟩
  uni := fun i k xs ys p a b ea eb => by
    rw [gv_pv] at a b
    split at a
    · rename_i hi
      split at b
      · rename_i hk; rw [hi, hk]
      · rename_i hk
        split at a
        · rename_i hl
          cases a
          rw [hi, List.getElem?_set_self (by rw [R.len]; exact hl)] at ea
          rw [List.getElem?_set_ne (Ne.symm hk)] at eb
          obtain ⟨p', vs, rfl, h1, h2, h3, h4, h5⟩ := h
          have : p' = p := by simpa using ea
          subst this
          exact absurd eb (h5 k ys b)
        · cases a
    · rename_i hi
      rw [List.getElem?_set_ne (Ne.symm hi)] at ea
      split at b
      · rename_i hk
        split at b
        · rename_i hl
          cases b
          rw [hk, List.getElem?_set_self (by rw [R.len]; exact hl)] at eb
          obtain ⟨p', vs, rfl, h1, h2, h3, h4, h5⟩ := h
          have : p' = p := by simpa using eb
          subst this
          exact absurd ea (h5 i xs a)
        · cases b
      · rename_i hk
        rw [List.getElem?_set_ne (Ne.symm hk)] at eb
        exact R.uni i k xs ys p a b ea eb
/-- a name's own list is changed -/
theorem Rep.change (R : Rep K H0 F0 F H σ ε) {j : Nat} {xs ys : List D} {p : Addr} {ws : List V} (h : gv ε j = some (.own xs)) (e : σ[j]? = some (some (.ref p))) (d : DpAll K F ws ys) :
    Rep K H0 F0 F (upd H p (.lst ws)) σ (pv ε j (some (.own ys))) := by
  obtain ⟨p', vs, e', h1, h2, h3, h4⟩ := R.own j xs h
  have : p' = p := by rw [e'] at e; simpa using e
  subst this
  refine ⟨R.fh.upd h3, R.ff, R.h0.upd h4, R.fr, by rw [pv_len]; exact R.len, fun i y q => ?_, fun i zs q => ?_, fun i k as bs r a b ea eb => ?_⟩
  · rw [gv_pv] at q
    split at q
    · split at q <;> cases q
    · exact R.dat i y q
  · rw [gv_pv] at q
    split at q
    · rename_i hi
      subst hi
      split at q
      · cases q; exact ⟨p', ws, e, upd_same, d, h3, h4⟩
      · cases q
    · rename_i hi
      obtain ⟨r, us, g1, g2, g3⟩ := R.own i zs q
      have ne : r ≠ p' := fun z => by subst z; exact hi (R.uni i j zs xs r q h g1 e)
      exact ⟨r, us, g1, by rw [upd_ne ne]; exact g2, g3⟩
  · have fix : ∀ {i : Nat} {as : List D}, gv (pv ε j (some (.own ys))) i = some (.own as) → ∃ bs, gv ε i = some (.own bs) := fun {i as} q => by
      rw [gv_pv] at q
      split at q
      · rename_i hi; subst hi; exact ⟨xs, h⟩
      · exact ⟨as, q⟩
    obtain ⟨as', a'⟩ := fix a
    obtain ⟨bs', b'⟩ := fix b
    exact R.uni i k as' bs' r a' b' ea eb
end
end Rc

/-! The text against the small language's terms; what the terms mean holds of the text: expressions. -/
namespace Rc
open PySem PySem.Spec PyProof.Rows L2

/-! ### the look at the text -/
def nmB (N : List Str) (j : Nat) (x : Str) : Bool := decide (N[j]? = some x) && !(x == ("__debug__" : Str)) && !(x == ("__classdict__" : Str))
def visB (sc : Scope) (x : Str) : Bool := match sc.names.lookup x with
  | some .local => true
  | some .cell => true
  | some .free => true
  | _ => false
def locB (sc : Scope) (x : Str) : Bool := match sc.names.lookup x with
  | some .local => true
  | some .cell => true
  | _ => false
def lclB (sc : Scope) (x : Str) : Bool := match sc.names.lookup x with
  | some .local => true
  | _ => false
def glB (sc : Scope) (x : Str) : Bool := match sc.names.lookup x with
  | some .globalImplicit => true
  | _ => false
def plainE : Expr → Bool
  | .Starred .. => false
  | .Slice .. => false
  | .Set .. => false
  | _ => true
def noComp : Expr → Bool
  | .ListComp .. => false
  | .SetComp .. => false
  | .DictComp .. => false
  | _ => true
def litB : D → Const → Bool
  | .none, .none => true
  | .bool a, .bool b => a == b
  | .int i, .int j => i == j
  | .str x, .str y => decide (x = y)
  | _, _ => false
def biName : Bi → Str
  | .abs => "abs"
  | .int => "int"
  | .list => "list"
  | .tuple => "tuple"
  | .max => "max"
  | .min => "min"
  | .all => "all"
  | .any => "any"
  | .sum => "sum"
  | .str => "str"
def tyName : Ty → Str
  | .int => "int"
  | .bool => "bool"
  | .tuple => "tuple"
  | .list => "list"
  | .str => "str"
def tyStr : Ty → String
  | .int => "int"
  | .bool => "bool"
  | .tuple => "tuple"
  | .list => "list"
  | .str => "str"
def isL : IE → Bool
  | .nil => true
  | .cons _ _ => true
  | _ => false
def isLP : IE → Bool
  | .nil => true
  | .consP _ _ => true
  | _ => false
def isIt : IE → Bool
  | .itv _ => true
  | .rng1 _ => true
  | .rng2 _ _ => true
  | .rngd _ _ => true
  | .enm _ => true
  | .rvd _ => true
  | .zip _ _ => true
  | .rvr _ => true
  | _ => false
/-- the names that a target binds, with their places -/
def tgOwns : List Nat → List Expr → List (Str × Nat)
  | j :: js, .Name x _ :: es => (x, j) :: tgOwns js es
  | _, _ => []
def tgOwn : Tg → Expr → List (Str × Nat)
  | .one j, .Name x _ => [(x, j)]
  | .tup js, .Tuple es _ _ => tgOwns js es
  | _, _ => []
def tgsB (p : Str → Bool) (N : List Str) : List Nat → List Expr → Bool
  | [], [] => true
  | j :: js, .Name x _ :: es => nmB N j x && p x && tgsB p N js es
  | _, _ => false
def tgB (p : Str → Bool) (N : List Str) : Tg → Expr → Bool
  | .one j, .Name x _ => nmB N j x && p x
  | .tup js, .Tuple es _ _ => tgsB p N js es
  | _, _ => false
/-- a part that may be left out -/
def optB (n : Bool) (l : Option Expr) (f : Expr → Bool) : Bool := match l with
  | none => n
  | some e => !n && f e
def ifsB (n : Bool) (l : List Expr) (f : Expr → Bool) : Bool := match l with
  | [] => n
  | [e] => !n && f e
  | _ => false
def isTup : Expr → Bool
  | .Tuple .. => true
  | _ => false
def noSet : Expr → Bool
  | .Set .. => false
  | _ => true
/-- the base of a method's call is no name of a module or class -/
def noAttr : Expr → Bool
  | .Name .. => true
  | .Constant .. => true
  | .List .. => true
  | .Subscript .. => true
  | _ => false
def litE (d : D) (e : Expr) : Bool := match e with
  | .Constant c _ _ => litB d c
  | .UnaryOp .USub (.Constant (.int j) _ _) _ => (match d with
    | .int i => decide (i = -j)
    | _ => false)
  | _ => false
mutual
def sameD : D → D → Bool
  | .none, .none => true
  | .bool a, .bool b => a == b
  | .int a, .int b => a == b
  | .str a, .str b => decide (a = b)
  | .tuple a, .tuple b => sameAll a b
  | _, _ => false
def sameAll : List D → List D → Bool
  | [], [] => true
  | a :: r, b :: t => sameD a b && sameAll r t
  | _, _ => false
end
mutual
theorem sameD_eq : ∀ {a b : D}, sameD a b = true → a = b
  | .none, .none, _ => rfl
  | .bool a, .bool b, h => by rw [beq_iff_eq.mp (show (a == b) = true by unfold sameD at h; exact h)]
  | .int a, .int b, h => by rw [beq_iff_eq.mp (show (a == b) = true by unfold sameD at h; exact h)]
  | .str a, .str b, h => by rw [of_decide_eq_true (show decide (a = b) = true by unfold sameD at h; exact h)]
  | .tuple a, .tuple b, h => by rw [sameAll_eq (show sameAll a b = true by unfold sameD at h; exact h)]
  | .list _, _, h => by unfold sameD at h; cases h
  | .dict _, _, h => by unfold sameD at h; cases h
  | .none, .bool _, h | .none, .int _, h | .none, .str _, h | .none, .list _, h | .none, .tuple _, h | .none, .dict _, h => by unfold sameD at h; cases h
  | .bool _, .none, h | .bool _, .int _, h | .bool _, .str _, h | .bool _, .list _, h | .bool _, .tuple _, h | .bool _, .dict _, h => by unfold sameD at h; cases h
  | .int _, .none, h | .int _, .bool _, h | .int _, .str _, h | .int _, .list _, h | .int _, .tuple _, h | .int _, .dict _, h => by unfold sameD at h; cases h
  | .str _, .none, h | .str _, .bool _, h | .str _, .int _, h | .str _, .list _, h | .str _, .tuple _, h | .str _, .dict _, h => by unfold sameD at h; cases h
  | .tuple _, .none, h | .tuple _, .bool _, h | .tuple _, .int _, h | .tuple _, .str _, h | .tuple _, .list _, h | .tuple _, .dict _, h => by unfold sameD at h; cases h
theorem sameAll_eq : ∀ {a b : List D}, sameAll a b = true → a = b
  | [], [], _ => rfl
  | a :: r, b :: t, h => by
    unfold sameAll at h
    rw [Bool.and_eq_true] at h
    rw [sameD_eq h.1, sameAll_eq h.2]
  | [], _ :: _, h => by unfold sameAll at h; cases h
  | _ :: _, [], h => by unfold sameAll at h; cases h
end
def dspB : List (Str × D) → List (Option Expr) → List Expr → Bool
  | [], [], [] => true
  | (x, d) :: r, some (.Constant (.str y) _ _) :: ks, e :: es => decide (x = y) && litE d e && dspB r ks es
  | _, _, _ => false
def ndB : List Str → Bool
  | [] => true
  | x :: r => !(r.any fun y => decide (y = x)) && ndB r
/-- stands ahead of a list of expressions, twice -/
def dm : Expr := .Constant .none 0 ⟨0, 0, 0, 0⟩
section
variable (fns : List FnI) (N : List Str)
def fnB (f : Nat) (x : Str) : Bool := match fns[f]? with
  | some fi => decide (fi.name = x) && fi.con.isNone
  | none => false
def gcB (f : Nat) (x : Str) (d : D) : Bool := match fns[f]? with
  | some fi => decide (fi.name = x) && (match fi.con with
    | some e => sameD d e
    | none => false)
  | none => false
def chk : IE → Scope → List Expr → Bool
  | .nil, _, [_, _] => true
  | .cons a r, sc, d :: d' :: e :: es => plainE e && chk a sc [e] && isL r && chk r sc (d :: d' :: es)
  | .consP a r, sc, d :: d' :: e :: es => plainE e && chk a sc [e] && isLP r && chk r sc (d :: d' :: es)
  | .var j, sc, [.Name x _] => nmB N j x && visB sc x
  | .mov j, sc, [.Name x _] => nmB N j x && visB sc x
  | .cst c, _, [.Constant k _ _] => litB c k
  | .tup a, sc, [.Tuple es _ _] => isL a && chk a sc (dm :: dm :: es)
  | .lst a, sc, [.List es _] => isL a && chk a sc (dm :: dm :: es)
  | .bin o a b, sc, [.BinOp l o' r _] => decide (o = o') && chk a sc [l] && chk b sc [r]
  | .cmp o a b, sc, [.Compare l [o'] [r] _] => decide (o = o') && decide (o ≠ .In) && decide (o ≠ .NotIn) && chk a sc [l] && chk b sc [r]
  | .neg a, sc, [.UnaryOp .USub e _] => chk a sc [e]
  | .bnot a, sc, [.UnaryOp .Not e _] => chk a sc [e]
  | .band a r, sc, [.BoolOp .And (x :: y :: rest) p] => chk a sc [x] && chk r sc [.BoolOp .And (y :: rest) p]
  | .bor a r, sc, [.BoolOp .Or (x :: y :: rest) p] => chk a sc [x] && chk r sc [.BoolOp .Or (y :: rest) p]
  | .bone a, sc, [.BoolOp _ [x] _] => chk a sc [x]
  | .ite c a b, sc, [.IfExp t x y _] => chk c sc [t] && chk a sc [x] && chk b sc [y]
  | .ix a b, sc, [.Subscript x y _] => plainE y && chk a sc [x] && chk b sc [y]
  | .sl a lo hi, sc, [.Subscript x (.Slice l h none _) _] => chk a sc [x] && optB (isNil lo) l (fun e => chk lo sc [e]) && optB (isNil hi) h (fun e => chk hi sc [e])
  | .rev a, sc, [.Subscript x (.Slice none none (some (.UnaryOp .USub (.Constant (.int i) _ _) _)) _) _] => decide (i = 1) && chk a sc [x]
  | .call f a, sc, [.Call (.Name x _) es [] _] => fnB fns f x && glB sc x && !(x == ("__debug__" : Str)) && isL a && chk a sc (dm :: dm :: es)
  | .callP f a, sc, [.Call (.Name x _) es [] _] => fnB fns f x && glB sc x && !(x == ("__debug__" : Str)) && isLP a && chk a sc (dm :: dm :: es)
  | .bi b a, sc, [.Call (.Name x _) (e :: es) [] _] => decide (biName b = x) && glB sc x && isL a && chk a sc (dm :: dm :: e :: es)
  | .len a, sc, [.Call (.Name x _) [e] [] _] => decide (x = "len") && glB sc x && plainE e && chk a sc [e]
  | .isi t a, sc, [.Call (.Name x _) [e, .Name y _] [] _] => decide (x = "isinstance") && glB sc x && decide (tyName t = y) && glB sc y && plainE e && chk a sc [e]
  | .itv a, sc, [e, _] => plainE e && chk a sc [e]
  | .rng1 a, sc, [g, _] => (match g with
    | .Call (.Name x _) [e] [] _ => decide (x = "range") && glB sc x && plainE e && chk a sc [e]
    | _ => false)
  | .rng2 a b, sc, [g, _] => (match g with
    | .Call (.Name x _) [e, f] [] _ => decide (x = "range") && glB sc x && plainE e && plainE f && chk a sc [e] && chk b sc [f]
    | _ => false)
  | .rngd a b, sc, [g, _] => (match g with
    | .Call (.Name x _) [e, f, .UnaryOp .USub (.Constant (.int i) _ _) _] [] _ => decide (x = "range") && glB sc x && plainE e && plainE f && decide (i = 1) && chk a sc [e] && chk b sc [f]
    | _ => false)
  | .enm a, sc, [g, t] => (match g with
    | .Call (.Name x _) [e] [] _ => decide (x = "enumerate") && glB sc x && plainE e && isTup t && chk a sc [e]
    | _ => false)
  | .rvd a, sc, [g, _] => (match g with
    | .Call (.Name x _) [e] [] _ => decide (x = "reversed") && glB sc x && plainE e && chk a sc [e]
    | _ => false)
  | .lc t it c elt, sc, [.ListComp e [⟨tg, iter, ifs, as⟩] scope _] => decide (as = 0) && plainE iter && isIt it && chk it sc [iter, tg] && tgB (lclB (relS scope sc)) N t tg && blkC N sc scope (tgOwn t tg) && ifsB (isNil c) ifs (fun f => chk c (relS scope sc) [f]) && chk elt (relS scope sc) [e]
  | .inn neg a b, sc, [.Compare l [o] [r] _] => decide (o = (if neg = true then .NotIn else .In)) && noSet r && chk a sc [l] && chk b sc [r]
  | .cmp2 o o' a b c, sc, [.Compare l [p, p'] [m, r] _] => decide (o = p) && decide (o' = p') && decide (o' ≠ .In) && decide (o' ≠ .NotIn) && chk a sc [l] && chk b sc [m] && chk c sc [r]
  | .cnt a b, sc, [.Call (.Attribute o m q) [e] [] p] => decide (m = "count") && (q.endLine == p.line) && plainE e && noAttr o && chk a sc [o] && chk b sc [e]
  | .dsp kvs a, sc, [.Subscript (.Dict ks vs _) e _] => dspB kvs ks vs && ndB (kvs.map (·.1)) && decide (kvs.length ≤ 15) && !kvs.isEmpty && plainE e && chk a sc [e]
  | .gc f d, sc, [.Name x _] => gcB fns f x d && glB sc x && !(x == ("__debug__" : Str))
  | .zip a b, sc, [g, t] => (match g with
    | .Call (.Name x _) [e, f] [] _ => decide (x = "zip") && glB sc x && plainE e && plainE f && isTup t && chk a sc [e] && chk b sc [f]
    | _ => false)
  | .rvr a, sc, [g, _] => (match g with
    | .Call (.Name x _) [.Call (.Name y _) [e] [] _] [] _ => decide (x = "reversed") && glB sc x && decide (y = "range") && glB sc y && plainE e && chk a sc [e]
    | _ => false)
  | .lsc a, sc, [.Call (.Name x _) [e] [] _] => decide (x = "list") && glB sc x && plainE e && chk a sc [e]
  | _, _, _ => false
end

/-! ### what a def's call promises -/
def VR (K : PySem.W.Frag) (H F' H' : Hp) (x : V) : Val → Prop
  | .d d => Dp K F' x d
  | .own xs => ∃ p vs, x = .ref p ∧ H' p = some (.lst vs) ∧ DpAll K F' vs xs ∧ F' p = none ∧ H p = none
  | _ => False
def spec (K : PySem.W.Frag) (C : Nat → Addr) (n : Nat) (φ : List D → (Nat → Prop) → (Val → Prop) → Prop) : Sp := fun vs H Q E =>
  ∃ F ds Xp Qp, Sub F H ∧ DpAll K F vs ds ∧ ds.length = n ∧ φ ds Xp Qp ∧ (∀ c H', Same H H' → Xp c → E (.ref (C c)) none H') ∧
    ∀ v H' F' x, Same H H' → Sub F F' → Sub F' H' → New F F' H → VR K H F' H' x v → Qp v → Q x H'
def bltNames : List Str := ["abs", "int", "list", "tuple", "max", "min", "all", "any", "sum", "str", "len", "isinstance", "range", "enumerate", "reversed", "zip", "bool", "ValueError"]
/-- the program's own errors -/
def ClsAt (K : PySem.W.Frag) (mg : Str → Option Value) (x : Str) (a : Addr) : Prop :=
  mg x = some (.ref a) ∧ PySem.W.excIn K a [.type "ValueError", .type "Exception", .type "BaseException", .type "object"] "ValueError.__new__" = true ∧ PySem.W.keepIn K (.ref a) = true ∧
  PySem.W.subIn K (.ref a) (.type "BaseException") = some true ∧ PySem.W.typeIn K (.ref a) = some (.type "type")
/-- what isinstance and except clauses answer of them -/
structure ExF (K : PySem.W.Frag) (cls : List Str) (C : Nat → Addr) : Prop where
  cc : ∀ c', cls ≠ [] → ExcC K (C c')
  ve : ∀ c', cls ≠ [] → PySem.W.kitOne K (.ref (C c')) (.type "ValueError") = some true
  is : ∀ c' c x, cls[c]? = some x → PySem.W.kitOne K (.ref (C c')) (.ref (C c)) = some (isS c' c)
  ex : ∀ c' c x, cls[c]? = some x → PySem.W.exmOne K (.ref (C c')) (.ref (C c)) = some (isS c' c)
/-- a great number by a great number: there is room for it -/
def Pyl (X : Cx) : Prop := ∀ (pins : List (Addr × Obj)) (σ : St) (H : Hp) (s : Shared), Inv X pins σ H s → PySem.PylongRoom (model X.prog X.w) X.A s
structure Cok (fns : List FnI) (cls : List Str) (N : List Str) (C : Nat → Addr) (Φ : Fs) (k : Nat) (X : Cx) (sc : Scope) (W : WX) : Prop where
  room : Room (k + 32) X.A
  seer : X.base.NoSeer
  tree : X.prog.given.tree = none
  top : ∃ env l, X.stack = env :: l ∧ env.scope.isGenerator = false ∧ env.scope.isCoroutine = false ∧ env.builtins = builtinsNs ∧ env.globals = mainGlobals
  nd : X.N.Nodup
  eN : X.N = N
  esc : X.env.scope = sc
  calm : X.calm = true
  tk : Takes X W
  blt : ∀ x ∈ bltNames, X.mg x = none
  exc : ∀ c x, cls[c]? = some x → ClsAt X.K X.mg x (C c)
  xf : ExF X.K cls C
  ar : ∀ i fi ds Xp Q, fns[i]? = some fi → Φ i ds Xp Q → ds.length = fi.np
  gcon : ∀ (i : Nat) (fi : FnI) (d : D), fns[i]? = some fi → fi.con = some d → ∃ u v, X.mg fi.name = some u ∧ RelV v u ∧ ∀ F, Dp X.K F v d
  callee : ∀ (i : Nat) (fi : FnI), fns[i]? = some fi → fi.con = none → ∃ f fd, X.mg fi.name = some (.ref f) ∧ PySem.W.keepIn X.K (.ref f) = true ∧ Binds X.K fd fi.ps [] ∧
    FnOk X.prog X.w X.K X.mg X.base (L2.CX X.prog X.w) (k + 32) f fd fi.ps (spec X.K C fi.np (Φ i))

theorem Cok.pyl {fns : List FnI} {cls N : List Str} {C : Nat → Addr} {Φ : Fs} {k : Nat} {X : Cx} {sc : Scope} {W : WX} (ok : Cok fns cls N C Φ k X sc W) : Pyl X := fun pins σ H s I => by
  obtain ⟨env, l, e1, e2, e3, e4, e5⟩ := ok.top
  have hd := ok.room.dp
  refine PySem.PylongRoom.of I.nolimit ?_ (PySem.SeerAt.of (ok.seer.keeps I.bk) ok.tree (I.ok.frames.trans (congrArg some e1)) e2 e3 e4 e5)
  show X.A.depth + 100 < _
  omega
/-! ### readings -/
structure Bd where
  C : Nat → Addr
  W : WX
  H0 : Hp
  F0 : Hp
section
variable (K : PySem.W.Frag) (b : Bd)
def Ex (Xp : XP) (σ : St) (H : Hp) : Prop := ∀ c ε' H' F', Same H H' → Rep K b.H0 b.F0 F' H' σ ε' → Xp c ε' → b.W (.ref (b.C c)) none σ H'
def rdE (T : Ev → XP → KE → Prop) : TE := fun σ H Q => ∃ ε F Xp Qp, Rep K b.H0 b.F0 F H σ ε ∧ T ε Xp Qp ∧ Ex K b Xp σ H ∧
  ∀ v ε' H' F' x, Same H H' → Sub F F' → Rep K b.H0 b.F0 F' H' σ ε' → VAt K b.H0 F' H' σ ε' x v → Qp v ε' → Q x H'
/-- its value stands still -/
def rdD (T : Ev → XP → KE → Prop) : TE := fun σ H Q => ∃ ε F Xp, ∃ Qp : D → Ev → Prop, Rep K b.H0 b.F0 F H σ ε ∧ T ε Xp (kD Qp) ∧ Ex K b Xp σ H ∧
  ∀ d ε' H' F' x, Same H H' → Sub F F' → Rep K b.H0 b.F0 F' H' σ ε' → Dp K F' x d → Qp d ε' → Q x H'
/-- its value is looked at -/
def rdP (T : Ev → XP → (D → Ev → Prop) → Prop) : TE := fun σ H Q => ∃ ε F Xp, ∃ Qp : D → Ev → Prop, Rep K b.H0 b.F0 F H σ ε ∧ T ε Xp Qp ∧ Ex K b Xp σ H ∧
  ∀ d ε' H' F' x, Same H H' → Sub F F' → Rep K b.H0 b.F0 F' H' σ ε' → PAt K F' H' x d → Qp d ε' → Q x H'
def rdT (T : Ev → XP → KE → Prop) : TT := fun σ H Q => ∃ ε F Xp, ∃ Qp : Bool → Ev → Prop, Rep K b.H0 b.F0 F H σ ε ∧ T ε Xp (kB Qp) ∧ Ex K b Xp σ H ∧
  ∀ d ε' H' F', Same H H' → Sub F F' → Rep K b.H0 b.F0 F' H' σ ε' → Qp d ε' → Q d H'
def rdA (T : Ev → XP → KE → Prop) : TA := fun σ H Q => ∃ ε F Xp, ∃ Qp : List D → Ev → Prop, Rep K b.H0 b.F0 F H σ ε ∧ T ε Xp (kM Qp) ∧ Ex K b Xp σ H ∧
  ∀ ds ε' H' F' xs, Same H H' → Sub F F' → Rep K b.H0 b.F0 F' H' σ ε' → DpAll K F' xs ds → Qp ds ε' → Q xs H'
def rdAP (T : Ev → XP → KE → Prop) : TA := fun σ H Q => ∃ ε F Xp, ∃ Qp : List D → Ev → Prop, Rep K b.H0 b.F0 F H σ ε ∧ T ε Xp (kM Qp) ∧ Ex K b Xp σ H ∧
  ∀ ds ε' H' F' xs, Same H H' → Sub F F' → Rep K b.H0 b.F0 F' H' σ ε' → DpAll K H' xs ds → Qp ds ε' → Q xs H'
/-- an iterator of these -/
structure ItOk (J : It) (F1 : Hp) (ds : List D) : Prop where
  go : ∀ i H, i < ds.length → Sub F1 H → J.go i H
  stop : ∀ H, Sub F1 H → J.stop ds.length H
  yld : ∀ i H x H' F, i < ds.length → Sub F1 F → Sub F H → J.yld i H x H' → Same H H' ∧ ∃ F' d, Sub F F' ∧ Sub F' H' ∧ New F F' H ∧ ds[i]? = some d ∧ Dp K F' x d
def rdI (T : Ev → XP → KE → Prop) : TI := fun σ H R => ∃ ε F Xp, ∃ Qp : List D → Ev → Prop, Rep K b.H0 b.F0 F H σ ε ∧ T ε Xp (kM Qp) ∧ Ex K b Xp σ H ∧
  ∀ ds ε' H' F' J, Same H H' → Sub F F' → Rep K b.H0 b.F0 F' H' σ ε' → ItOk K J F' ds → Qp ds ε' → R J H'
end
theorem Ex.mono {K : PySem.W.Frag} {b : Bd} {Xp : XP} {σ : St} {H H' : Hp} (x : Ex K b Xp σ H) (s : Same H H') : Ex K b Xp σ H' := fun c ε' H2 F' t R q => x c ε' H2 F' (s.trans t) R q
section
variable {X : Cx} {e : Expr} {b : Bd}
theorem peImp {t t' : TE} (h : PE X e t) (f : ∀ σ H Q, t' σ H Q → t σ H Q) : PE X e t' := ⟨fun pins s σ H Q I w => h.run pins s σ H Q I (f _ _ _ w)⟩
theorem ptImp {t t' : TT} (h : PT X e t) (f : ∀ σ H Q, t' σ H Q → t σ H Q) : PT X e t' := ⟨fun pins s σ H Q I w => h.run pins s σ H Q I (f _ _ _ w)⟩
theorem pwImp {t t' : TT} (h : PW X e t) (f : ∀ σ H Q, t' σ H Q → t σ H Q) : PW X e t' := ⟨fun wh pins s σ H Q I w => h.run wh pins s σ H Q I (f _ _ _ w)⟩
theorem paImp {es : List Expr} {t t' : TA} (h : PA X es t) (f : ∀ σ H Q, t' σ H Q → t σ H Q) : PA X es t' := ⟨fun pos pins s σ H Q I w => h.run pos pins s σ H Q I (f _ _ _ w)⟩
theorem piImp {tg : Expr} {t t' : TI} (h : PI X tg e t) (f : ∀ σ H Q, t' σ H Q → t σ H Q) : PI X tg e t' := ⟨fun pins s σ H Q I w => h.run pins s σ H Q I (f _ _ _ w)⟩
theorem pssImp {st : List Stmt} {t t' : TS} (h : PSs X st t) (f : ∀ D σ H, t' D σ H → t D σ H) : PSs X st t' := ⟨fun pins s σ H D I w => h.run pins s σ H D I (f _ _ _ w)⟩
theorem psImp {st : Stmt} {t t' : TS} (h : PS X st t) (f : ∀ D σ H, t' D σ H → t D σ H) : PS X st t' := ⟨fun pins s σ H D I w => h.run pins s σ H D I (f _ _ _ w)⟩
theorem peD {T : Ev → XP → KE → Prop} (h : PE X e (rdE X.K b T)) : PE X e (rdD X.K b T) := peImp h fun σ H Q ⟨ε, F, Xp, Qp, R, w, ex, k⟩ => by
  refine ⟨ε, F, Xp, kD Qp, R, w, ex, fun v ε' H' F' x s f R' a q => ?_⟩
  cases v with
  | d y => exact k y ε' H' F' x s f R' a q
  | own xs =>
    obtain ⟨F2, f2, R2, d2⟩ := R'.freeze a rfl
    exact k _ ε' H' F2 x s (f.trans f2) R2 d2 q
  | many _ => exact q.elim
  | exc _ => exact q.elim
theorem ptOf {T : Ev → XP → KE → Prop} (h : PE X e (rdE X.K b T)) (he : ∀ whole, isTrue e X.env whole = (do let v ← whole; standAt e.pos; holding [v] (truthy v))) : PT X e (rdT X.K b T) :=
  ptImp (pt_val h he) fun σ H Q ⟨ε, F, Xp, Qp, R, w, ex, k⟩ => by
    refine ⟨ε, F, Xp, kB Qp, R, w, ex, fun v ε' H' F' x s f R' a q => ?_⟩
    cases v with
    | d y =>
      cases y with
      | bool c => exact ⟨c, dpBl a, k c ε' H' F' s f R' q⟩
      | _ => exact q.elim
    | _ => exact q.elim
theorem starOf {e : Expr} {es : List Expr} {env : Env} (h : plainE e = true) : starEach (e :: es) env = (false, eval e env) :: starEach es env := by
  cases e <;> first | rfl | exact absurd h Bool.false_ne_true
theorem plainIx {e : Expr} (h : plainE e = true) : PlainIx e := by
  cases e <;> first | exact fun _ _ => rfl | exact absurd h Bool.false_ne_true
theorem noSw {e : Expr} {t : Option Expr} {l : Nat} {env : Env} (h : noComp e = true) : swapsWith e t l env = pure false := by
  cases e <;> first | rfl | exact absurd h Bool.false_ne_true
theorem noFold {e : Expr} {env : Env} {x : Value} (h : plainE e = true) : foldedSetIterable e env x = pure x := by
  cases e <;> first | rfl | exact absurd h Bool.false_ne_true
end
end Rc

/-! Operators by values. -/
namespace Rc
open PySem PySem.Spec PyProof.Rows L2
section
variable {X : Cx}
theorem line24 : sizeLine = 16777216 := sizeLine_eq
/-- list + list, of lists that may stand still -/
def rCatR (K : PySem.W.Frag) : R2 := fun x y H Q => ∃ l b xs zs, x = .ref l ∧ y = .ref b ∧ SqL K H l xs ∧ SqL K H b zs ∧ xs.length + zs.length ≤ sizeLine ∧
  ∀ p, H p = none → Q (.ref p) (upd H p (.lst (xs ++ zs)))
theorem op_catR : OpR X (binaryOp .Add) (rCatR X.K) := by
  intro pins s σ H x y v u Q I rx ry ⟨l, b, xs, zs, ex, ey, hl, hb, hz, q⟩
  subst ex ey
  cases rx; cases ry
  obtain ⟨is1, r1, ⟨⟨c1, d1, t1, z1⟩, n1, g1, hc1, hd1, ht1⟩, _⟩ := I.list hl
  obtain ⟨is2, r2, ⟨⟨c2, d2, t2, z2⟩, n2, g2, hc2, hd2, ht2⟩, _⟩ := I.list hb
  simp only at hc1 hd1 ht1 hc2 hd2 ht2
  subst hc1 hd1 ht1 hc2 hd2 ht2
  have l1 := r1.length
  have l2 := r2.length
  have sz : is1.toArray.size + is2.toArray.size ≤ sizeLine := by
    simp only [List.size_toArray]; omega
  refine concat_meets ⟨_, g1, rfl⟩ ⟨_, g2, rfl⟩ noFill_list_add seq_list_add PySem.F.slot_list_add PySem.F.entry_list_add
    (PySem.F.args_list_add_2 _ _) (list_addW l b is1.toArray is2.toArray n1 n2 none none z1 z2 sz) ⟨g1, g2, ?_⟩
  rw [List.append_toArray]
  have len : (xs ++ zs).length ≤ sizeLine := by simpa using hz
  exact ⟨.ref _, _, I.lnew (t' := s.toks) (r1.append r2) len, rfl, q _ I.fresh⟩
/-- list * int -/
def rRepR (K : PySem.W.Frag) : R2 := fun x y H Q => ∃ l k xs, x = .ref l ∧ y = .int k ∧ SqL K H l xs ∧ -(2 ^ 63) ≤ k ∧ k < 2 ^ 63 ∧ xs.length * k.toNat ≤ sizeLine ∧
  ∀ p, H p = none → Q (.ref p) (upd H p (.lst (List.replicate k.toNat xs).flatten))
theorem op_repR : OpR X (binaryOp .Mult) (rRepR X.K) := by
  intro pins s σ H x y v u Q I rx ry ⟨l, k, xs, ex, ey, hl, k1, k2, hz, q⟩
  subst ex ey
  cases rx
  obtain ⟨t, rfl⟩ := ry
  obtain ⟨is1, r1, ⟨⟨c1, d1, t1, z1⟩, n1, g1, hc1, hd1, ht1⟩, _⟩ := I.list hl
  simp only at hc1 hd1 ht1
  subst hc1 hd1 ht1
  have l1 := r1.length
  have len : is1.toArray.size * k.toNat ≤ sizeLine := by
    rw [List.size_toArray, ← l1]; exact hz
  have fold : List.foldl (fun a c => a ++ c) #[] (List.replicate (if is1.toArray.isEmpty = true then 0 else k.toNat) is1.toArray)
      = (List.replicate k.toNat is1).flatten.toArray := by
    have f : ∀ m : Nat, List.foldl (fun a c => a ++ c) #[] (List.replicate m is1.toArray) = (List.replicate m is1).flatten.toArray := fun m => by
      simpa using foldl_rep is1 m []
    rw [f]
    cases is1 with
    | nil => simp
    | cons a r => simp
  have t0 : s.TypeIs (.ref l) "list" := ⟨_, g1, rfl⟩
  refine wpAny_binaryOp_repeat_ref (T := "list") (U := "int") (by decide) t0 (fun s' => typeIs_int s' k t)
    noFill_list_mul F.fills_int_mul F.slot_int_rmul repeat_list F.slot_int_index.lookup ?_
  refine call_meets F.slot_int_rmul (typeIs_int s k t) F.entry_int_rmul (F.args_int_rmul_2 _ _)
    (lm_int_rmul_list_any k t l is1.toArray n1 none z1) ⟨g1, rfl, t0, ?_⟩
  have b1 : is1.toArray.size * k.toNat ≤ 16777216 := by rw [← line24]; exact len
  refine call_meets F.slot_list_mul t0 F.entry_list_mul (F.args_list_mul_2 _ _)
    (lm_list_mul_any l is1.toArray n1 none z1 k t ?_ ?_ ?_) ⟨g1, ?_⟩
  · simp [Builtin.List.listFitsIndex]; omega
  · omega
  · simp [Builtin.List.listTooLong, line24]; simpa using b1
  rw [fold]
  have len2 : (List.replicate k.toNat xs).flatten.length ≤ sizeLine := by
    rw [PyProof.Rows.lm_len_rep_flat, Nat.mul_comm]; exact hz
  exact ⟨.ref _, _, I.lnew (t' := s.toks) (r1.rep k.toNat) len2, rfl, q _ I.fresh⟩
theorem tupMulSame (l : Addr) (items : Array Value) (n : Nat) (dd : Option Addr) (sl : Array (Option Value)) (x : Int) (u : Tok) (c0 : (decide (x < -(2 ^ 63)) || decide (x ≥ 2 ^ 63)) = false) (c1 : (items.isEmpty || x == 1) = true) :
    Meets (Builtin.«tuple.__mul__» ⟨[.ref l, .int x u], []⟩) (fun _ R s => s.heap.get? l = some { cls := .type "tuple", dict := dd, data := .seq items n, slots := sl } ∧ R (.ok (.ret (Value.ref l))) s) :=
  .of_wp fun prog w A R s h => by
    obtain ⟨hp, g, d, tk, os⟩ := s
    obtain ⟨hl, h⟩ := h
    have f1 := AutoSeq1.idx_int
    wp_walk using wpAny_loadPart' hl
    repeat (first
      | (refine wpAny_ite_false (decide_eq_false (by rw [c0]; exact Bool.false_ne_true)) ?_; wp_walk using wpAny_loadPart' hl)
      | (refine wpAny_ite_true (decide_eq_true c1) ?_; wp_walk using wpAny_loadPart' hl))
    exact ⟨_, rfl, h⟩
theorem tupMulNone (l : Addr) (items : Array Value) (n : Nat) (dd : Option Addr) (sl : Array (Option Value)) (x : Int) (u : Tok) (c0 : (decide (x < -(2 ^ 63)) || decide (x ≥ 2 ^ 63)) = false) (c1 : (items.isEmpty || x == 1) = false) (c2 : (decide (x ≤ 0) || items.isEmpty) = true) :
    Meets (Builtin.«tuple.__mul__» ⟨[.ref l, .int x u], []⟩) (fun _ R s => s.heap.get? l = some { cls := .type "tuple", dict := dd, data := .seq items n, slots := sl } ∧
      R (.ok (.ret (Value.ref s.heap.objs.size))) { s with heap := s.heap.push { cls := Value.type "tuple", data := Data.seq #[] }, toks := s.toks }) :=
  .of_wp fun prog w A R s h => by
    obtain ⟨hp, g, d, tk, os⟩ := s
    obtain ⟨hl, h⟩ := h
    have f1 := AutoSeq1.idx_int
    wp_walk using wpAny_loadPart' hl
    repeat (first
      | (refine wpAny_ite_false (decide_eq_false (by rw [c0]; exact Bool.false_ne_true)) ?_; wp_walk using wpAny_loadPart' hl)
      | (refine wpAny_ite_false (decide_eq_false (by rw [c1]; exact Bool.false_ne_true)) ?_; wp_walk using wpAny_loadPart' hl)
      | (refine wpAny_ite_true (decide_eq_true c2) ?_; wp_walk using wpAny_loadPart' hl))
    exact ⟨_, rfl, h⟩
def rMulT (K : PySem.W.Frag) : R2 := fun x y H Q => ∃ l k xs, x = .ref l ∧ y = .int k ∧ SqT K H l xs ∧ -(2 ^ 63) ≤ k ∧ k ≤ 1000 ∧ xs.length ≤ 1000 ∧ ((xs = [] ∨ k = 1) → Q (.ref l) H) ∧
  (¬ (xs = [] ∨ k = 1) → ∀ p, H p = none → Q (.ref p) (upd H p (.tup (List.replicate k.toNat xs).flatten)))
theorem op_mulT : OpR X (binaryOp .Mult) (rMulT X.K) := by
  intro pins s σ H x y v u Q I rx ry h
  obtain ⟨l, k, xs, rfl, rfl, hT, k1, k2, hz, q1, q2⟩ := h
  by_cases hs : xs = [] ∨ k = 1
  · cases rx
    obtain ⟨t, rfl⟩ := ry
    obtain ⟨its, r, ⟨⟨cls, dd, data, sl⟩, ho, hc, n, hd⟩, hsz⟩ := I.tuple hT
    simp only at hc hd
    subst hc hd
    have hle : its.length = xs.length := r.length.symm
    have c0 : (decide (k < -(2 ^ 63)) || decide (k ≥ 2 ^ 63)) = false := by
      rw [decide_eq_false (by omega), decide_eq_false (by omega)] <;> rfl
    have c1 : (its.toArray.isEmpty || k == 1) = true := by
      rcases hs with e | e
      · subst e
        have : its = [] := List.eq_nil_of_length_eq_zero hle
        subst this
        rfl
      · subst e
        simp
    refine wpAny_binaryOp_repeat_ref (T := "tuple") (U := "int") (by decide) ⟨_, ho, rfl⟩ (fun s' => typeIs_int s' k t) noFill_tuple_mul F.fills_int_mul F.slot_int_rmul repeat_tuple F.slot_int_index.lookup
      (call_meets F.slot_int_rmul (typeIs_int s k t) F.entry_int_rmul (F.args_int_rmul_2 _ _) (int_rmul_tuple k t l its.toArray n dd sl)
        ⟨ho, rfl, ⟨_, ho, rfl⟩, call_meets F.slot_tuple_mul ⟨_, ho, rfl⟩ F.entry_tuple_mul (F.args_tuple_mul_2 _ _) (tupMulSame l its.toArray n dd sl k t c0 c1) ⟨ho, ?_⟩⟩)
    exact ⟨.ref l, H, I, rfl, q1 hs⟩
  · have hne : xs ≠ [] := fun e => hs (.inl e)
    have hk1 : k ≠ 1 := fun e => hs (.inr e)
    by_cases hk : 2 ≤ k
    · exact op_repT pins s σ H _ _ v u Q I rx ry ⟨l, k, xs, rfl, rfl, hT, hne, hk, k2, hz, q2 hs⟩
    · cases rx
      obtain ⟨t, rfl⟩ := ry
      obtain ⟨its, r, ⟨⟨cls, dd, data, sl⟩, ho, hc, n, hd⟩, hsz⟩ := I.tuple hT
      simp only at hc hd
      subst hc hd
      have hle : its.length = xs.length := r.length.symm
      have hi : its.toArray.isEmpty = false := by
        cases its with
        | nil => exact absurd (List.eq_nil_of_length_eq_zero hle.symm) hne
        | cons a b => rfl
      have c0 : (decide (k < -(2 ^ 63)) || decide (k ≥ 2 ^ 63)) = false := by
        rw [decide_eq_false (by omega), decide_eq_false (by omega)] <;> rfl
      have c1 : (its.toArray.isEmpty || k == 1) = false := by
        rw [hi, Bool.false_or]
        exact beq_eq_false_iff_ne.mpr hk1
      have c2 : (decide (k ≤ 0) || its.toArray.isEmpty) = true := by
        rw [decide_eq_true (by omega)]
        rfl
      have e0 : (List.replicate k.toNat xs).flatten = [] := by
        rw [show k.toNat = 0 by omega]
        rfl
      rw [e0] at q2
      refine wpAny_binaryOp_repeat_ref (T := "tuple") (U := "int") (by decide) ⟨_, ho, rfl⟩ (fun s' => typeIs_int s' k t) noFill_tuple_mul F.fills_int_mul F.slot_int_rmul repeat_tuple F.slot_int_index.lookup
        (call_meets F.slot_int_rmul (typeIs_int s k t) F.entry_int_rmul (F.args_int_rmul_2 _ _) (int_rmul_tuple k t l its.toArray n dd sl)
          ⟨ho, rfl, ⟨_, ho, rfl⟩, call_meets F.slot_tuple_mul ⟨_, ho, rfl⟩ F.entry_tuple_mul (F.args_tuple_mul_2 _ _) (tupMulNone l its.toArray n dd sl k t c0 c1 c2) ⟨ho, ?_⟩⟩)
      refine ⟨.ref s.heap.objs.size, _, I.laid (t' := s.toks) (o := .tup []) (fun b ob q => Heap.get?_push_of_some _ q) (Nat.le_refl _) ?_, rfl, q2 hs _ (I.hok.fresh (Nat.le_refl _))⟩
      exact ⟨Nat.zero_le _, _, .nil, IsTup.new _ _⟩
theorem mulOk_ok {i j : Int} (h : mulOk i j) : IntMulOk i j := by
  rcases h with h | h | h
  · exact .of_left (intBits_le_64 h.1 h.2)
  · exact .of_right (intBits_le_64 h.1 h.2)
  · have bd : ∀ x : Int, Builtin.Int.intBits x ≤ x.natAbs.log2 + 1 := fun x => by
      unfold Builtin.Int.intBits
      split <;> omega
    have h1 := bd i
    have h2 := bd j
    unfold IntMulOk
    intro z
    rw [Bool.and_eq_true] at z
    have z2 := of_decide_eq_true (show decide _ = true from z.2)
    rw [bitsLine_eq] at z2
    omega
/-- what comes of two values -/
def rBin (K : PySem.W.Frag) (o : Operator) : R2 := fun x y H Q => ∃ F d e Qv, Sub F H ∧ Dp K F x d ∧ Dp K F y e ∧ opW o d e Qv ∧
  ∀ v z H' F', Same H H' → Sub F F' → Sub F' H' → New F F' H → VR K H F' H' z v → Qv v → Q z H'
theorem opBin (hq : Pyl X) (o : Operator) : OpR X (binaryOp o) (rBin X.K o) := by
  intro pins s σ H x y v u Q I rx ry ⟨F, d, e, Qv, sb, hx, hy, w, k⟩
  have kInt : ∀ n : Int, Qv (.d (.int n)) → Q (.int n) H := fun n q => k (.d (.int n)) _ H F (.refl H) (.refl F) sb .refl (Dp.int n) q
  cases o with
  | Add =>
    cases d with
    | int i =>
      cases e with
      | int j =>
        cases dpInt hx; cases dpInt hy
        exact op_add pins s σ H _ _ v u Q I rx ry ⟨i, j, rfl, rfl, kInt _ w⟩
      | _ => exact w.elim
    | str i =>
      cases e with
      | str j =>
        cases dpStr hx; cases dpStr hy
        exact op_add_str pins s σ H _ _ v u Q I rx ry ⟨i, j, rfl, rfl, by rw [line24]; exact w.1, k (.d (.str (i ++ j))) _ H F (.refl H) (.refl F) sb .refl (Dp.str _) w.2⟩
      | _ => exact w.elim
    | list a =>
      cases e with
      | list c =>
        obtain ⟨l, xs, rfl, r1, a1⟩ := dpLst hx
        obtain ⟨m, ys, rfl, r2, a2⟩ := dpLst hy
        refine op_catR pins s σ H _ _ v u Q I rx ry ⟨l, m, xs, ys, rfl, rfl, sqlSub sb r1, sqlSub sb r2, by rw [line24, daLen a1, daLen a2]; exact w.1, fun p hp => ?_⟩
        exact k (.own (a ++ c)) _ _ F (same_upd hp) (.refl F) (sb.upd (sb.none hp)) .refl ⟨p, _, rfl, upd_same, daApp a1 a2, sb.none hp, hp⟩ w.2
      | _ => exact w.elim
    | tuple a =>
      cases e with
      | tuple c =>
        obtain ⟨l, xs, rfl, r1, a1⟩ := dpTup hx
        obtain ⟨m, ys, rfl, r2, a2⟩ := dpTup hy
        refine op_catA pins s σ H _ _ v u Q I rx ry ⟨l, m, xs, ys, rfl, rfl, (sqtSub sb r1), (sqtSub sb r2), by rw [line24, daLen a1, daLen a2]; exact w.1, fun h0 => ?_, fun _ h0 => ?_, fun _ _ p hp => ?_⟩
        · subst h0
          cases a1
          exact k (.d (.tuple c)) _ H F (.refl H) (.refl F) sb .refl hy w.2
        · subst h0
          cases a2
          have w2 := w.2
          rw [List.append_nil] at w2
          exact k (.d (.tuple a)) _ H F (.refl H) (.refl F) sb .refl hx w2
        · exact k (.d (.tuple (a ++ c))) _ _ (upd F p _) (same_upd hp) (sub_updF (sb.none hp)) sb.upd2 (.add hp) (Dp.tup (.inl (.inl upd_same)) (daSub (sub_updF (sb.none hp)) (daApp a1 a2))) w.2
      | _ => exact w.elim
    | _ => exact w.elim
  | Sub =>
    cases d with
    | int i =>
      cases e with
      | int j =>
        cases dpInt hx; cases dpInt hy
        exact op_sub pins s σ H _ _ v u Q I rx ry ⟨i, j, rfl, rfl, kInt _ w⟩
      | _ => exact w.elim
    | _ => exact w.elim
  | Mult =>
    cases d with
    | int i =>
      cases e with
      | int j =>
        cases dpInt hx; cases dpInt hy
        obtain ⟨t, rfl⟩ := rx
        obtain ⟨t', rfl⟩ := ry
        exact mul_int ⟨.int _, H, I.tok _, ⟨_, rfl⟩, kInt _ w.2⟩ (mulOk_ok w.1)
      | _ => exact w.elim
    | list a =>
      cases e with
      | int j =>
        obtain ⟨l, xs, rfl, r1, a1⟩ := dpLst hx
        cases dpInt hy
        refine op_repR pins s σ H _ _ v u Q I rx ry ⟨l, j, xs, rfl, rfl, sqlSub sb r1, w.1, w.2.1, by rw [line24, daLen a1]; exact w.2.2.1, fun p hp => ?_⟩
        exact k (.own _) _ _ F (same_upd hp) (.refl F) (sb.upd (sb.none hp)) .refl ⟨p, _, rfl, upd_same, daRep a1 _, sb.none hp, hp⟩ w.2.2.2
      | _ => exact w.elim
    | tuple a =>
      cases e with
      | int j =>
        obtain ⟨l, xs, rfl, r1, a1⟩ := dpTup hx
        cases dpInt hy
        refine op_mulT pins s σ H _ _ v u Q I rx ry ⟨l, j, xs, rfl, rfl, (sqtSub sb r1), w.1, w.2.1, by rw [daLen a1]; exact w.2.2.1, fun h0 => ?_, fun h0 p hp => ?_⟩
        · have e0 : (List.replicate j.toNat a).flatten = a := by
            rcases h0 with h0 | h0
            · subst h0
              cases a1
              simp
            · subst h0
              simp
          have w2 := w.2.2.2
          rw [e0] at w2
          exact k (.d (.tuple a)) _ H F (.refl H) (.refl F) sb .refl hx w2
        · exact k (.d (.tuple (List.replicate j.toNat a).flatten)) _ _ (upd F p _) (same_upd hp) (sub_updF (sb.none hp)) sb.upd2 (.add hp) (Dp.tup (.inl (.inl upd_same)) (daSub (sub_updF (sb.none hp)) (daRep a1 _))) w.2.2.2
      | _ => exact w.elim
    | _ => exact w.elim
  | FloorDiv =>
    cases d with
    | int i =>
      cases e with
      | int j =>
        cases dpInt hx; cases dpInt hy
        obtain ⟨t, rfl⟩ := rx
        obtain ⟨t', rfl⟩ := ry
        exact floordiv_int w.1 ⟨.int _, H, I.tok _, ⟨_, rfl⟩, kInt _ w.2⟩ (.inr (hq _ _ _ _ I))
      | _ => exact w.elim
    | _ => exact w.elim
  | Mod =>
    cases d with
    | int i =>
      cases e with
      | int j =>
        cases dpInt hx; cases dpInt hy
        exact op_modN pins s σ H _ _ v u Q I rx ry ⟨i, j, rfl, rfl, w.1, kInt _ w.2⟩
      | _ => exact w.elim
    | _ => exact w.elim
  | Pow =>
    cases d with
    | int i =>
      cases e with
      | int j =>
        cases dpInt hx; cases dpInt hy
        have q := w.2.2.1
        exact op_pow pins s σ H _ _ v u Q I rx ry ⟨i, j, rfl, rfl, ⟨w.1, w.2.1, by unfold small64 at q; omega⟩, kInt _ w.2.2.2⟩
      | _ => exact w.elim
    | _ => exact w.elim
  | LShift =>
    cases d with
    | int i =>
      cases e with
      | int j =>
        cases dpInt hx; cases dpInt hy
        have q := w.2.2.1
        exact op_shl pins s σ H _ _ v u Q I rx ry ⟨i, j, rfl, rfl, ⟨w.1, w.2.1, by unfold small64 at q; omega⟩, kInt _ w.2.2.2⟩
      | _ => exact w.elim
    | _ => exact w.elim
  | RShift =>
    cases d with
    | int i =>
      cases e with
      | int j =>
        cases dpInt hx; cases dpInt hy
        exact op_shr pins s σ H _ _ v u Q I rx ry ⟨i, j, rfl, rfl, w.1, kInt _ w.2⟩
      | _ => exact w.elim
    | _ => exact w.elim
  | BitAnd =>
    cases d with
    | int i =>
      cases e with
      | int j =>
        cases dpInt hx; cases dpInt hy
        exact op_and pins s σ H _ _ v u Q I rx ry ⟨i, j, rfl, rfl, kInt _ w⟩
      | _ => exact w.elim
    | _ => exact w.elim
  | _ => exact w.elim
/-- two values set beside each other -/
def rCmp (K : PySem.W.Frag) (o : CmpOp) : R2 := fun x y H Q => ∃ d e Qv, Dp K H x d ∧ Dp K H y e ∧ cmpW o d e Qv ∧ ∀ c, Qv c → Q (.bl c) H
theorem opCmp (hu : X.A.units + 64 < cLine) (o : CmpOp) : OpR X (compareOp o) (rCmp X.K o) := by
  intro pins s σ H x y v u Q I rx ry ⟨d, e, Qv, hx, hy, w, k⟩
  cases o with
  | Eq =>
    have gen : SeqAt.shaped d = true ∧ SeqAt.shaped e = true ∧ Qv (PyData.eqv d e) → wpAny (model X.prog X.w) X.A (compareOp .Eq v u) (EP X pins σ Q) X.xe s := fun w =>
      op_eqD hu pins s σ H x y v u Q I rx ry ⟨d, e, dpOut hx, dpOut hy, w.1, w.2.1, k _ w.2.2⟩
    cases d with
    | int i =>
      cases e with
      | int j =>
        cases dpInt hx; cases dpInt hy
        exact op_eq pins s σ H _ _ v u Q I rx ry ⟨rfl, by rw [show decide (V.int i = V.int j) = decide (i = j) by simp]; exact k _ w⟩
      | _ => exact gen w
    | _ => exact gen w
  | NotEq =>
    have gen : SeqAt.shaped d = true ∧ SeqAt.shaped e = true ∧ Qv (!PyData.eqv d e) → wpAny (model X.prog X.w) X.A (compareOp .NotEq v u) (EP X pins σ Q) X.xe s := fun w =>
      op_neD hu pins s σ H x y v u Q I rx ry ⟨d, e, dpOut hx, dpOut hy, w.1, w.2.1, k _ w.2.2⟩
    cases d with
    | int i =>
      cases e with
      | int j =>
        cases dpInt hx; cases dpInt hy
        exact op_ne pins s σ H _ _ v u Q I rx ry ⟨rfl, by rw [show decide (V.int i = V.int j) = decide (i = j) by simp]; exact k _ w⟩
      | _ => exact gen w
    | _ => exact gen w
  | Lt =>
    cases d with
    | int i =>
      cases e with
      | int j =>
        cases dpInt hx; cases dpInt hy
        exact op_lt pins s σ H _ _ v u Q I rx ry ⟨i, j, rfl, rfl, k _ w⟩
      | _ => exact w.elim
    | _ => exact w.elim
  | LtE =>
    cases d with
    | int i =>
      cases e with
      | int j =>
        cases dpInt hx; cases dpInt hy
        exact op_le pins s σ H _ _ v u Q I rx ry ⟨i, j, rfl, rfl, k _ w⟩
      | _ => exact w.elim
    | _ => exact w.elim
  | Gt =>
    cases d with
    | int i =>
      cases e with
      | int j =>
        cases dpInt hx; cases dpInt hy
        exact op_gt pins s σ H _ _ v u Q I rx ry ⟨i, j, rfl, rfl, k _ w⟩
      | _ => exact w.elim
    | _ => exact w.elim
  | GtE =>
    cases d with
    | int i =>
      cases e with
      | int j =>
        cases dpInt hx; cases dpInt hy
        exact op_ge pins s σ H _ _ v u Q I rx ry ⟨i, j, rfl, rfl, k _ w⟩
      | _ => exact w.elim
    | _ => exact w.elim
  | Is =>
    cases e with
    | none =>
      cases dpNon hy
      exact op_isN pins s σ H x _ v u Q I rx ry ⟨rfl, by rw [dpIsNon hx]; cases d <;> exact k _ w⟩
    | bool c =>
      cases d with
      | bool a =>
        cases dpBl hx; cases dpBl hy
        exact op_isBl pins s σ H _ _ v u Q I rx ry ⟨a, c, rfl, rfl, k _ w⟩
      | _ => exact w.elim
    | _ => cases d <;> exact w.elim
  | IsNot =>
    cases e with
    | none =>
      cases dpNon hy
      exact op_notN pins s σ H x _ v u Q I rx ry ⟨rfl, by rw [dpIsNon hx]; cases d <;> exact k _ w⟩
    | bool c =>
      cases d with
      | bool a =>
        cases dpBl hx; cases dpBl hy
        exact op_notBl pins s σ H _ _ v u Q I rx ry ⟨a, c, rfl, rfl, k _ w⟩
      | _ => exact w.elim
    | _ => cases d <;> exact w.elim
  | _ => exact w.elim
end
end Rc

/-! What the terms mean holds of the text: expressions. -/
namespace Rc
open PySem PySem.Spec PyProof.Rows L2
/-- plain in a test -/
def Pln (X : Cx) (e : Expr) : Prop := ∀ whole, isTrue e X.env whole = (do let v ← whole; standAt e.pos; holding [v] (truthy v))
section
variable (fns : List FnI) (cls : List Str) (N : List Str) (C : Nat → Addr) (Φ : Fs) (k : Nat)
structure Sn (i : IE) : Prop where
  e : ∀ (b : Bd) (X : Cx) (sc : Scope), b.C = C → Cok fns cls N C Φ k X sc b.W → ∀ e, chk fns N i sc [e] = true → PE X e (rdE X.K b (wE Φ i))
  t : ∀ (b : Bd) (X : Cx) (sc : Scope), b.C = C → Cok fns cls N C Φ k X sc b.W → ∀ e, chk fns N i sc [e] = true → PT X e (rdT X.K b (wE Φ i))
  w : ∀ (b : Bd) (X : Cx) (sc : Scope), b.C = C → Cok fns cls N C Φ k X sc b.W → ∀ op es pos, chk fns N i sc [.BoolOp op es pos] = true → PW X (.BoolOp op es pos) (rdT X.K b (wE Φ i))
  a : ∀ (b : Bd) (X : Cx) (sc : Scope), b.C = C → Cok fns cls N C Φ k X sc b.W → isL i = true → ∀ es, chk fns N i sc (dm :: dm :: es) = true → PA X es (rdA X.K b (wE Φ i))
  ap : ∀ (b : Bd) (X : Cx) (sc : Scope), b.C = C → Cok fns cls N C Φ k X sc b.W → isLP i = true → ∀ es, chk fns N i sc (dm :: dm :: es) = true → PA X es (rdAP X.K b (wE Φ i))
  i : ∀ (b : Bd) (X : Cx) (sc : Scope), b.C = C → Cok fns cls N C Φ k X sc b.W → isIt i = true → ∀ e tg, chk fns N i sc [e, tg] = true → PI X tg e (rdI X.K b (wE Φ i))
end
section
variable {fns : List FnI} {cls : List Str} {N : List Str} {C : Nat → Addr} {Φ : Fs} {k : Nat} {X : Cx} {b : Bd} {sc : Scope}
theorem nmB_of {j : Nat} {x : Str} (h : nmB N j x = true) : N[j]? = some x ∧ (x == ("__debug__" : Str)) = false ∧ (x == ("__classdict__" : Str)) = false := by
  unfold nmB at h
  simp only [Bool.and_eq_true, decide_eq_true_eq, Bool.not_eq_true'] at h
  exact ⟨h.1.1, h.1.2, h.2⟩
theorem visB_of {x : Str} (h : visB sc x = true) : Vis sc x := by
  unfold visB at h
  split at h
  · exact .inl (by assumption)
  · exact .inr (.inl (by assumption))
  · exact .inr (.inr (by assumption))
  · cases h
theorem locB_of {x : Str} (h : locB sc x = true) : Loc sc x := by
  unfold locB at h
  split at h
  · exact .inl (by assumption)
  · exact .inr (by assumption)
  · cases h
theorem lclB_of {x : Str} (h : lclB sc x = true) : sc.names.lookup x = some .local := by
  unfold lclB at h
  split at h
  · assumption
  · cases h
theorem glB_of {x : Str} (ok : Cok fns cls N C Φ k X sc b.W) (h : glB sc x = true) : Gl X x := by
  unfold glB at h
  split at h
  · rename_i q
    show X.env.scope.names.lookup x = _
    rw [ok.esc]; exact q
  · cases h
theorem peVar (ok : Cok fns cls N C Φ k X sc b.W) {j : Nat} {x : Str} {p : Pos} (h : (nmB N j x && visB sc x) = true) : PE X (.Name x p) (tVar j) := by
  rw [Bool.and_eq_true] at h
  obtain ⟨h1, h2, h3⟩ := nmB_of h.1
  exact pe_var (by rw [ok.eN]; exact h1) (by rw [ok.esc]; exact visB_of h.2) h2 h3
/-- a look at an operand -/
theorem pkE (ok : Cok fns cls N C Φ k X sc b.W) (hC : b.C = C) {i : IE} (s : Sn fns cls N C Φ k i) {e : Expr} (h : chk fns N i sc [e] = true) :
    PE X e (rdP X.K b (fun ε Xp q => pkW i ε (fun T => wE Φ i ε Xp T) q)) := by
  have gen : isVar i = none → PE X e (rdP X.K b (fun ε Xp q => pkW i ε (fun T => wE Φ i ε Xp T) q)) := fun hn => by
    refine peImp (peD (s.e b X sc hC ok e h)) fun σ H Q ⟨ε, F, Xp, Qp, R, w, ex, kk⟩ => ⟨ε, F, Xp, Qp, R, ?_, ex, fun d ε' H' F' x s f R' a q => kk d ε' H' F' x s f R' (.inl a) q⟩
    unfold pkW at w
    rw [hn] at w
    exact w
  cases i with
  | var j =>
    cases e with
    | Name x p =>
      refine peImp (peVar ok h) fun σ H Q ⟨ε, F, Xp, Qp, R, w, ex, kk⟩ => ?_
      have w' : peek ε j Qp := w
      unfold peek at w'
      split at w'
      · rename_i y hy
        obtain ⟨v, e1, d1⟩ := R.dat j y hy
        exact ⟨v, e1, kk y ε H F v (.refl H) (.refl F) R (.inl d1) w'⟩
      · rename_i ys hy
        obtain ⟨p, vs, e1, h1, h2, h3, h4⟩ := R.own j ys hy
        exact ⟨.ref p, e1, kk _ ε H F _ (.refl H) (.refl F) R (.inr ⟨p, vs, ys, rfl, rfl, h1, h2⟩) w'⟩
      · exact w'.elim
    | _ => exact absurd h Bool.false_ne_true
  | _ => exact gen rfl
theorem vrVat {K : PySem.W.Frag} {H0 F0 F H F' H' : Hp} {σ : St} {ε : Ev} {x : V} {v : Val} (R : Rep K H0 F0 F H σ ε) (h : VR K H F' H' x v) : VAt K H0 F' H' σ ε x v := by
  cases v with
  | d y => exact h
  | own ys =>
    obtain ⟨p, vs, e, h1, h2, h3, h4⟩ := h
    exact ⟨p, vs, e, h1, h2, h3, R.h0.none h4, R.offNew h4⟩
  | many _ => exact h.elim
  | exc _ => exact h.elim

/-! ### one by one -/
theorem eVar (ok : Cok fns cls N C Φ k X sc b.W) {j : Nat} {x : Str} {p : Pos} (h : (nmB N j x && visB sc x) = true) : PE X (.Name x p) (rdE X.K b (wE Φ (.var j))) :=
  peImp (peVar ok h) fun σ H Q ⟨ε, F, Xp, Qp, R, w, ex, kk⟩ => by
    unfold wE at w
    split at w
    · rename_i y hy
      obtain ⟨v, e1, d1⟩ := R.dat j y hy
      exact ⟨v, e1, kk (.d y) ε H F v (.refl H) (.refl F) R d1 w⟩
    · rename_i ys hy
      obtain ⟨v, F', e1, f1, R1, d1⟩ := R.still hy
      exact ⟨v, e1, kk (.d (.list ys)) _ H F' v (.refl H) f1 R1 d1 w⟩
    · exact w.elim
theorem eMov (ok : Cok fns cls N C Φ k X sc b.W) {j : Nat} {x : Str} {p : Pos} (h : (nmB N j x && visB sc x) = true) : PE X (.Name x p) (rdE X.K b (wE Φ (.mov j))) :=
  peImp (peVar ok h) fun σ H Q ⟨ε, F, Xp, Qp, R, w, ex, kk⟩ => by
    unfold wE at w
    split at w
    · rename_i y hy
      obtain ⟨v, e1, d1⟩ := R.dat j y hy
      exact ⟨v, e1, kk (.d y) ε H F v (.refl H) (.refl F) R d1 w⟩
    · rename_i ys hy
      obtain ⟨v, e1, R1, d1⟩ := R.move hy
      exact ⟨v, e1, kk (.own ys) _ H F v (.refl H) (.refl F) R1 d1 w⟩
    · exact w.elim
theorem eCst {c : D} {q : Const} {n : Nat} {p : Pos} (h : litB c q = true) : PE X (.Constant q n p) (rdE X.K b (wE Φ (.cst c))) := by
  have fin : ∀ (v : V), (∀ F, Dp X.K F v c) → ∀ σ H Q, rdE X.K b (wE Φ (.cst c)) σ H Q → tC v σ H Q := fun v hv σ H Q ⟨ε, F, Xp, Qp, R, w, ex, kk⟩ =>
    kk (.d c) ε H F v (.refl H) (.refl F) R (hv F) w
  cases c with
  | none =>
    cases q with
    | none => exact peImp pe_non (fin _ fun _ => .non)
    | _ => exact absurd h Bool.false_ne_true
  | bool x =>
    cases q with
    | bool y => cases (beq_iff_eq.mp h); exact peImp pe_bl (fin _ fun _ => .bl _)
    | _ => exact absurd h Bool.false_ne_true
  | int x =>
    cases q with
    | int y => cases (beq_iff_eq.mp h); exact peImp pe_int (fin _ fun _ => .int _)
    | _ => exact absurd h Bool.false_ne_true
  | str x =>
    cases q with
    | str y => cases (of_decide_eq_true h); exact peImp pe_str (fin _ fun _ => .str _)
    | _ => exact absurd h Bool.false_ne_true
  | _ => exact absurd h Bool.false_ne_true
theorem eTup {a : IE} {es : List Expr} {n : Nat} {p : Pos} (h : PA X es (rdA X.K b (wE Φ a))) : PE X (.Tuple es n p) (rdE X.K b (wE Φ (.tup a))) :=
  peImp (pe_tup h) fun σ H Q ⟨ε, F, Xp, Qp, R, w, ex, kk⟩ =>
    ⟨ε, F, Xp, _, R, w, ex, fun ds ε' H' F' xs s f R' d q => ⟨by rw [line24, daLen d]; exact q.1, fun p hp =>
      kk (.d (.tuple ds)) ε' _ (upd F' p (.tup xs)) _ (s.trans (same_upd hp)) (f.trans (sub_updF (R'.fh.none hp))) (R'.tup _ hp) (Dp.tup (.inl (.inl upd_same)) (daSub (sub_updF (R'.fh.none hp)) d)) q.2⟩⟩
theorem eLst {a : IE} {es : List Expr} {p : Pos} (h : PA X es (rdA X.K b (wE Φ a))) : PE X (.List es p) (rdE X.K b (wE Φ (.lst a))) :=
  peImp (pe_lst h) fun σ H Q ⟨ε, F, Xp, Qp, R, w, ex, kk⟩ =>
    ⟨ε, F, Xp, _, R, w, ex, fun ds ε' H' F' xs s f R' d q => ⟨by rw [line24, daLen d]; exact q.1, fun p hp =>
      kk (.own ds) ε' _ F' _ (s.trans (same_upd hp)) f (R'.lst _ hp) (.newL R' hp d) q.2⟩⟩
theorem eBin (ok : Cok fns cls N C Φ k X sc b.W) {o : Operator} {i j : IE} {l r : Expr} {p : Pos} (h1 : PE X l (rdE X.K b (wE Φ i))) (h2 : PE X r (rdE X.K b (wE Φ j))) : PE X (.BinOp l o r p) (rdE X.K b (wE Φ (.bin o i j))) :=
  peImp (pe_op (opBin ok.pyl o) (peD h1) (peD h2)) fun σ H Q ⟨ε, F, Xp, Qp, R, w, ex, kk⟩ =>
    ⟨ε, F, Xp, _, R, w, ex, fun d ε1 H1 F1 x s1 f1 R1 d1 q1 => ⟨ε1, F1, Xp, _, R1, q1, ex.mono s1, fun e ε2 H2 F2 y s2 f2 R2 d2 q2 =>
      ⟨F2, d, e, _, R2.fh, dpSub f2 d1, d2, q2, fun v z H3 F3 s3 f3 g3 n3 vr q3 => kk v ε2 H3 F3 z ((s1.trans s2).trans s3) ((f1.trans f2).trans f3) (R2.grow s3 f3 g3 n3) (vrVat R2 vr) q3⟩⟩⟩
theorem eCmp (ok : Cok fns cls N C Φ k X sc b.W) {o : CmpOp} (ho : o ≠ .In) (ho2 : o ≠ .NotIn) {i j : IE} {l r : Expr} {p : Pos} (h1 : PE X l (rdP X.K b (fun ε Xp q => pkW i ε (fun T => wE Φ i ε Xp T) q))) (h2 : PE X r (rdP X.K b (fun ε Xp q => pkW j ε (fun T => wE Φ j ε Xp T) q))) :
    PE X (.Compare l [o] [r] p) (rdE X.K b (wE Φ (.cmp o i j))) ∧ PT X (.Compare l [o] [r] p) (rdT X.K b (wE Φ (.cmp o i j))) := by
  refine ⟨peImp (pe_cmpR (opCmp ok.room.units o) h1 h2 (nomark _ ho ho2)) fun σ H Q ⟨ε, F, Xp, Qp, R, w, ex, kk⟩ => ?_,
    ptImp (pt_cmpR (opCmp ok.room.units o) h1 h2 (nomark _ ho ho2)) fun σ H Q ⟨ε, F, Xp, Qp, R, w, ex, kk⟩ => ?_⟩
  · exact ⟨ε, F, Xp, _, R, w, ex, fun d ε1 H1 F1 x s1 f1 R1 d1 q1 => ⟨ε1, F1, Xp, _, R1, q1, ex.mono s1, fun e ε2 H2 F2 y s2 f2 R2 d2 q2 =>
      ⟨d, e, _, (PAt.mono f2 s2 d1).dp R2.fh, d2.dp R2.fh, q2, fun c q => kk (.d (.bool c)) ε2 H2 F2 _ (s1.trans s2) (f1.trans f2) R2 (Dp.bl c) q⟩⟩⟩
  · exact ⟨ε, F, Xp, _, R, w, ex, fun d ε1 H1 F1 x s1 f1 R1 d1 q1 => ⟨ε1, F1, Xp, _, R1, q1, ex.mono s1, fun e ε2 H2 F2 y s2 f2 R2 d2 q2 =>
      ⟨d, e, _, (PAt.mono f2 s2 d1).dp R2.fh, d2.dp R2.fh, q2, fun c q => ⟨c, rfl, kk c ε2 H2 F2 (s1.trans s2) (f1.trans f2) R2 q⟩⟩⟩⟩
theorem eNeg {i : IE} {e : Expr} {p : Pos} (h : PE X e (rdE X.K b (wE Φ i))) : PE X (.UnaryOp .USub e p) (rdE X.K b (wE Φ (.neg i))) :=
  peImp (pe_un un_neg (peD h)) fun σ H Q ⟨ε, F, Xp, Qp, R, w, ex, kk⟩ =>
    ⟨ε, F, Xp, _, R, w, ex, fun d ε1 H1 F1 x s1 f1 R1 d1 q1 => by
      cases d with
      | int n => exact ⟨n, dpInt d1, kk (.d (.int (-n))) ε1 H1 F1 _ s1 f1 R1 (Dp.int _) q1⟩
      | _ => exact q1.elim⟩
theorem eNot {i : IE} {e : Expr} {p : Pos} (h : PE X e (rdE X.K b (wE Φ i))) (ht : PT X e (rdT X.K b (wE Φ i))) :
    PE X (.UnaryOp .Not e p) (rdE X.K b (wE Φ (.bnot i))) ∧ PT X (.UnaryOp .Not e p) (rdT X.K b (wE Φ (.bnot i))) := by
  refine ⟨peImp (pe_not (peD h)) fun σ H Q ⟨ε, F, Xp, Qp, R, w, ex, kk⟩ => ?_, ptImp (pt_not ht) fun σ H Q ⟨ε, F, Xp, Qp, R, w, ex, kk⟩ => ?_⟩
  · refine ⟨ε, F, Xp, (fun d ε1 => match d with
      | .bool c => Qp (.d (.bool (!c))) ε1
      | _ => False), R, ?_, ex, fun d ε1 H1 F1 x s1 f1 R1 d1 q1 => ?_⟩
    · have e1 : (kB fun b ε1 => Qp (.d (.bool (!b))) ε1) = (kD fun d ε1 => match d with
        | .bool c => Qp (.d (.bool (!c))) ε1
        | _ => False) := by
        funext v ε1
        cases v with
        | d y => cases y <;> rfl
        | _ => rfl
      rw [← e1]; exact w
    · cases d with
      | bool c => exact ⟨c, dpBl d1, kk (.d (.bool (!c))) ε1 H1 F1 _ s1 f1 R1 (Dp.bl _) q1⟩
      | _ => exact q1.elim
  · exact ⟨ε, F, Xp, _, R, w, ex, fun d ε1 H1 F1 s1 f1 R1 q1 => kk (!d) ε1 H1 F1 s1 f1 R1 q1⟩
/-- a truth as a value -/
theorem kB_kD (f : Bool → Ev → Prop) : kB f = kD fun d ε1 => match d with
    | .bool c => f c ε1
    | _ => False := by
  funext v ε1
  cases v with
  | d y => cases y <;> rfl
  | _ => rfl
theorem peB {T : Ev → XP → KE → Prop} {e : Expr} (h : PE X e (rdE X.K b T)) : PE X e (fun σ H Q => rdT X.K b T σ H fun c H1 => Q (.bl c) H1) :=
  peImp (peD h) fun σ H Q ⟨ε, F, Xp, Qp, R, w, ex, kk⟩ => by
    rw [kB_kD] at w
    refine ⟨ε, F, Xp, _, R, w, ex, fun d ε1 H1 F1 x s1 f1 R1 d1 q1 => ?_⟩
    cases d with
    | bool c => rw [dpBl d1]; exact kk c ε1 H1 F1 s1 f1 R1 q1
    | _ => exact q1.elim
theorem eAnd {i j : IE} {x y : Expr} {rest : List Expr} {p : Pos} (h1 : PE X x (rdE X.K b (wE Φ i))) (t1 : PT X x (rdT X.K b (wE Φ i)))
    (h2 : PE X (.BoolOp .And (y :: rest) p) (rdE X.K b (wE Φ j))) (w2 : PW X (.BoolOp .And (y :: rest) p) (rdT X.K b (wE Φ j))) :
    PE X (.BoolOp .And (x :: y :: rest) p) (rdE X.K b (wE Φ (.band i j))) ∧ PW X (.BoolOp .And (x :: y :: rest) p) (rdT X.K b (wE Φ (.band i j))) := by
  refine ⟨peImp (pe_and (peB h1) h2) fun σ H Q ⟨ε, F, Xp, Qp, R, w, ex, kk⟩ => ?_, pwImp (pw_and t1 w2) fun σ H Q ⟨ε, F, Xp, Qp, R, w, ex, kk⟩ => ?_⟩
  · refine ⟨ε, F, Xp, _, R, w, ex, fun d ε1 H1 F1 s1 f1 R1 q1 => ⟨d, rfl, ?_⟩⟩
    cases d with
    | true => exact ⟨ε1, F1, Xp, Qp, R1, q1, ex.mono s1, fun v ε2 H2 F2 z s2 f2 R2 a q => kk v ε2 H2 F2 z (s1.trans s2) (f1.trans f2) R2 a q⟩
    | false => exact kk (.d (.bool false)) ε1 H1 F1 _ s1 f1 R1 (Dp.bl _) q1
  · refine ⟨ε, F, Xp, _, R, w, ex, fun d ε1 H1 F1 s1 f1 R1 q1 => ?_⟩
    cases d with
    | true => exact ⟨ε1, F1, Xp, Qp, R1, q1, ex.mono s1, fun v ε2 H2 F2 s2 f2 R2 q => kk v ε2 H2 F2 (s1.trans s2) (f1.trans f2) R2 q⟩
    | false => exact kk false ε1 H1 F1 s1 f1 R1 q1
theorem eOr {i j : IE} {x y : Expr} {rest : List Expr} {p : Pos} (h1 : PE X x (rdE X.K b (wE Φ i))) (t1 : PT X x (rdT X.K b (wE Φ i)))
    (h2 : PE X (.BoolOp .Or (y :: rest) p) (rdE X.K b (wE Φ j))) (w2 : PW X (.BoolOp .Or (y :: rest) p) (rdT X.K b (wE Φ j))) :
    PE X (.BoolOp .Or (x :: y :: rest) p) (rdE X.K b (wE Φ (.bor i j))) ∧ PW X (.BoolOp .Or (x :: y :: rest) p) (rdT X.K b (wE Φ (.bor i j))) := by
  refine ⟨peImp (pe_or (peB h1) h2) fun σ H Q ⟨ε, F, Xp, Qp, R, w, ex, kk⟩ => ?_, pwImp (pw_or t1 w2) fun σ H Q ⟨ε, F, Xp, Qp, R, w, ex, kk⟩ => ?_⟩
  · refine ⟨ε, F, Xp, _, R, w, ex, fun d ε1 H1 F1 s1 f1 R1 q1 => ⟨d, rfl, ?_⟩⟩
    cases d with
    | false => exact ⟨ε1, F1, Xp, Qp, R1, q1, ex.mono s1, fun v ε2 H2 F2 z s2 f2 R2 a q => kk v ε2 H2 F2 z (s1.trans s2) (f1.trans f2) R2 a q⟩
    | true => exact kk (.d (.bool true)) ε1 H1 F1 _ s1 f1 R1 (Dp.bl _) q1
  · refine ⟨ε, F, Xp, _, R, w, ex, fun d ε1 H1 F1 s1 f1 R1 q1 => ?_⟩
    cases d with
    | false => exact ⟨ε1, F1, Xp, Qp, R1, q1, ex.mono s1, fun v ε2 H2 F2 s2 f2 R2 q => kk v ε2 H2 F2 (s1.trans s2) (f1.trans f2) R2 q⟩
    | true => exact kk true ε1 H1 F1 s1 f1 R1 q1
theorem eOne {i : IE} {op : BoolOp} {x : Expr} {p : Pos} (h1 : PE X x (rdE X.K b (wE Φ i))) (t1 : PT X x (rdT X.K b (wE Φ i))) :
    PE X (.BoolOp op [x] p) (rdE X.K b (wE Φ (.bone i))) ∧ PW X (.BoolOp op [x] p) (rdT X.K b (wE Φ (.bone i))) := by
  refine ⟨peImp (pe_one (peD h1)) fun σ H Q ⟨ε, F, Xp, Qp, R, w, ex, kk⟩ => ⟨ε, F, Xp, _, R, w, ex, fun d ε1 H1 F1 z s1 f1 R1 d1 q1 => kk (.d d) ε1 H1 F1 z s1 f1 R1 d1 q1⟩, ?_⟩
  have tt : ∀ σ H Q, rdT X.K b (wE Φ (.bone i)) σ H Q → rdT X.K b (wE Φ i) σ H Q := fun σ H Q ⟨ε, F, Xp, Qp, R, w, ex, kk⟩ => by
    refine ⟨ε, F, Xp, Qp, R, ?_, ex, kk⟩
    have e1 : (kD fun x ε1 => kB Qp (.d x) ε1) = kB Qp := by
      funext v ε1
      cases v <;> rfl
    have w' : wE Φ i ε Xp (kD fun x ε1 => kB Qp (.d x) ε1) := w
    rw [e1] at w'
    exact w'
  cases op with
  | And => exact pwImp (pw_and1 t1) tt
  | Or => exact pwImp (pw_or1 t1) tt
theorem eIte {c i j : IE} {t x y : Expr} {p : Pos} (h0 : PT X t (rdT X.K b (wE Φ c))) (h1 : PE X x (rdE X.K b (wE Φ i))) (h2 : PE X y (rdE X.K b (wE Φ j))) :
    PE X (.IfExp t x y p) (rdE X.K b (wE Φ (.ite c i j))) :=
  peImp (pe_ifExp h0 h1 h2) fun σ H Q ⟨ε, F, Xp, Qp, R, w, ex, kk⟩ => by
    refine ⟨ε, F, Xp, _, R, w, ex, fun d ε1 H1 F1 s1 f1 R1 q1 => ?_⟩
    cases d with
    | false => exact ⟨ε1, F1, Xp, Qp, R1, q1, ex.mono s1, fun v ε2 H2 F2 z s2 f2 R2 a q => kk v ε2 H2 F2 z (s1.trans s2) (f1.trans f2) R2 a q⟩
    | true => exact ⟨ε1, F1, Xp, Qp, R1, q1, ex.mono s1, fun v ε2 H2 F2 z s2 f2 R2 a q => kk v ε2 H2 F2 z (s1.trans s2) (f1.trans f2) R2 a q⟩
theorem atI_da {K : PySem.W.Frag} {F : Hp} {vs : List V} {ds : List D} {i : Int} {d : D} (h : DpAll K F vs ds) (e : atI ds i = some d) : ∃ v, atI vs i = some v ∧ Dp K F v d := by
  unfold atI at e ⊢
  rw [daLen h]
  cases q : ixN ds.length i with
  | none => rw [q] at e; cases e
  | some j =>
    rw [q] at e
    exact daGet' h e
theorem eIx {i j : IE} {x y : Expr} {p : Pos} (hy : plainE y = true) (h1 : PE X x (rdP X.K b (fun ε Xp q => pkW i ε (fun T => wE Φ i ε Xp T) q))) (h2 : PE X y (rdE X.K b (wE Φ j))) :
    PE X (.Subscript x y p) (rdE X.K b (wE Φ (.ix i j))) :=
  peImp (pe_ix (ix_list.or ix_tup) h1 (peD h2) (plainIx hy)) fun σ H Q ⟨ε, F, Xp, Qp, R, w, ex, kk⟩ => by
    refine ⟨ε, F, Xp, _, R, w, ex, fun d ε1 H1 F1 x s1 f1 R1 d1 q1 => ⟨ε1, F1, Xp, _, R1, q1, ex.mono s1, fun e ε2 H2 F2 y s2 f2 R2 d2 q2 => ?_⟩⟩
    have d3 := PAt.mono f2 s2 d1
    have fin : ∀ {z : V} {v : D}, Dp X.K F2 z v → Qp (.d v) ε2 → Q z H2 := fun {z v} a q => kk (.d v) ε2 H2 F2 z (s1.trans s2) (f1.trans f2) R2 a q
    cases d with
    | list xs =>
      cases e with
      | int n =>
        obtain ⟨v, e1, q3⟩ := q2
        rcases d3 with d3 | ⟨r, vs, ys, rfl, e2, h3, h4⟩
        · obtain ⟨a, vs, rfl, r1, a1⟩ := dpLst d3
          obtain ⟨z, g1, g2⟩ := atI_da a1 e1
          exact .inl ⟨a, vs, n, z, rfl, dpInt d2, sqlSub R2.fh r1, g1, fin g2 q3⟩
        · cases e2
          obtain ⟨z, g1, g2⟩ := atI_da h4 e1
          exact .inl ⟨r, vs, n, z, rfl, dpInt d2, .inl (.inl h3), g1, fin g2 q3⟩
      | _ => exact q2.elim
    | tuple xs =>
      cases e with
      | int n =>
        obtain ⟨v, e1, q3⟩ := q2
        rcases d3 with d3 | ⟨r, vs, ys, rfl, e2, h3, h4⟩
        · obtain ⟨a, vs, rfl, r1, a1⟩ := dpTup d3
          obtain ⟨z, g1, g2⟩ := atI_da a1 e1
          exact .inr ⟨a, vs, n, z, rfl, dpInt d2, (sqtSub R2.fh r1), g1, fin g2 q3⟩
        · cases e2
      | _ => exact q2.elim
    | _ => exact q2.elim
def rdO (K : PySem.W.Frag) (b : Bd) (T : Ev → XP → (Option Int → Ev → Prop) → Prop) : TO := fun σ H Q => ∃ ε F Xp Qp, Rep K b.H0 b.F0 F H σ ε ∧ T ε Xp Qp ∧ Ex K b Xp σ H ∧
  ∀ d ε' H' F', Same H H' → Sub F F' → Rep K b.H0 b.F0 F' H' σ ε' → Qp d ε' → Q d H'
theorem poOf {i : IE} {l : Option Expr} (h0 : l = none → isNil i = true) (h1 : ∀ e, l = some e → isNil i = false ∧ PE X e (rdE X.K b (wE Φ i))) :
    PO X l (rdO X.K b (fun ε Xp q => ptW i ε (fun T => wE Φ i ε Xp T) q)) := by
  cases l with
  | none =>
    have e0 := h0 rfl
    refine ⟨fun pins s σ H Q I hw => po_none.run pins s σ H Q I ?_⟩
    obtain ⟨ε, F, Xp, Qp, R, w, ex, kk⟩ := hw
    unfold ptW at w
    rw [if_pos e0] at w
    exact kk none ε H F (.refl H) (.refl F) R w
  | some e =>
    obtain ⟨e0, he⟩ := h1 e rfl
    refine ⟨fun pins s σ H Q I hw => (po_some (peD he)).run pins s σ H Q I ?_⟩
    obtain ⟨ε, F, Xp, Qp, R, w, ex, kk⟩ := hw
    unfold ptW at w
    rw [if_neg (by rw [e0]; exact Bool.false_ne_true)] at w
    refine ⟨ε, F, Xp, _, R, w, ex, fun d ε1 H1 F1 x s1 f1 R1 d1 q1 => ?_⟩
    cases d with
    | int n => exact ⟨n, dpInt d1, kk (some n) ε1 H1 F1 s1 f1 R1 q1⟩
    | _ => exact q1.elim
theorem cut_all {α : Type} {xs : List α} {lo hi : Option Int} (h : HT.sIx xs.length 0 lo = 0 ∧ HT.sIx xs.length xs.length hi = xs.length) : cut xs lo hi = xs := by
  unfold cut
  rw [h.1, h.2]
  simp
theorem eSl {i j l : IE} {x : Expr} {lo hi : Option Expr} {p p2 : Pos} (h1 : PE X x (rdP X.K b (fun ε Xp q => pkW i ε (fun T => wE Φ i ε Xp T) q)))
    (h2 : PO X lo (rdO X.K b (fun ε Xp q => ptW j ε (fun T => wE Φ j ε Xp T) q))) (h3 : PO X hi (rdO X.K b (fun ε Xp q => ptW l ε (fun T => wE Φ l ε Xp T) q))) :
    PE X (.Subscript x (.Slice lo hi none p2) p) (rdE X.K b (wE Φ (.sl i j l))) :=
  peImp (pe_slice (sl_list.or sl_tupA) h1 h2 h3) fun σ H Q ⟨ε, F, Xp, Qp, R, w, ex, kk⟩ => by
    refine ⟨ε, F, Xp, _, R, w, ex, fun d ε1 H1 F1 x s1 f1 R1 d1 q1 => ⟨ε1, F1, Xp, _, R1, q1, ex.mono s1, fun e ε2 H2 F2 s2 f2 R2 q2 => ⟨ε2, F2, Xp, _, R2, q2, (ex.mono s1).mono s2, fun g ε3 H3 F3 s3 f3 R3 q3 => ?_⟩⟩⟩
    have sA := (s1.trans s2).trans s3
    have fA := (f1.trans f2).trans f3
    have d3 := PAt.mono f3 s3 (PAt.mono f2 s2 d1)
    cases d with
    | list xs =>
      have go : ∀ {a : Addr} {vs : List V}, SqL X.K H3 a vs → DpAll X.K F3 vs xs → rSlL X.K (.ref a) e g H3 Q := fun {a vs} r1 a1 =>
        ⟨a, vs, rfl, r1, fun p hp => kk (.own (cut xs e g)) ε3 _ F3 _ (sA.trans (same_upd hp)) fA (R3.lst _ hp) (.newL R3 hp (by rw [cutV_eq]; exact daCut a1 e g)) q3⟩
      rcases d3 with d3 | ⟨r, vs, ys, rfl, e2, h3, h4⟩
      · obtain ⟨a, vs, rfl, r1, a1⟩ := dpLst d3
        exact .inl (go (sqlSub R3.fh r1) a1)
      · cases e2
        exact .inl (go (.inl (.inl h3)) h4)
    | tuple xs =>
      rcases d3 with d3 | ⟨r, vs, ys, rfl, e2, h3, h4⟩
      · obtain ⟨a, vs, rfl, r1, a1⟩ := dpTup d3
        refine .inr ⟨a, vs, rfl, (sqtSub R3.fh r1), fun hw => ?_, fun hw p hp => ?_⟩
        · rw [daLen a1] at hw
          have q4 : Qp (.d (.tuple (cut xs e g))) ε3 := q3
          rw [cut_all hw] at q4
          exact kk (.d (.tuple xs)) ε3 H3 F3 _ sA fA R3 d3 q4
        · exact kk (.d (.tuple (cut xs e g))) ε3 _ (upd F3 p _) _ (sA.trans (same_upd hp)) (fA.trans (sub_updF (R3.fh.none hp))) (R3.tup _ hp) (Dp.tup (.inl (.inl upd_same)) (daSub (sub_updF (R3.fh.none hp)) (by rw [cutV_eq]; exact daCut a1 e g))) q3
      · cases e2
    | _ => exact q3.elim
end
end Rc

/-! What the terms mean holds of the text: calls. -/
namespace Rc
open PySem PySem.Spec PyProof.Rows L2
section
variable {prog : Program} {w : World} {A : Around} {E : Value → Shared → Prop} {s : Shared}
theorem revPlaces (n : Nat) : Builtin.Slice.slicePlaces ((n : Int) - 1) (-1) (-1) = n := by
  unfold Builtin.Slice.slicePlaces
  have h1 : ¬ ((-1 : Int) > 0) := by omega
  simp only [h1, if_false, Int.neg_neg, Int.ediv_one]
  split <;> omega
theorem revAdjust (n : Nat) : Builtin.Slice.sliceAdjust none none (-1) (n : Int) = ((n : Int) - 1, -1) := by
  unfold Builtin.Slice.sliceAdjust
  simp
theorem sliceRev {sl : Addr} {vl vu vs : Value} {n : Nat} {Q : Int × Int × Nat → Shared → Prop} (hs : s.heap.IsSliceOf sl vl vu vs) (pl : IsPart vl none) (pu : IsPart vu none) (ps : IsPart vs (some (-1)))
    (h : Q ((n : Int) - 1, -1, n) s) : wpAny (model prog w) A (Builtin.Slice.sliceApplied (.ref sl) (pure (n : Int))) Q E s := by
  obtain ⟨os, hos, hcs, hds⟩ := id hs
  unfold Builtin.Slice.sliceApplied Builtin.Slice.sliceFields
  refine wpAny_bind (wpAny_bind (wpAny_field hos hds (x := vl) rfl (wpAny_bind (wpAny_field hos hds (x := vu) rfl (wpAny_bind (wpAny_field hos hds (x := vs) rfl (wpAny_pure ?_)))))))
  refine wpAny_bind (HT.slicePart_ ps ?_)
  show wpAny _ _ (if ((-1 : Int) == 0) = true then _ else _) _ _ s
  rw [if_neg (show ¬ (((-1 : Int) == 0) = true) by decide)]
  refine wpAny_bind (HT.slicePart_ pl (wpAny_bind (HT.slicePart_ pu (wpAny_bind (wpAny_pure ?_)))))
  show wpAny _ _ (match Builtin.Slice.sliceAdjust none none (-1) (n : Int) with | (a, b) => pure (a, (-1 : Int), Builtin.Slice.slicePlaces a b (-1))) _ _ s
  rw [revAdjust]
  show wpAny _ _ (pure ((n : Int) - 1, (-1 : Int), Builtin.Slice.slicePlaces ((n : Int) - 1) (-1) (-1))) _ _ s
  rw [revPlaces]
  exact wpAny_pure h
theorem revRange (n : Nat) : (List.range n).reverse = (List.range n).map (n - 1 - ·) := by
  apply List.ext_getElem
  · simp
  · intro i h1 h2
    simp
theorem fmCongr {α β : Type} {f g : α → Option β} : ∀ l : List α, (∀ m ∈ l, f m = g m) → l.filterMap f = l.filterMap g
  | [], _ => rfl
  | x :: r, h => by
    rw [List.filterMap_cons, List.filterMap_cons, h x (List.mem_cons_self ..), fmCongr r fun m hm => h m (List.mem_cons_of_mem _ hm)]
theorem revPick (xs : Array Value) : ((List.range xs.size).filterMap fun (m : Nat) => xs[((xs.size : Int) - 1 + (m : Int) * (-1)).toNat]?).toArray = xs.toList.reverse.toArray := by
  congr 1
  have e1 : (List.range xs.size).filterMap (fun (m : Nat) => xs[((xs.size : Int) - 1 + (m : Int) * (-1)).toNat]?) = (List.range xs.size).filterMap ((xs[·]?) ∘ (xs.size - 1 - ·)) := by
    refine fmCongr _ fun m hm => ?_
    have := List.mem_range.mp hm
    show xs[_]? = xs[xs.size - 1 - m]?
    rw [show ((xs.size : Int) - 1 + (m : Int) * (-1)).toNat = xs.size - 1 - m by omega]
  rw [e1, ← List.filterMap_map, ← revRange, List.filterMap_reverse]
  rw [PySem.W.krv_all]
theorem getItem_tupRev {t sl : Addr} {items : Array Value} {vl vu vs : Value} {Q : Value → Shared → Prop} (ht : IsTup s.heap t items) (hs : s.heap.IsSliceOf sl vl vu vs) (pl : IsPart vl none) (pu : IsPart vu none) (ps : IsPart vs (some (-1)))
    (h : Q (.ref s.heap.objs.size) { s with heap := s.heap.push { cls := .type "tuple", data := .seq items.toList.reverse.toArray } }) (hsz : items.size ≤ sizeLine) : wpAny (model prog w) A (getItem (.ref t) (.ref sl)) Q E s := by
  have hk : sizeOk (.seq items.toList.reverse.toArray) := by
    show items.toList.reverse.toArray.size ≤ sizeLine
    rw [List.size_toArray, List.length_reverse, Array.length_toList]
    exact hsz
  obtain ⟨os, hos, hcs, hds⟩ := id hs
  have hT : s.TypeIs (.ref sl) "slice" := ⟨os, hos, hcs⟩
  unfold getItem
  try with_reducible refine wpAny_holding ?_
  first | refine wpAny_bind (wpAny_pure ?_) | skip
  refine wpAny_bind (wpAny_sequenceKey ht.typeIs (by decide) ?_)
  refine wpAny_bind (wpAny_callSpecial?_slot (name := Str.ofString "__getitem__") ht.typeIs PyProof.Rows.slot_tuple_getitem (wpAny_call_entry PyProof.Rows.slot_tuple_getitem ht.typeIs entry_tuple_getitem ?_ (args_tuple_getitem _ _)))
  show wpAny _ _ (Builtin.Tuple.tupleItemsOf (.ref t) >>= _) _ _ s
  refine wpAny_bind (tupleItemsOf_ ht ?_)
  refine wpAny_bind (wpAny_typeOf hT ?_)
  rw [if_pos (by decide)]
  refine wpAny_bind (sliceRev hs pl pu ps ?_)
  have no : ¬ ((((items.size : Int) - 1) == 0 && (-1 : Int) == 1 && items.size == items.size) = true) := by
    intro q
    rw [Bool.and_eq_true, Bool.and_eq_true] at q
    exact absurd q.1.2 (by decide)
  show wpAny _ _ (if (((items.size : Int) - 1) == 0 && (-1 : Int) == 1 && items.size == items.size) = true then _ else _) _ _ s
  rw [if_neg no, revPick]
  first
    | exact wpAny_bind (m := Builtin.Tuple.tupleExact _) (wpAny_newObj_type (wpAny_pure ⟨_, rfl, wpAny_pure h⟩) hk)
    | exact wpAny_bind (m := Builtin.Tuple.tupleExact _) (wpAny_newObj_type (wpAny_bind (wpAny_pure (wpAny_pure ⟨_, rfl, wpAny_pure h⟩))) hk)
    | exact wpAny_bind (wpAny_bind (m := Builtin.Tuple.tupleExact _) (wpAny_newObj_type (wpAny_pure (wpAny_pure ⟨_, rfl, wpAny_pure h⟩)) hk))
    | exact wpAny_bind (wpAny_bind (m := Builtin.Tuple.tupleExact _) (wpAny_newObj_type (wpAny_pure ⟨_, rfl, wpAny_pure h⟩) hk))
end
section
variable {X : Cx}
/-- x[::-1], x a list or a tuple: a new one -/
def tRevA (K : PySem.W.Frag) (te : TE) : TE := fun σ H Q => te σ H fun x H1 => ∃ a xs, x = .ref a ∧ ((SqL K H1 a xs ∧ ∀ p, H1 p = none → Q (.ref p) (upd H1 p (.lst xs.reverse))) ∨ (SqT K H1 a xs ∧ ∀ p, H1 p = none → Q (.ref p) (upd H1 p (.tup xs.reverse))))
theorem pe_revA {e : Expr} {te : TE} {k : Nat} {p1 p2 p3 pos : Pos} (he : PE X e te) : PE X (.Subscript e (.Slice none none (some (.UnaryOp .USub (.Constant (.int 1) k p1) p2)) p3) pos) (tRevA X.K te) := by
  refine ⟨fun pins s σ H Q I h => ?_⟩
  refine Subscript_ (thn (he.run pins s σ H _ I h) fun v s1 ⟨x, H1, I1, r1, q1⟩ => ?_)
  obtain ⟨a, xs, ex, q⟩ := q1
  subst ex
  cases r1
  have minus : PO X (some (.UnaryOp .USub (.Constant (.int 1) k p1) p2)) (tPart (tUn (rU fun i => .int (-i)) (tC (.int 1)))) := po_some (pe_un un_neg pe_int)
  refine wpAny_Slice (thn (po_none.run pins s1 σ H1 (fun o H2 => o = none ∧ H2 = H1) I1 ⟨rfl, rfl⟩) fun vl s2 ⟨l, H2, I2, pl, el, e2⟩ => ?_)
  subst el
  subst e2
  refine thn (po_none.run pins s2 σ H2 (fun o H3 => o = none ∧ H3 = H2) I2 ⟨rfl, rfl⟩) fun vu s3 ⟨u, H3, I3, pu, eu, e3⟩ => ?_
  subst eu
  subst e3
  refine thn (minus.run pins s3 σ H3 (fun o H4 => o = some (-1) ∧ H4 = H3) I3 ⟨1, rfl, -1, rfl, rfl, rfl⟩) fun vs s4 ⟨o, H4, I4, ps, eo, e4⟩ => ?_
  subst eo
  subst e4
  have I5 : Inv X pins σ H4 { s4 with heap := s4.heap.push { cls := .type "slice", data := .fields #[vl, vu, vs] } } := I4.kept (t' := s4.toks) fun b ob q => Heap.get?_push_of_some _ q
  rcases q with ⟨hx, q⟩ | ⟨hx, q⟩
  · obtain ⟨its, r, ht, hz⟩ := I5.list hx
    have hl := r.length
    show wpAny (model X.prog X.w) X.A (subscriptTail e (.Slice none none (some (.UnaryOp .USub (.Constant (.int 1) k p1) p2)) p3) (.ref a) (.ref s4.heap.objs.size)) (EP X pins σ Q) X.xe _
    refine tail_any (ops := [.ref a, .ref s4.heap.objs.size]) ht.isList.typeIs (PySem.slot_list_getitem.lookup) ?_ (by with_unfolding_all rfl)
    refine wpAny_getItem_list_slice ht.isList (Heap.IsSliceOf.new _ vl vu vs) pl pu ps (by decide) ?_ (by rw [List.size_toArray]; omega)
    rw [PySem.W.krv_pick]
    refine ⟨.ref _, _, I5.laid (t' := s4.toks) (o := .lst xs.reverse) (fun b ob q => Heap.get?_push_of_some _ q) (Nat.le_refl _) ?_, rfl, q _ (I5.hok.fresh (Nat.le_refl _))⟩
    exact ⟨by rw [List.length_reverse]; exact hz, _, 0, r.reverse, Heap.get?_push_size _ rfl⟩
  · obtain ⟨its, r, ht, hz⟩ := I5.tuple hx
    have hl := r.length
    show wpAny (model X.prog X.w) X.A (subscriptTail e (.Slice none none (some (.UnaryOp .USub (.Constant (.int 1) k p1) p2)) p3) (.ref a) (.ref s4.heap.objs.size)) (EP X pins σ Q) X.xe _
    refine tail_any (ops := [.ref a, .ref s4.heap.objs.size]) ht.typeIs PyProof.Rows.slot_tuple_getitem.lookup ?_ (by with_unfolding_all rfl)
    refine getItem_tupRev ht (Heap.IsSliceOf.new _ vl vu vs) pl pu ps ?_ (by rw [List.size_toArray]; omega)
    refine ⟨.ref _, _, I5.laid (t' := s4.toks) (o := .tup xs.reverse) (fun b ob q => Heap.get?_push_of_some _ q) (Nat.le_refl _) ?_, rfl, q _ (I5.hok.fresh (Nat.le_refl _))⟩
    exact ⟨by rw [List.length_reverse]; exact hz, _, r.reverse, IsTup.new _ _⟩
end
section
variable {fns : List FnI} {cls : List Str} {N : List Str} {C : Nat → Addr} {Φ : Fs} {k : Nat} {X : Cx} {b : Bd} {sc : Scope}
theorem eRev {i : IE} {x : Expr} {n : Nat} {p p1 p2 p3 : Pos} (h1 : PE X x (rdP X.K b (fun ε Xp q => pkW i ε (fun T => wE Φ i ε Xp T) q))) :
    PE X (.Subscript x (.Slice none none (some (.UnaryOp .USub (.Constant (.int 1) n p1) p2)) p3) p) (rdE X.K b (wE Φ (.rev i))) :=
  peImp (pe_revA h1) fun σ H Q ⟨ε, F, Xp, Qp, R, w, ex, kk⟩ => by
    refine ⟨ε, F, Xp, _, R, w, ex, fun d ε1 H1 F1 x s1 f1 R1 d1 q1 => ?_⟩
    cases d with
    | list xs =>
      have go : ∀ {a : Addr} {vs : List V}, SqL X.K H1 a vs → DpAll X.K F1 vs xs → ∃ a' vs', V.ref a = .ref a' ∧ ((SqL X.K H1 a' vs' ∧ ∀ p, H1 p = none → Q (.ref p) (upd H1 p (.lst vs'.reverse))) ∨ (SqT X.K H1 a' vs' ∧ ∀ p, H1 p = none → Q (.ref p) (upd H1 p (.tup vs'.reverse)))) := fun {a vs} r1 a1 =>
        ⟨a, vs, rfl, .inl ⟨r1, fun p hp => kk (.own xs.reverse) ε1 _ F1 _ (s1.trans (same_upd hp)) f1 (R1.lst _ hp) (.newL R1 hp (daRev a1)) q1⟩⟩
      rcases d1 with d3 | ⟨r, vs, ys, rfl, e2, h3, h4⟩
      · obtain ⟨a, vs, rfl, r1, a1⟩ := dpLst d3
        exact go (sqlSub R1.fh r1) a1
      · cases e2
        exact go (.inl (.inl h3)) h4
    | tuple xs =>
      rcases d1 with d3 | ⟨r, vs, ys, rfl, e2, h3, h4⟩
      · obtain ⟨a, vs, rfl, r1, a1⟩ := dpTup d3
        exact ⟨a, vs, rfl, .inr ⟨(sqtSub R1.fh r1), fun p hp => kk (.d (.tuple xs.reverse)) ε1 _ (upd F1 p _) _ (s1.trans (same_upd hp)) (f1.trans (sub_updF (R1.fh.none hp))) (R1.tup _ hp) (Dp.tup (.inl (.inl upd_same)) (daSub (sub_updF (R1.fh.none hp)) (daRev a1))) q1⟩⟩
      · cases e2
    | _ => exact q1.elim
theorem fnB_of {f : Nat} {x : Str} (h : fnB fns f x = true) : ∃ fi, fns[f]? = some fi ∧ fi.con = none ∧ fi.name = x := by
  unfold fnB at h
  split at h
  · rename_i fi q
    rw [Bool.and_eq_true] at h
    exact ⟨fi, q, by cases e : fi.con with
      | none => rfl
      | some _ => rw [e] at h; exact absurd h.2 Bool.false_ne_true, of_decide_eq_true h.1⟩
  · cases h
/-- a call without arguments, what is raised wished for at the slots -/
theorem callS0 {CX : CXT} {n : Nat} {f : Addr} {fd : FuncData} {ps : List Str} {sp : Sp} {E : St → XK} {x : Str} {p pos : Pos} (F : FnOk X.prog X.w X.K X.mg X.base CX n f fd ps sp) (hr : Room n X.A) (hg : Gl X x) (hm : X.mg x = some (.ref f)) (hk : PySem.W.keepIn X.K (.ref f) = true)
    (hb : Binds X.K fd ps []) (hx : ∀ σ, PassesAt CX X σ (E σ)) (hdb : (x == ("__debug__" : Str)) = false) : PE X (.Call (.Name x p) [] [] pos) (tCallS sp E tNil) := by
  refine ⟨fun pins s σ H Q I h => ?_⟩
  refine wpAny_Call_Name_kw (ld_glob I hg hm ?_ hdb)
  exact PySem.W.callWith_K0 I.kIn hk (run_fnS (us := []) F hr hb (hx σ) I .nil h)
theorem noStars {env : Env} {pos : Pos} : ∀ {es : List Expr}, es.all plainE = true → (backTo pos (starEach es env)).any (·.1) = false
  | [], _ => rfl
  | e :: es, h => by
    rw [List.all_cons, Bool.and_eq_true] at h
    rw [starOf h.1]
    show (false || (backTo pos (starEach es env)).any (·.1)) = false
    rw [noStars h.2]
    rfl
theorem chkPlain {a : IE} (hl : isL a = true) : ∀ {es : List Expr}, chk fns N a sc (dm :: dm :: es) = true → es.all plainE = true := by
  induction a with
  | nil =>
    intro es h
    cases es with
    | nil => rfl
    | cons _ _ => exact absurd h Bool.false_ne_true
  | cons a r _ ih =>
    intro es h
    cases es with
    | nil => exact absurd h Bool.false_ne_true
    | cons e es =>
      have h' : (plainE e && chk fns N a sc [e] && isL r && chk fns N r sc (dm :: dm :: es)) = true := h
      simp only [Bool.and_eq_true] at h'
      rw [List.all_cons, h'.1.1.1, ih h'.1.2 h'.2]
      rfl
  | _ => exact absurd hl Bool.false_ne_true
theorem chkPlainP {a : IE} (hl : isLP a = true) : ∀ {es : List Expr}, chk fns N a sc (dm :: dm :: es) = true → es.all plainE = true := by
  induction a with
  | nil =>
    intro es h
    cases es with
    | nil => rfl
    | cons _ _ => exact absurd h Bool.false_ne_true
  | consP a r _ ih =>
    intro es h
    cases es with
    | nil => exact absurd h Bool.false_ne_true
    | cons e es =>
      have h' : (plainE e && chk fns N a sc [e] && isLP r && chk fns N r sc (dm :: dm :: es)) = true := h
      simp only [Bool.and_eq_true] at h'
      rw [List.all_cons, h'.1.1.1, ih h'.1.2 h'.2]
      rfl
  | _ => exact absurd hl Bool.false_ne_true
theorem specGo (ok : Cok fns cls N C Φ k X sc b.W) (hC : b.C = C) {f : Nat} {fi : FnI} (e : fns[f]? = some fi) {ε : Ev} {F H : Hp} {σ : St} {Xp : XP} {Qp : KE} {Q : VK} {vs : List V} {ds : List D}
    (R : Rep X.K b.H0 b.F0 F H σ ε) (ex : Ex X.K b Xp σ H) (kk : ∀ v ε' H' F' x, Same H H' → Sub F F' → Rep X.K b.H0 b.F0 F' H' σ ε' → VAt X.K b.H0 F' H' σ ε' x v → Qp v ε' → Q x H')
    (d : DpAll X.K F vs ds) (w : Φ f ds (fun c => Xp c ε) fun v => Qp v ε) : spec X.K C fi.np (Φ f) vs H Q (WE b.W σ) := by
  refine ⟨F, ds, _, _, R.fh, d, ok.ar f fi ds _ _ e w, w, fun c H' s q => ?_, fun v H' F' x s f g n vr q => kk v ε H' F' x s f (R.grow s f g n) (vrVat R vr) q⟩
  rw [← hC]
  exact ex c ε H' F s (R.grow s (.refl F) (R.fh.trans s) .refl) q
theorem specGoP (ok : Cok fns cls N C Φ k X sc b.W) (hC : b.C = C) {f : Nat} {fi : FnI} (e : fns[f]? = some fi) {ε : Ev} {F H : Hp} {σ : St} {Xp : XP} {Qp : KE} {Q : VK} {vs : List V} {ds : List D}
    (R : Rep X.K b.H0 b.F0 F H σ ε) (ex : Ex X.K b Xp σ H) (kk : ∀ v ε' H' F' x, Same H H' → Sub F F' → Rep X.K b.H0 b.F0 F' H' σ ε' → VAt X.K b.H0 F' H' σ ε' x v → Qp v ε' → Q x H')
    (d : DpAll X.K H vs ds) (w : Φ f ds (fun c => Xp c ε) fun v => flat v = true ∧ Qp v ε) : spec X.K C fi.np (Φ f) vs H Q (WE b.W σ) := by
  refine ⟨H, ds, _, _, .refl H, d, ok.ar f fi ds _ _ e w, w, fun c H' s q => ?_, fun v H' F' x s f g n vr q => ?_⟩
  · rw [← hC]
    exact ex c ε H' F s (R.grow s (.refl F) (R.fh.trans s) .refl) q
  · have R' := R.grow s (.refl F) (R.fh.trans s) .refl
    refine kk v ε H' F x s (.refl F) R' ?_ q.2
    have q1 := q.1
    cases v with
    | d y =>
      cases y with
      | none => rw [dpNon vr]; exact .non
      | bool c => rw [dpBl vr]; exact .bl c
      | int c => rw [dpInt vr]; exact .int c
      | str c => rw [dpStr vr]; exact .str c
      | _ => exact absurd q1 Bool.false_ne_true
    | _ => exact absurd q1 Bool.false_ne_true
theorem eCall (ok : Cok fns cls N C Φ k X sc b.W) (hC : b.C = C) {f : Nat} {a : IE} (s : Sn fns cls N C Φ k a) {x : Str} {es : List Expr} {p pos : Pos}
    (h : (fnB fns f x && glB sc x && !(x == ("__debug__" : Str)) && isL a && chk fns N a sc (dm :: dm :: es)) = true) : PE X (.Call (.Name x p) es [] pos) (rdE X.K b (wE Φ (.call f a))) := by
  simp only [Bool.and_eq_true, Bool.not_eq_true'] at h
  obtain ⟨⟨⟨⟨hf, hg⟩, hdb⟩, hl⟩, hc⟩ := h
  have hp := chkPlain hl hc
  obtain ⟨fi, e, ec, rfl⟩ := fnB_of hf
  obtain ⟨g, fd, hm, hk, hb, ho⟩ := ok.callee f fi e ec
  cases es with
  | nil =>
    cases a with
    | nil =>
      exact peImp (callS0 ho ok.room (glB_of ok hg) hm hk hb (fun σ => passAt ok.tk σ) hdb) fun σ H Q ⟨ε, F, Xp, Qp, R, w, ex, kk⟩ => specGo ok hC e R ex kk .nil w
    | cons _ _ => exact absurd hc Bool.false_ne_true
    | _ => exact absurd hl Bool.false_ne_true
  | cons e0 es =>
    rw [List.all_cons, Bool.and_eq_true] at hp
    exact peImp (pe_callS ho ok.room (glB_of ok hg) hm hk hb (fun σ => passAt ok.tk σ) (s.a b X sc hC ok hl _ hc) hdb (starOf hp.1) (noStars hp.2)) fun σ H Q ⟨ε, F, Xp, Qp, R, w, ex, kk⟩ =>
      ⟨ε, F, Xp, _, R, w, ex, fun ds ε1 H1 F1 xs s1 f1 R1 d1 q1 => specGo ok hC e R1 (ex.mono s1) (fun v ε' H' F' x s2 f2 R2 a q => kk v ε' H' F' x (s1.trans s2) (f1.trans f2) R2 a q) d1 q1⟩
theorem eCallP (ok : Cok fns cls N C Φ k X sc b.W) (hC : b.C = C) {f : Nat} {a : IE} (s : Sn fns cls N C Φ k a) {x : Str} {es : List Expr} {p pos : Pos}
    (h : (fnB fns f x && glB sc x && !(x == ("__debug__" : Str)) && isLP a && chk fns N a sc (dm :: dm :: es)) = true) : PE X (.Call (.Name x p) es [] pos) (rdE X.K b (wE Φ (.callP f a))) := by
  simp only [Bool.and_eq_true, Bool.not_eq_true'] at h
  obtain ⟨⟨⟨⟨hf, hg⟩, hdb⟩, hl⟩, hc⟩ := h
  have hp := chkPlainP hl hc
  obtain ⟨fi, e, ec, rfl⟩ := fnB_of hf
  obtain ⟨g, fd, hm, hk, hb, ho⟩ := ok.callee f fi e ec
  cases es with
  | nil =>
    cases a with
    | nil =>
      exact peImp (callS0 ho ok.room (glB_of ok hg) hm hk hb (fun σ => passAt ok.tk σ) hdb) fun σ H Q ⟨ε, F, Xp, Qp, R, w, ex, kk⟩ => specGoP ok hC e R ex kk .nil w
    | consP _ _ => exact absurd hc Bool.false_ne_true
    | _ => exact absurd hl Bool.false_ne_true
  | cons e0 es =>
    rw [List.all_cons, Bool.and_eq_true] at hp
    exact peImp (pe_callS ho ok.room (glB_of ok hg) hm hk hb (fun σ => passAt ok.tk σ) (s.ap b X sc hC ok hl _ hc) hdb (starOf hp.1) (noStars hp.2)) fun σ H Q ⟨ε, F, Xp, Qp, R, w, ex, kk⟩ =>
      ⟨ε, F, Xp, _, R, w, ex, fun ds ε1 H1 F1 xs s1 f1 R1 d1 q1 => specGoP ok hC e R1 (ex.mono s1) (fun v ε' H' F' x s2 f2 R2 a q => kk v ε' H' F' x (s1.trans s2) (f1.trans f2) R2 a q) d1 q1⟩

/-! ### what stands ready in the language -/
def rBi (K : PySem.W.Frag) (c : Bi) : List V → Hp → VK → Prop := fun xs H Q => ∃ F ds Qv, Sub F H ∧ DpAll K F xs ds ∧ biW c ds Qv ∧
  ∀ v z H' F', Same H H' → Sub F F' → Sub F' H' → New F F' H → VR K H F' H' z v → Qv v → Q z H'
def biVal : Bi → Value
  | .abs => .builtin "abs"
  | .int => .type "int"
  | .list => .type "list"
  | .tuple => .type "tuple"
  | .max => .builtin "max"
  | .min => .builtin "min"
  | .all => .builtin "all"
  | .any => .builtin "any"
  | .sum => .builtin "sum"
  | .str => .type "str"
theorem da1 {K : PySem.W.Frag} {F : Hp} {xs : List V} {d : D} (h : DpAll K F xs [d]) : ∃ v, xs = [v] ∧ Dp K F v d := by
  cases h with
  | cons a c => cases c; exact ⟨_, rfl, a⟩
theorem da2 {K : PySem.W.Frag} {F : Hp} {xs : List V} {d e : D} (h : DpAll K F xs [d, e]) : ∃ v u, xs = [v, u] ∧ Dp K F v d ∧ Dp K F u e := by
  cases h with
  | cons a c =>
    obtain ⟨u, rfl, q⟩ := da1 c
    exact ⟨_, u, rfl, a, q⟩
theorem cr_sumT (hc : X.calm = true) : CallR X (.builtin "sum") (fun vs H Q => ∃ (a : Addr) (ns : List Int), vs = [V.ref a] ∧ SqT X.K H a (ns.map V.int) ∧ Q (.int ns.sum) H) := by
  intro pins s σ H vs us Q I r h
  obtain ⟨a, ns, rfl, hs, q⟩ := h
  obtain ⟨its, rv, hl, _⟩ := I.tuple hs
  rw [Vals.ref1 r]
  have hi := rv.ints
  obtain ⟨xs, e⟩ := hi.allInts.items
  have hn : numsOf (intItems xs).toList = ns := by rw [← e]; exact hi.numsOf
  rw [nums_intItems] at hn
  rw [e] at hl
  refine PySem.W.ktm_sumG (I.ok.hd hc) hl fun h' tk t' hk => ?_
  rw [preSum_eq, List.take_of_length_le (by simp), hn]
  exact ⟨.int _, H, I.kept hk, ⟨_, rfl⟩, q⟩
theorem callBi (hc : X.calm = true) (c : Bi) : CallR X (biVal c) (rBi X.K c) := by
  intro pins s σ H xs us Q I r ⟨F, ds, Qv, sb, da, w, kk⟩
  have kA : ∀ (d : D) (z : V), Dp X.K F z d → Qv (.d d) → Q z H := fun d z a q => kk (.d d) z H F (.refl H) (.refl F) sb .refl a q
  have kL : ∀ (ys : List D) (vs : List V) (p : Addr), DpAll X.K F vs ys → H p = none → Qv (.own ys) → Q (.ref p) (upd H p (.lst vs)) := fun ys vs p a hp q =>
    kk (.own ys) _ _ F (same_upd hp) (.refl F) (sb.upd (sb.none hp)) .refl ⟨p, vs, rfl, upd_same, a, sb.none hp, hp⟩ q
  have kT : ∀ (ys : List D) (vs : List V) (p : Addr), DpAll X.K F vs ys → H p = none → Qv (.d (.tuple ys)) → Q (.ref p) (upd H p (.tup vs)) := fun ys vs p a hp q =>
    kk (.d (.tuple ys)) _ _ (upd F p _) (same_upd hp) (sub_updF (sb.none hp)) sb.upd2 (.add hp) (Dp.tup (.inl (.inl upd_same)) (daSub (sub_updF (sb.none hp)) a)) q
  have one : ∀ {P : Prop}, (∀ d, ds = [d] → P) → (∀ d e, ds = [d, e] → P) → P := fun {P} h1 h2 => by
    cases ds with
    | nil => cases c <;> exact w.elim
    | cons d r =>
      cases r with
      | nil => exact h1 d rfl
      | cons e r =>
        cases r with
        | nil => exact h2 d e rfl
        | cons _ _ => cases c <;> cases d <;> first | exact w.elim | (cases e <;> exact w.elim)
  refine one (fun d hd => ?_) (fun d e hd => ?_)
  · subst hd
    obtain ⟨v, rfl, a⟩ := da1 da
    cases c with
    | abs =>
      cases d with
      | int i => cases dpInt a; exact call_abs pins s σ H _ us Q I r ⟨i, rfl, kA _ _ (.int _) w⟩
      | _ => exact w.elim
    | int =>
      cases d with
      | int i => cases dpInt a; exact call_int1 pins s σ H _ us Q I r (.inl ⟨i, rfl, kA _ _ (.int _) w⟩)
      | bool i => cases dpBl a; exact call_int1 pins s σ H _ us Q I r (.inr ⟨i, rfl, kA _ _ (.int _) w⟩)
      | _ => exact w.elim
    | str =>
      cases d with
      | int i => cases dpInt a; exact call_str_int pins s σ H _ us Q I r ⟨i, rfl, w.1, kA _ _ (.str _) w.2⟩
      | _ => exact w.elim
    | list =>
      cases d with
      | list ys =>
        obtain ⟨l, vs, rfl, q, dv⟩ := dpLst a
        exact call_list_of pins s σ H _ us Q I r ⟨l, vs, rfl, .inl (sqlSub sb q), fun p hp => kL ys vs p dv hp w⟩
      | tuple ys =>
        obtain ⟨l, vs, rfl, q, dv⟩ := dpTup a
        exact call_list_of pins s σ H _ us Q I r ⟨l, vs, rfl, .inr ((sqtSub sb q)), fun p hp => kL ys vs p dv hp w⟩
      | _ => exact w.elim
    | tuple =>
      cases d with
      | list ys =>
        obtain ⟨l, vs, rfl, q, dv⟩ := dpLst a
        exact call_tuple_of pins s σ H _ us Q I r ⟨l, vs, rfl, .inl ⟨sqlSub sb q, fun p hp => kT ys vs p dv hp w⟩⟩
      | tuple ys =>
        obtain ⟨l, vs, rfl, q, dv⟩ := dpTup a
        exact call_tuple_of pins s σ H _ us Q I r ⟨l, vs, rfl, .inr ⟨(sqtSub sb q), kA _ _ a w⟩⟩
      | _ => exact w.elim
    | sum =>
      cases d with
      | list ys =>
        obtain ⟨l, vs, rfl, q, dv⟩ := dpLst a
        obtain ⟨ns, e1, q1⟩ := w
        cases asInts_of dv e1
        exact cr_sum hc pins s σ H _ us Q I r ⟨l, ns, rfl, sqlSub sb q, kA _ _ (.int _) q1⟩
      | tuple ys =>
        obtain ⟨l, vs, rfl, q, dv⟩ := dpTup a
        obtain ⟨ns, e1, q1⟩ := w
        cases asInts_of dv e1
        exact cr_sumT hc pins s σ H _ us Q I r ⟨l, ns, rfl, sqtSub sb q, kA _ _ (.int _) q1⟩
      | _ => exact w.elim
    | all =>
      cases d with
      | list ys =>
        obtain ⟨l, vs, rfl, q, dv⟩ := dpLst a
        obtain ⟨ns, e1, q1⟩ := w
        cases asBools_of dv e1
        exact cr_all hc pins s σ H _ us Q I r ⟨l, ns, rfl, sqlSub sb q, kA _ _ (.bl _) q1⟩
      | _ => exact w.elim
    | any =>
      cases d with
      | list ys =>
        obtain ⟨l, vs, rfl, q, dv⟩ := dpLst a
        obtain ⟨ns, e1, q1⟩ := w
        cases asBools_of dv e1
        exact cr_any hc pins s σ H _ us Q I r ⟨l, ns, rfl, sqlSub sb q, kA _ _ (.bl _) q1⟩
      | _ => exact w.elim
    | max =>
      cases d with
      | list ys =>
        obtain ⟨l, vs, rfl, q, dv⟩ := dpLst a
        obtain ⟨ns, m, e1, hm, ha, q1⟩ := w
        cases asInts_of dv e1
        refine cr_max hc pins s σ H _ us Q I r ⟨l, ns, rfl, sqlSub sb q, List.length_pos_of_mem hm, fun m' h1 h2 => ?_⟩
        have e2 : m' = m := by
          have := ha m' h1
          have := h2 m hm
          omega
        subst e2
        exact kA _ _ (.int _) q1
      | _ => exact w.elim
    | min =>
      cases d with
      | list ys =>
        obtain ⟨l, vs, rfl, q, dv⟩ := dpLst a
        obtain ⟨ns, m, e1, hm, ha, q1⟩ := w
        cases asInts_of dv e1
        refine cr_min hc pins s σ H _ us Q I r ⟨l, ns, rfl, sqlSub sb q, List.length_pos_of_mem hm, fun m' h1 h2 => ?_⟩
        have e2 : m' = m := by
          have := ha m' h1
          have := h2 m hm
          omega
        subst e2
        exact kA _ _ (.int _) q1
      | _ => exact w.elim
  · subst hd
    obtain ⟨v, u, rfl, a, a'⟩ := da2 da
    cases c with
    | max =>
      cases d with
      | int i =>
        cases e with
        | int j => cases dpInt a; cases dpInt a'; exact call_max2 hc pins s σ H _ us Q I r ⟨i, j, rfl, kA _ _ (.int _) w⟩
        | _ => exact w.elim
      | _ => exact w.elim
    | min =>
      cases d with
      | int i =>
        cases e with
        | int j => cases dpInt a; cases dpInt a'; exact call_min2 hc pins s σ H _ us Q I r ⟨i, j, rfl, kA _ _ (.int _) w⟩
        | _ => exact w.elim
      | _ => exact w.elim
    | _ => cases d <;> exact w.elim
theorem eBi (ok : Cok fns cls N C Φ k X sc b.W) (hC : b.C = C) {c : Bi} {a : IE} (s : Sn fns cls N C Φ k a) {x : Str} {e : Expr} {es : List Expr} {p pos : Pos}
    (h : (decide (biName c = x) && glB sc x && isL a && chk fns N a sc (dm :: dm :: e :: es)) = true) : PE X (.Call (.Name x p) (e :: es) [] pos) (rdE X.K b (wE Φ (.bi c a))) := by
  simp only [Bool.and_eq_true, decide_eq_true_eq] at h
  obtain ⟨⟨⟨rfl, hg⟩, hl⟩, hc⟩ := h
  have hp := chkPlain hl hc
  rw [List.all_cons, Bool.and_eq_true] at hp
  have ha := s.a b X sc hC ok hl _ hc
  have gl := glB_of ok hg
  have go : PE X (.Call (.Name (biName c) p) (e :: es) [] pos) (tCB (rBi X.K c) (rdA X.K b (wE Φ a))) := by
    have h0 := callBi (X := X) ok.calm c
    have st := starOf (es := es) (env := X.env) hp.1
    have ns := noStars (env := X.env) (pos := pos) hp.2
    cases c with
    | abs => exact pe_callB h0 gl (ok.blt _ (by decide)) (by decide +kernel) ha (by decide) (by decide) st ns
    | int => exact pe_callTy h0 gl (ok.blt _ (by decide)) (by decide +kernel) ha (by decide) (by decide) st ns
    | list => exact pe_callTy h0 gl (ok.blt _ (by decide)) (by decide +kernel) ha (by decide) (by decide) st ns
    | tuple => exact pe_callTy h0 gl (ok.blt _ (by decide)) (by decide +kernel) ha (by decide) (by decide) st ns
    | max => exact pe_callB h0 gl (ok.blt _ (by decide)) (by decide +kernel) ha (by decide) (by decide) st ns
    | min => exact pe_callB h0 gl (ok.blt _ (by decide)) (by decide +kernel) ha (by decide) (by decide) st ns
    | all => exact pe_callB h0 gl (ok.blt _ (by decide)) (by decide +kernel) ha (by decide) (by decide) st ns
    | any => exact pe_callB h0 gl (ok.blt _ (by decide)) (by decide +kernel) ha (by decide) (by decide) st ns
    | sum => exact pe_callB h0 gl (ok.blt _ (by decide)) (by decide +kernel) ha (by decide) (by decide) st ns
    | str => exact pe_callTy h0 gl (ok.blt _ (by decide)) (by decide +kernel) ha (by decide) (by decide) st ns
  exact peImp go fun σ H Q ⟨ε, F, Xp, Qp, R, w, ex, kk⟩ => ⟨ε, F, Xp, _, R, w, ex, fun ds ε1 H1 F1 xs s1 f1 R1 d1 q1 =>
    ⟨F1, ds, _, R1.fh, d1, q1, fun v z H' F' s f g n vr q => kk v ε1 H' F' z (s1.trans s) (f1.trans f) (R1.grow s f g n) (vrVat R1 vr) q⟩⟩
theorem patLen {K : PySem.W.Frag} {F H : Hp} {v : V} {d : D} (sb : Sub F H) (h : PAt K F H v d) {Q : Int → Prop} (w : lenW d Q) : ∃ p ys, v = .ref p ∧ (SqL K H p ys ∨ SqT K H p ys) ∧ Q ys.length := by
  cases d with
  | list xs =>
    rcases h with h | ⟨r, vs, ys, rfl, e2, h3, h4⟩
    · obtain ⟨a, vs, rfl, r1, a1⟩ := dpLst h
      exact ⟨a, vs, rfl, .inl (sqlSub sb r1), by rw [daLen a1]; exact w⟩
    · cases e2
      exact ⟨r, vs, rfl, .inl (.inl (.inl h3)), by rw [daLen h4]; exact w⟩
  | tuple xs =>
    rcases h with h | ⟨r, vs, ys, rfl, e2, h3, h4⟩
    · obtain ⟨a, vs, rfl, r1, a1⟩ := dpTup h
      exact ⟨a, vs, rfl, .inr ((sqtSub sb r1)), by rw [daLen a1]; exact w⟩
    · cases e2
  | _ => exact w.elim
theorem eLen (ok : Cok fns cls N C Φ k X sc b.W) {i : IE} {x : Str} {e : Expr} {p pos : Pos} (hx : x = "len") (hg : glB sc x = true) (he : plainE e = true) (h1 : PE X e (rdP X.K b (fun ε Xp q => pkW i ε (fun T => wE Φ i ε Xp T) q))) :
    PE X (.Call (.Name x p) [e] [] pos) (rdE X.K b (wE Φ (.len i))) := by
  subst hx
  refine peImp (pe_callB call_len_seq (glB_of ok hg) (ok.blt _ (by decide)) PySem.boot_len (pa_cons h1 pa_nil (starOf he)) (by decide) (by decide) (starOf he) rfl) fun σ H Q ⟨ε, F, Xp, Qp, R, w, ex, kk⟩ => ?_
  refine ⟨ε, F, Xp, _, R, w, ex, fun d ε1 H1 F1 x s1 f1 R1 d1 q1 => ?_⟩
  obtain ⟨p, ys, e1, q, q2⟩ := patLen R1.fh d1 q1
  subst e1
  exact ⟨p, ys, rfl, q, kk (.d (.int ys.length)) ε1 H1 F1 _ s1 f1 R1 (Dp.int _) q2⟩
theorem patItems {K : PySem.W.Frag} {F H : Hp} {v : V} {d : D} {ds : List D} (sb : Sub F H) (h : PAt K F H v d) (w : items d = some ds) : ∃ p ys, v = .ref p ∧ (SqL K H p ys ∨ SqT K H p ys) ∧ DpAll K F ys ds := by
  cases d with
  | list xs =>
    cases w
    rcases h with h | ⟨r, vs, ys, rfl, e2, h3, h4⟩
    · obtain ⟨a, vs, rfl, r1, a1⟩ := dpLst h
      exact ⟨a, vs, rfl, .inl (sqlSub sb r1), a1⟩
    · cases e2
      exact ⟨r, vs, rfl, .inl (.inl (.inl h3)), h4⟩
  | tuple xs =>
    cases w
    rcases h with h | ⟨r, vs, ys, rfl, e2, h3, h4⟩
    · obtain ⟨a, vs, rfl, r1, a1⟩ := dpTup h
      exact ⟨a, vs, rfl, .inr ((sqtSub sb r1)), a1⟩
    · cases e2
  | _ => cases w
theorem eLsc (ok : Cok fns cls N C Φ k X sc b.W) {i : IE} {x : Str} {e : Expr} {p pos : Pos} (hx : x = "list") (hg : glB sc x = true) (he : plainE e = true) (h1 : PE X e (rdP X.K b (fun ε Xp q => pkW i ε (fun T => wE Φ i ε Xp T) q))) :
    PE X (.Call (.Name x p) [e] [] pos) (rdE X.K b (wE Φ (.lsc i))) := by
  subst hx
  refine peImp (pe_callTy call_list_of (glB_of ok hg) (ok.blt _ (by decide)) (by decide +kernel) (pa_cons h1 pa_nil (starOf he)) (by decide) (by decide) (starOf he) rfl) fun σ H Q ⟨ε, F, Xp, Qp, R, w, ex, kk⟩ => ?_
  refine ⟨ε, F, Xp, _, R, w, ex, fun d ε1 H1 F1 x s1 f1 R1 d1 q1 => ?_⟩
  split at q1
  · rename_i ds hd
    obtain ⟨p, ys, e1, q, q2⟩ := patItems R1.fh d1 hd
    subst e1
    exact ⟨p, ys, rfl, q, fun r hr => kk (.own ds) ε1 _ F1 _ (s1.trans (same_upd hr)) f1 (R1.lst _ hr) (VAt.newL R1 hr q2) q1⟩
  · exact q1.elim
def dTy : D → String
  | .none => "NoneType"
  | .bool _ => "bool"
  | .int _ => "int"
  | .str _ => "str"
  | .list _ => "list"
  | .tuple _ => "tuple"
  | .dict _ => "dict"
theorem patTy {K : PySem.W.Frag} {F H : Hp} {v : V} {d : D} (sb : Sub F H) (h : PAt K F H v d) : TyX K H v (.type (dTy d)) := by
  rcases h with h | ⟨r, vs, ys, rfl, rfl, h3, h4⟩
  · cases h with
    | non => exact .base .non
    | bl c => exact .base (.bl c)
    | int c => exact .base (.int c)
    | str c => exact .base (.str c)
    | lst q r =>
      rcases sqlSub sb q with (q | ⟨o, q⟩) | ⟨o, its, n, q, hc, _⟩
      · exact .base (.lst q)
      · exact .base (.frz q)
      · exact .kList q hc
    | tup q r =>
      rcases sqtSub sb q with (q | ⟨o, q⟩) | ⟨o, its, n, q, hc, _⟩
      · exact .base (.tup q)
      · exact .fTuple q
      · exact .kTuple q hc
  · exact .base (.lst h3)
def tyB (n : String) : Ty → Bool
  | .int => n == "int" || n == "bool"
  | .bool => n == "bool"
  | .tuple => n == "tuple"
  | .list => n == "list"
  | .str => n == "str"
theorem kitTyB : ∀ n ∈ ["NoneType", "bool", "int", "str", "list", "tuple"], ∀ t : Ty, kitB n (tyStr t) = some (tyB n t) := by
  intro n hn t
  simp only [List.mem_cons, List.not_mem_nil, or_false] at hn
  rcases hn with rfl | rfl | rfl | rfl | rfl | rfl <;> cases t <;> decide +kernel
theorem kitTy {K : PySem.W.Frag} (t : Ty) (d : D) (hd : ∀ kvs, d ≠ .dict kvs) : PySem.W.kitOne K (.type (dTy d)) (.type (tyStr t)) = some (isT t d) := by
  have e : isT t d = tyB (dTy d) t := by
    cases d with
    | dict kvs => exact absurd rfl (hd kvs)
    | _ => cases t <;> rfl
  rw [e]
  refine kit_ty (kitTyB _ ?_ t)
  cases d with
  | dict kvs => exact absurd rfl (hd kvs)
  | _ => simp [dTy]
theorem patNoDict {K : PySem.W.Frag} {F H : Hp} {v : V} {d : D} (h : PAt K F H v d) : ∀ kvs, d ≠ .dict kvs := by
  intro kvs e
  subst e
  rcases h with h | ⟨r, vs, ys, _, e2, _⟩
  · cases h
  · cases e2
theorem eIsi (ok : Cok fns cls N C Φ k X sc b.W) {t : Ty} {i : IE} {x y : Str} {e : Expr} {p p2 pos : Pos} (hx : x = "isinstance") (hg : glB sc x = true) (hy : tyName t = y) (hgy : glB sc y = true) (he : plainE e = true)
    (h1 : PE X e (rdP X.K b (fun ε Xp q => pkW i ε (fun T => wE Φ i ε Xp T) q))) : PE X (.Call (.Name x p) [e, .Name y p2] [] pos) (rdE X.K b (wE Φ (.isi t i))) := by
  subst hx hy
  have gy := glB_of ok hgy
  have hT : PE X (.Name (tyName t) p2) (tC (.ty (tyStr t))) := by
    cases t with
    | int => exact pe_bltn gy (ok.blt _ (by decide)) (u := .type "int") (by decide +kernel) rfl
    | bool => exact pe_bltn gy (ok.blt _ (by decide)) (u := .type "bool") (by decide +kernel) rfl
    | tuple => exact pe_bltn gy (ok.blt _ (by decide)) (u := .type "tuple") (by decide +kernel) rfl
    | list => exact pe_bltn gy (ok.blt _ (by decide)) (u := .type "list") (by decide +kernel) rfl
    | str => exact pe_bltn gy (ok.blt _ (by decide)) (u := .type "str") (by decide +kernel) rfl
  refine peImp (pe_callB call_isi (glB_of ok hg) (ok.blt _ (by decide)) (by decide +kernel) (pa_cons h1 (pa_cons hT pa_nil) (starOf he)) (by decide) (by decide) (starOf he) rfl) fun σ H Q ⟨ε, F, Xp, Qp, R, w, ex, kk⟩ => ?_
  refine ⟨ε, F, Xp, _, R, w, ex, fun d ε1 H1 F1 x s1 f1 R1 d1 q1 => ?_⟩
  exact ⟨x, .ty (tyStr t), .type (dTy d), .type (tyStr t), isT t d, rfl, .ty _, patTy R1.fh d1, kitTy t d (patNoDict d1), kk (.d (.bool (isT t d))) ε1 H1 F1 _ s1 f1 R1 (Dp.bl _) q1⟩
end
end Rc

/-! What is walked. -/
namespace PySem
/-- enumerate of anything whose walk begins -/
theorem rcEnumNew {v : Value} {o : Obj} {H : Heap → Prop} (B : Begins v o H) :
    Meets (Builtin.«enumerate.__new__» ⟨[.type "enumerate", v], []⟩) (fun _ R s => H s.heap ∧
      R (.ok (.ret (.ref (s.heap.push o).objs.size)))
        { s with heap := (s.heap.push o).push { cls := .type "enumerate", data := .fields #[.none, .bool false, .ref s.heap.objs.size, rawInt 0, .none, .none] } }) :=
  .of_wp fun prog w A R s h => by
    obtain ⟨hp, g, d, tk, os⟩ := s
    obtain ⟨h1, h⟩ := h
    have hsub := sub_enumerate
    have go : ∀ {A' : Around} {E : Value → Shared → Prop} {Q : Value → Shared → Prop}, Q (.ref hp.objs.size) ⟨hp.push o, g, d, tk, os⟩ → wpAny (model prog w) A' (pyIter v) Q E ⟨hp, g, d, tk, os⟩ :=
      fun q => B.iter prog w _ _ ⟨hp, g, d, tk, os⟩ _ h1 q
    wp_walk using go
    refine wpAny_stack_any fun st => wpAny_pure ?_
    split
    · rename_i c _ _ _ _ _
      cases (c == Value.type "enumerate") <;> (wp_walk using go; exact ⟨_, rfl, h⟩)
    · wp_walk using go
      exact ⟨_, rfl, h⟩
theorem rcEnumCall {prog : Program} {w : World} {A : Around} {E : Value → Shared → Prop} {s : Shared} {v : Value} {o : Obj} {H : Heap → Prop} {Q : Value → Shared → Prop} (B : Begins v o H) (h1 : H s.heap)
    (h : ∀ h', IsEnum h' (s.heap.objs.size + 1) s.heap.objs.size 0 .none → h'.get? s.heap.objs.size = some o → h'.objs.size = s.heap.objs.size + 2 →
      (∀ b u, s.heap.get? b = some u → h'.get? b = some u) → Q (.ref (s.heap.objs.size + 1)) { s with heap := h' }) :
    wpAny (model prog w) A (call (.type "enumerate") [v]) Q E s := by
  refine callType_new F.called_enumerate (by decide) (F.typeCall_enumerate_1 _) (F.newCall_enumerate_1 _) (fun obj => F.args_object_init_2 obj _)
    F.entry_enumerate_new (rcEnumNew B) ⟨h1, ?_⟩
  have sz : (s.heap.push o).objs.size = s.heap.objs.size + 1 := Heap.size_push ..
  show _ ∧ _
  rw [sz]
  generalize hob : ({ cls := .type "enumerate", data := .fields #[.none, .bool false, .ref s.heap.objs.size, rawInt 0, .none, .none] } : Obj) = ob
  have fr : ob.isFreed = false := by subst hob; rfl
  have here : ((s.heap.push o).push ob).get? (s.heap.objs.size + 1) = some ob := by
    have q := Heap.get?_push_size (s.heap.push o) (o := ob) fr
    rw [sz] at q
    exact q
  have en : IsEnum ((s.heap.push o).push ob) (s.heap.objs.size + 1) s.heap.objs.size 0 .none := by subst hob; exact here
  refine ⟨⟨_, en, rfl⟩, h _ en (Heap.get?_push_of_some _ (Heap.get?_push_size _ B.free)) (by rw [Heap.size_push, sz]) fun b u q => ?_⟩
  exact Heap.get?_push_of_some _ (Heap.get?_push_of_some _ q)
end PySem
namespace Rc
open PySem PySem.Spec PyProof.Rows L2
def IteT (K : PySem.W.Frag) (a : Addr) (n : Nat) : It :=
  ⟨fun i H => i < n ∧ ∃ xs x, SqT K H a xs ∧ xs[i]? = some x,
    fun i H v H' => ∃ T x, v = .ref T ∧ H T = none ∧ H' = upd H T (.tup [.int (i : Nat), x]) ∧ ∀ xs, SqT K H a xs → xs[i]? = some x,
    fun i H => ∃ xs, SqT K H a xs ∧ xs.length = n ∧ n ≤ i⟩
theorem turn_enumT {P : Program} {w : World} {K : PySem.W.Frag} {elts : List Expr} {kk : Nat} {tpos : Pos} (a e it : Addr) (n : Nat) :
    Turn P w K (.Tuple elts kk tpos) (IteT K a n) [e, it] e (fun i h => (∃ old, IsEnum h e it ((i : Nat) : Int) old) ∧ h.IsTupleIter it a i ∧ e ≠ it ∧ a ≠ e ∧ a ≠ it ∧ i ≤ n) where
  mem := by simp
  obj := by
    rintro i h ⟨⟨old, he⟩, ⟨o, ho, hc, hd⟩, _⟩ c hm
    rcases (by simpa using hm : c = e ∨ c = it) with rfl | rfl
    · exact ⟨_, he, fun v q => nomatch q⟩
    · exact ⟨o, ho, fun v q => by rw [hd] at q; cases q⟩
  keep := by
    rintro i h h' ⟨⟨old, he⟩, hi, r⟩ q
    exact ⟨⟨old, q e (by simp) _ he⟩, hi.at fun o z => q it (by simp) o z, r⟩
  item := by
    rintro X rfl rfl rfl hc i pins s σ H E I hf ⟨⟨old, he⟩, hit, hne, hae, hai, hin⟩ ⟨hin2, xs, x, hq, hx⟩
    obtain ⟨its, rv, pl, hz⟩ := I.tuple hq
    obtain ⟨u, hu, ru⟩ := rv.get hx
    have lt1 : e < s.heap.objs.size := Heap.lt_size he
    have lt2 : it < s.heap.objs.size := by
      obtain ⟨_, q, _⟩ := hit
      exact Heap.lt_size q
    have hlt : i < its.toArray.size := by
      rw [List.size_toArray]
      exact (List.getElem?_eq_some_iff.mp hu).1
    have Dr := Draws.tuple (prog := X.prog) (w := X.w) (A := X.A.in1) (I.ok.hd hc) it a hai its.toArray
    have hef : e ∉ [it, a] := by
      simp only [List.mem_cons, List.not_mem_nil, or_false, not_or]
      exact ⟨hne, Ne.symm hae⟩
    refine wpAny_pyNext_enum_itemC Dr he ⟨hit, pl⟩ hlt hne hef fun y h' tk hy ho hst hT hsz hk => ?_
    have ey : y = u := by
      have z : its.toArray[i]? = some u := by simpa using hu
      rw [z] at hy
      exact (Option.some.inj hy).symm
    subst ey
    refine ⟨_, rfl, wpAny_letOwnedTupleGo_enum (s := { s with heap := h', toks := tk + 1 }) ho fun h2 he2 sb => ?_⟩
    have hT2 : h2.get? s.heap.objs.size = some { cls := .type "tuple", data := .seq #[.int (i : Nat) tk, y] } := (sb.2 _ (Nat.ne_of_gt lt1)).trans hT
    have new : ObjOk X.prog X.w (upd H s.heap.objs.size (.tup [.int (i : Nat), x])) h2 s.heap.objs.size (.tup [.int (i : Nat), x]) :=
      ⟨by show 2 ≤ sizeLine; decide, [.int (i : Nat) tk, y], .cons ⟨_, rfl⟩ (.cons ru .nil), ⟨_, hT2, rfl, _, rfl⟩⟩
    have I1 : Inv X pins σ (upd H s.heap.objs.size (.tup [.int (i : Nat), x])) { s with heap := h2, toks := tk + 1 } :=
      I.turnedNew (ch := [e, it]) (fun c ob hb q => (sb.2 c fun z => hb (by simp [z])).trans (hk c ob (fun z => hb (by simp [z])) (fun z => hb (by simp [z])) q)) hf (Nat.le_refl _) new
    refine ⟨.ref s.heap.objs.size, _, I1, rfl, ⟨_, x, rfl, I.hok.fresh (Nat.le_refl _), rfl, fun ys hy => by rw [I.tuple_inj hy hq]; exact hx⟩, ⟨⟨y, ?_⟩, hst.1.at fun o q => (sb.2 it (Ne.symm hne)).trans q, hne, hae, hai, hin2⟩, fun c hb => ?_⟩
    · rw [show ((i + 1 : Nat) : Int) = (i : Int) + 1 by omega]
      exact he2
    · have hc' : c ≠ s.heap.objs.size := by
        rcases (by simpa using hb : c = e ∨ c = it) with rfl | rfl
        · exact Nat.ne_of_lt lt1
        · exact Nat.ne_of_lt lt2
      rw [upd_ne hc']
      exact (hf c hb).1
  done := by
    rintro X rfl rfl rfl hc i pins s σ H E I hf ⟨⟨old, he⟩, hit, hne, hae, hai, hin⟩ ⟨xs, hq, hx, hin2⟩
    obtain ⟨its, rv, pl, hz⟩ := I.tuple hq
    obtain ⟨f0, f1, f2, f3, f4, f5⟩ := hf it (by simp)
    have Dr := Draws.tuple (prog := X.prog) (w := X.w) (A := X.A.in1) (I.ok.hd hc) it a hai its.toArray
    have hl := rv.length
    have hi : i = its.toArray.size := by rw [List.size_toArray]; omega
    refine wpAny_pyNext_enum_endD Dr he ⟨hi ▸ hit, pl⟩ fun h' eb => ⟨rfl, ?_⟩
    exact I.turned (t' := s.toks) (fun c o hb q => eb c o hb q) f0 f1 f3 f4 f5
  self := fun A i s Q E st h => let ⟨⟨_, he⟩, _⟩ := st; wpAny_pyIter_enum he h

section
variable {X : Cx} {tg e : Expr} {te : TE} {pos p : Pos}
/-- a list or a tuple -/
def iSeq (K : PySem.W.Frag) (te : TE) : TI := fun σ H R => te σ H fun v H1 => ∃ a xs, v = .ref a ∧ ((SqL K H1 a xs ∧ R (Itl K a) H1) ∨ (SqT K H1 a xs ∧ R (Itt K a) H1))
theorem pi_seq (he : PE X e te) : PI X tg e (iSeq X.K te) := by
  refine ⟨fun pins s σ H R I h => thn (he.run pins s σ H _ I h) fun v s1 ⟨x, H1, I1, r1, q1⟩ => ?_⟩
  obtain ⟨a, xs, ex, q⟩ := q1
  subst ex
  cases r1
  rcases q with ⟨hq, q⟩ | ⟨hq, q⟩
  · obtain ⟨its, rv, pl, hz⟩ := I1.list hq
    exact wpAny_pyIter_list pl.isList (pi_one (tk := s1.toks) I1 _ (turn_list a _) ⟨_, Heap.get?_push_size _ rfl, rfl, rfl⟩ q)
  · obtain ⟨its, rv, pl, hz⟩ := I1.tuple hq
    exact wpAny_pyIter_tuple pl (pi_one (tk := s1.toks) I1 _ (turn_tuple a _) ⟨_, Heap.get?_push_size _ rfl, rfl, rfl⟩ q)
def iEnumA (K : PySem.W.Frag) (te : TE) : TI := fun σ H R => te σ H fun v H1 => ∃ a xs, v = .ref a ∧ ((SqL K H1 a xs ∧ R (Ite K a) H1) ∨ (SqT K H1 a xs ∧ R (IteT K a xs.length) H1))
theorem pi_enumA {elts : List Expr} {kk : Nat} {tpos : Pos} (hg : Gl X "enumerate") (hm : X.mg "enumerate" = none) (he : PE X e te) (hs : plainE e = true) :
    PI X (.Tuple elts kk tpos) (.Call (.Name "enumerate" p) [e] [] pos) (iEnumA X.K te) := by
  refine ⟨fun pins s σ H R I h => ?_⟩
  have st := starOf (es := []) (env := X.env) hs
  refine Call_ (ld_blt I hg hm boot_enumerate (PyProof.Rows.callWith_type1 (args_cons (thn (he.run pins s σ H _ I h) fun u s1 ⟨v, H1, I1, r1, q1⟩ => args_nil ?_) st) st rfl))
  obtain ⟨a, xs, ex, q⟩ := q1
  subst ex
  cases r1
  have fresh2 : ∀ b ∈ [s1.heap.objs.size + 1, s1.heap.objs.size], FpOk X pins H1 b := fun b hb => by
    have hle : s1.heap.objs.size ≤ b := by
      rcases (by simpa using hb : b = s1.heap.objs.size + 1 ∨ b = s1.heap.objs.size) with z | z <;> omega
    exact I1.fpOk hle (I1.hok.fresh hle)
  rcases q with ⟨hq, q⟩ | ⟨hq, q⟩
  · obtain ⟨its, rv, pl, hz⟩ := I1.list hq
    refine call_enumerate_list pl.isList fun h' hen hit hsz hk => wpAny_pyIter_enum hen ?_
    have I2 : Inv X pins σ H1 { s1 with heap := h' } := I1.kept (t' := s1.toks) hk
    exact ⟨_, _, _, _, H1, rfl, I2, turn_enum a (s1.heap.objs.size + 1) s1.heap.objs.size, ⟨⟨.none, hen⟩, hit, Nat.succ_ne_self _⟩, fresh2, q⟩
  · obtain ⟨its, rv, pl, hz⟩ := I1.tuple hq
    have lt : a < s1.heap.objs.size := by
      obtain ⟨o, ho, _⟩ := id pl
      exact Heap.lt_size ho
    refine rcEnumCall (begins_tuple a its.toArray) pl fun h' hen hit hsz hk => wpAny_pyIter_enum hen ?_
    have I2 : Inv X pins σ H1 { s1 with heap := h' } := I1.kept (t' := s1.toks) hk
    refine ⟨_, _, _, _, H1, rfl, I2, turn_enumT a (s1.heap.objs.size + 1) s1.heap.objs.size xs.length, ⟨⟨.none, hen⟩, ⟨_, hit, rfl, rfl⟩, Nat.succ_ne_self _, ?_, ?_, Nat.zero_le _⟩, fresh2, q⟩
    · exact Nat.ne_of_lt (Nat.lt_succ_of_lt lt)
    · exact Nat.ne_of_lt lt
end

/-! ### what an iterator gives -/
section
variable {K : PySem.W.Frag} {F1 : Hp}
theorem itList {a : Addr} {vs : List V} {ds : List D} (r : SqL K F1 a vs) (d : DpAll K F1 vs ds) : ItOk K (Itl K a) F1 ds where
  go := fun i H hi s => by
    have hv : i < vs.length := by rw [daLen d]; exact hi
    exact ⟨vs, vs[i], sqlSub s r, List.getElem?_eq_getElem hv⟩
  stop := fun H s => ⟨vs, sqlSub s r, by rw [daLen d]; exact Nat.le_refl _⟩
  yld := fun i H x H' F hi s1 s2 y => by
    obtain ⟨e, y⟩ := y
    subst e
    obtain ⟨z, g1, g2⟩ := daGet d (y vs (sqlSub (s1.trans s2) r))
    exact ⟨.refl _, F, z, .refl F, s2, .refl, g1, dpSub s1 g2⟩
theorem itTup {a : Addr} {vs : List V} {ds : List D} (r : SqT K F1 a vs) (d : DpAll K F1 vs ds) : ItOk K (Itt K a) F1 ds where
  go := fun i H hi s => by
    have hv : i < vs.length := by rw [daLen d]; exact hi
    exact ⟨vs, vs[i], (sqtSub s r), List.getElem?_eq_getElem hv⟩
  stop := fun H s => ⟨vs, (sqtSub s r), by rw [daLen d]; exact Nat.le_refl _⟩
  yld := fun i H x H' F hi s1 s2 y => by
    obtain ⟨e, y⟩ := y
    subst e
    obtain ⟨z, g1, g2⟩ := daGet d (y vs ((sqtSub (s1.trans s2) r)))
    exact ⟨.refl _, F, z, .refl F, s2, .refl, g1, dpSub s1 g2⟩
theorem enums_len : ∀ (ds : List D) (n : Nat), (enums n ds).length = ds.length
  | [], _ => rfl
  | _ :: r, n => by simp [enums, enums_len r (n + 1)]
theorem enums_get : ∀ (ds : List D) (n i : Nat), (enums n ds)[i]? = ds[i]?.map fun x => .tuple [.int (n + i : Nat), x]
  | [], _, _ => by simp [enums]
  | _ :: r, n, 0 => by simp [enums]
  | x :: r, n, i + 1 => by
    simp only [enums, List.getElem?_cons_succ, enums_get r (n + 1) i]
    congr 1
    funext y
    have : n + 1 + i = n + (i + 1) := by omega
    rw [this]
theorem newPair {F H : Hp} {T : Addr} {i : Int} {x : V} {z : D} (s2 : Sub F H) (hT : H T = none) (g : Dp K F x z) :
    Same H (upd H T (.tup [.int i, x])) ∧ ∃ F' d, Sub F F' ∧ Sub F' (upd H T (.tup [.int i, x])) ∧ New F F' H ∧ d = .tuple [.int i, z] ∧ Dp K F' (.ref T) d := by
  have sb : Sub F (upd F T (.tup [.int i, x])) := sub_updF (s2.none hT)
  exact ⟨same_upd hT, upd F T _, _, sb, s2.upd2, .add hT, rfl, Dp.tup (.inl (.inl upd_same)) (.cons (.int i) (.cons (dpSub sb g) .nil))⟩
theorem itEnum {a : Addr} {vs : List V} {ds : List D} (r : SqL K F1 a vs) (d : DpAll K F1 vs ds) : ItOk K (Ite K a) F1 (enums 0 ds) where
  go := fun i H hi s => by
    have hv : i < vs.length := by rw [daLen d, ← enums_len ds 0]; exact hi
    exact ⟨vs, vs[i], sqlSub s r, List.getElem?_eq_getElem hv⟩
  stop := fun H s => ⟨vs, sqlSub s r, by rw [daLen d, enums_len]; exact Nat.le_refl _⟩
  yld := fun i H x H' F hi s1 s2 y => by
    obtain ⟨T, u, rfl, hT, rfl, y⟩ := y
    obtain ⟨z, g1, g2⟩ := daGet d (y vs (sqlSub (s1.trans s2) r))
    obtain ⟨p1, F', e, p2, p3, p4, rfl, p5⟩ := newPair (i := (i : Nat)) s2 hT (dpSub s1 g2)
    exact ⟨p1, F', _, p2, p3, p4, by rw [enums_get, g1]; simp, p5⟩
theorem itEnumT {a : Addr} {vs : List V} {ds : List D} (r : SqT K F1 a vs) (d : DpAll K F1 vs ds) : ItOk K (IteT K a vs.length) F1 (enums 0 ds) where
  go := fun i H hi s => by
    have hv : i < vs.length := by rw [daLen d, ← enums_len ds 0]; exact hi
    exact ⟨hv, vs, vs[i], (sqtSub s r), List.getElem?_eq_getElem hv⟩
  stop := fun H s => ⟨vs, (sqtSub s r), rfl, by rw [daLen d, enums_len]; exact Nat.le_refl _⟩
  yld := fun i H x H' F hi s1 s2 y => by
    obtain ⟨T, u, rfl, hT, rfl, y⟩ := y
    obtain ⟨z, g1, g2⟩ := daGet d (y vs ((sqtSub (s1.trans s2) r)))
    obtain ⟨p1, F', e, p2, p3, p4, rfl, p5⟩ := newPair (i := (i : Nat)) s2 hT (dpSub s1 g2)
    exact ⟨p1, F', _, p2, p3, p4, by rw [enums_get, g1]; simp, p5⟩
theorem rev_get {ds : List D} {i : Nat} (hi : i < ds.length) : ds.reverse[i]? = ds[ds.length - 1 - i]? := by
  rw [List.getElem?_reverse hi]
theorem itRev {a : Addr} {vs : List V} {ds : List D} (r : SqL K F1 a vs) (d : DpAll K F1 vs ds) : ItOk K (Itv K a vs.length) F1 ds.reverse where
  go := fun i H hi s => by
    have hv : i < vs.length := by rw [daLen d]; simpa using hi
    exact ⟨hv, vs, vs[vs.length - 1 - i]'(by omega), sqlSub s r, List.getElem?_eq_getElem (by omega)⟩
  stop := fun H s => by
    have e : ds.reverse.length = vs.length := by rw [List.length_reverse, daLen d]
    rw [e]
    exact Nat.le_refl _
  yld := fun i H x H' F hi s1 s2 y => by
    obtain ⟨e, y⟩ := y
    subst e
    obtain ⟨z, g1, g2⟩ := daGet d (y vs (sqlSub (s1.trans s2) r))
    exact ⟨.refl _, F, z, .refl F, s2, .refl, by rw [rev_get (by simpa using hi), ← daLen d]; exact g1, dpSub s1 g2⟩
theorem itRevT {a : Addr} {vs : List V} {ds : List D} (r : SqT K F1 a vs) (d : DpAll K F1 vs ds) : ItOk K (RT.ItvT K a vs.length) F1 ds.reverse where
  go := fun i H hi s => by
    have hv : i < vs.length := by rw [daLen d]; simpa using hi
    exact ⟨hv, vs, vs[vs.length - 1 - i]'(by omega), (sqtSub s r), List.getElem?_eq_getElem (by omega)⟩
  stop := fun H s => by
    have e : ds.reverse.length = vs.length := by rw [List.length_reverse, daLen d]
    rw [e]
    exact Nat.le_refl _
  yld := fun i H x H' F hi s1 s2 y => by
    obtain ⟨e, y⟩ := y
    subst e
    obtain ⟨z, g1, g2⟩ := daGet d (y vs ((sqtSub (s1.trans s2) r)))
    exact ⟨.refl _, F, z, .refl F, s2, .refl, by rw [rev_get (by simpa using hi), ← daLen d]; exact g1, dpSub s1 g2⟩
theorem itRng {lo c : Int} {n : Nat} : ItOk K (Itc lo c n) F1 ((List.range n).map fun (i : Nat) => .int (lo + i * c)) where
  go := fun i H hi s => by
    have q : i < n := by simpa using hi
    exact q
  stop := fun H s => by
    show n ≤ _
    simp
  yld := fun i H x H' F hi s1 s2 y => by
    obtain ⟨e, e2⟩ := y
    subst e e2
    have hi' : i < n := by simpa using hi
    exact ⟨.refl _, F, _, .refl F, s2, .refl, by simp [hi'], .int _⟩
theorem itRng1 {lo : Int} {n : Nat} : ItOk K (Itr lo n) F1 ((List.range n).map fun (i : Nat) => .int (lo + i)) where
  go := fun i H hi s => by
    have q : i < n := by simpa using hi
    exact q
  stop := fun H s => by
    show n ≤ _
    simp
  yld := fun i H x H' F hi s1 s2 y => by
    obtain ⟨e, e2⟩ := y
    subst e e2
    have hi' : i < n := by simpa using hi
    exact ⟨.refl _, F, _, .refl F, s2, .refl, by simp [hi'], .int _⟩
end
end Rc

/-! Targets, comprehensions, all expressions. -/
namespace Rc
open PySem PySem.Spec PyProof.Rows L2
/-! ### targets -/
theorem wipe_get {σ : St} : ∀ {vs : List Nat} {i : Nat}, (wipe σ vs)[i]? = if i ∈ vs then (if i < σ.length then some none else none) else σ[i]?
  | [], i => by simp [wipe]
  | v :: vs, i => by
    unfold wipe
    by_cases h : i = v
    · subst h
      by_cases hl : i < σ.length
      · rw [List.getElem?_set_self (by rw [wipe_length]; exact hl), if_pos (by simp), if_pos hl]
      · rw [List.getElem?_eq_none (by rw [List.length_set, wipe_length]; omega), if_pos (by simp), if_neg hl]
    · rw [List.getElem?_set_ne (Ne.symm h), wipe_get (vs := vs)]
      simp [h]
theorem wipe_set {σ : St} {vs : List Nat} {j : Nat} {v : Option V} (h : j ∈ vs) : wipe (σ.set j v) vs = wipe σ vs := by
  apply List.ext_getElem?
  intro i
  rw [wipe_get, wipe_get, List.length_set]
  by_cases hi : i ∈ vs
  · rw [if_pos hi, if_pos hi]
  · rw [if_neg hi, if_neg hi, List.getElem?_set_ne (by rintro rfl; exact hi h)]
theorem wipe_wipe {σ : St} {vs : List Nat} : wipe (wipe σ vs) vs = wipe σ vs := by
  apply List.ext_getElem?
  intro i
  rw [wipe_get, wipe_get, wipe_length]
  by_cases hi : i ∈ vs
  · rw [if_pos hi, if_pos hi]
  · rw [if_neg hi, if_neg hi]
def gNames : List Nat → TGs
  | [] => gNil
  | j :: js => gCons (gName j) (gNames js)
def gTg (K : PySem.W.Frag) : Tg → TG
  | .one j => gName j
  | .tup js => gTup K js.length (gNames js)
section
variable {X : Cx} {p : Str → Bool}
theorem pgNames (nd : X.N.Nodup) (hp : ∀ x, p x = true → Loc X.env.scope x ∧ (X.fn x = true ∨ X.env.scope.names.lookup x = some .local)) : ∀ {js : List Nat} {es : List Expr}, tgsB p X.N js es = true → PGs X es (gNames js)
  | [], [], _ => pgs_nil
  | [], _ :: _, h => absurd h Bool.false_ne_true
  | j :: js, [], h => absurd h Bool.false_ne_true
  | j :: js, e :: es, h => by
    cases e with
    | Name x q =>
      have h' : (nmB X.N j x && p x && tgsB p X.N js es) = true := h
      simp only [Bool.and_eq_true] at h'
      obtain ⟨⟨h1, h2⟩, h3⟩ := h'
      obtain ⟨g1, _, _⟩ := nmB_of h1
      obtain ⟨g2, g3⟩ := hp x h2
      exact pgs_cons (pg_name nd g1 g2 g3) (pgNames nd hp h3) (by rfl)
    | _ => exact absurd h Bool.false_ne_true
theorem tgsB_len {N : List Str} {env : Env} : ∀ {js : List Nat} {es : List Expr}, tgsB p N js es = true → (assignEach es env).length = js.length ∧ (assignEach es env).findIdx? (·.1) = none
  | [], [], _ => ⟨rfl, rfl⟩
  | [], _ :: _, h => absurd h Bool.false_ne_true
  | j :: js, [], h => absurd h Bool.false_ne_true
  | j :: js, e :: es, h => by
    cases e with
    | Name x q =>
      have h' : (nmB N j x && p x && tgsB p N js es) = true := h
      simp only [Bool.and_eq_true] at h'
      obtain ⟨g1, g2⟩ := tgsB_len (env := env) h'.2
      have e1 : assignEach (.Name x q :: es) env = (false, assign (.Name x q) env) :: assignEach es env := rfl
      rw [e1]
      refine ⟨by rw [List.length_cons, List.length_cons, g1], ?_⟩
      rw [List.findIdx?_cons, g2]
      rfl
    | _ => exact absurd h Bool.false_ne_true
theorem pgTg (nd : X.N.Nodup) (hc : X.calm = true) (hp : ∀ x, p x = true → Loc X.env.scope x ∧ (X.fn x = true ∨ X.env.scope.names.lookup x = some .local)) {t : Tg} {e : Expr} (h : tgB p X.N t e = true) : PG X e (gTg X.K t) := by
  cases t with
  | one j =>
    cases e with
    | Name x q =>
      have h' : (nmB X.N j x && p x) = true := h
      rw [Bool.and_eq_true] at h'
      obtain ⟨g1, _, _⟩ := nmB_of h'.1
      obtain ⟨g2, g3⟩ := hp x h'.2
      exact pg_name nd g1 g2 g3
    | _ => exact absurd h Bool.false_ne_true
  | tup js =>
    cases e with
    | Tuple es n q =>
      have h' : tgsB p X.N js es = true := h
      obtain ⟨g1, g2⟩ := tgsB_len (env := X.env) h'
      exact pg_tup hc (pgNames nd hp h') g1 g2
    | _ => exact absurd h Bool.false_ne_true
end
theorem tgOwns_ix {p : Str → Bool} {N : List Str} : ∀ {js : List Nat} {es : List Expr}, tgsB p N js es = true → (tgOwns js es).map (·.2) = js
  | [], [], _ => rfl
  | [], _ :: _, h => absurd h Bool.false_ne_true
  | j :: js, [], h => absurd h Bool.false_ne_true
  | j :: js, e :: es, h => by
    cases e with
    | Name x q =>
      have h' : (nmB N j x && p x && tgsB p N js es) = true := h
      simp only [Bool.and_eq_true] at h'
      show j :: (tgOwns js es).map (·.2) = j :: js
      rw [tgOwns_ix h'.2]
    | _ => exact absurd h Bool.false_ne_true
theorem tgOwn_ix {p : Str → Bool} {N : List Str} {t : Tg} {e : Expr} (h : tgB p N t e = true) : (tgOwn t e).map (·.2) = tgs t := by
  cases t with
  | one j =>
    cases e with
    | Name x q => rfl
    | _ => exact absurd h Bool.false_ne_true
  | tup js =>
    cases e with
    | Tuple es n q => exact tgOwns_ix h
    | _ => exact absurd h Bool.false_ne_true
section
variable {K : PySem.W.Frag} {H0 F0 F H : Hp}
theorem setAllGo : ∀ {js : List Nat} {ds : List D} {vs : List V} {σ : St} {ε : Ev} {Q : St → Hp → Prop} (all : List Nat), (∀ j ∈ js, j ∈ all) → Rep K H0 F0 F H σ ε → DpAll K F vs ds → ds.length = js.length →
    (∀ σ', Rep K H0 F0 F H σ' (setAll js ds ε) → wipe σ' all = wipe σ all → Q σ' H) → gNames js vs σ H Q
  | [], ds, vs, σ, ε, Q, all, _, R, d, hl, k => by
    have : ds = [] := List.eq_nil_of_length_eq_zero hl
    subst this
    cases d
    exact ⟨rfl, k σ R rfl⟩
  | j :: js, [], vs, σ, ε, Q, all, _, R, d, hl, k => by cases hl
  | j :: js, x :: ds, vs, σ, ε, Q, all, hm, R, d, hl, k => by
    cases d with
    | cons a c =>
      refine ⟨_, _, rfl, setAllGo (ε := pv ε j (some (.d x))) all (fun i hi => hm i (by simp [hi])) (R.store (x := .d x) a j) c (by simpa using hl) fun σ' R' e => ?_⟩
      exact k σ' R' (e.trans (wipe_set (hm j (by simp))))
theorem tgGo {t : Tg} {x : D} {v : V} {σ : St} {ε : Ev} {k : Ev → Prop} {Q : St → Hp → Prop} (R : Rep K H0 F0 F H σ ε) (d : Dp K F v x) (w : tgW t x ε k)
    (kk : ∀ σ' ε', Rep K H0 F0 F H σ' ε' → wipe σ' (tgs t) = wipe σ (tgs t) → k ε' → Q σ' H) : gTg K t v σ H Q := by
  cases t with
  | one j => exact kk _ _ (R.store (x := .d x) d j) (wipe_set (by simp [tgs])) w
  | tup js =>
    cases x with
    | tuple xs =>
      obtain ⟨a, vs, rfl, r, da⟩ := dpTup d
      obtain ⟨hl, w⟩ := w
      exact ⟨a, vs, rfl, (sqtSub R.fh r), by rw [daLen da, hl], setAllGo js (fun _ h => h) R da hl fun σ' R' e => kk σ' _ R' e w⟩
    | _ => exact w.elim
theorem blind_d : ∀ {ε : Ev} {j : Nat} {y : Val}, gv (blind ε) j = some y → ∃ x, y = .d x ∧ gv ε j = some (.d x)
  | [], _, _, h => by cases h
  | c :: r, 0, y, h => by
    cases c with
    | none => cases h
    | some v =>
      cases v with
      | d x => exact ⟨x, (Option.some.inj h).symm, rfl⟩
      | _ => cases h
  | c :: r, j + 1, y, h => by
    cases c with
    | none => exact blind_d (ε := r) (j := j) h
    | some v =>
      cases v with
      | d x => exact blind_d (ε := r) (j := j) h
      | _ => exact blind_d (ε := r) (j := j) h
theorem blind_len : ∀ {ε : Ev}, (blind ε).length = ε.length
  | [] => rfl
  | c :: r => by
    cases c with
    | none => simp [blind, blind_len (ε := r)]
    | some v => cases v <;> simp [blind, blind_len (ε := r)]
theorem wipeE_gv {ε : Ev} : ∀ {js : List Nat} {j : Nat} {y : Val}, gv (wipeE ε js) j = some y → gv ε j = some y ∧ j ∉ js
  | [], _, _, h => ⟨h, by simp⟩
  | i :: js, j, y, h => by
    unfold wipeE at h
    rw [gv_pv] at h
    split at h
    · split at h <;> cases h
    · rename_i hne
      obtain ⟨g1, g2⟩ := wipeE_gv h
      exact ⟨g1, by simp [hne, g2]⟩
theorem wipeE_len {ε : Ev} : ∀ {js : List Nat}, (wipeE ε js).length = ε.length
  | [] => rfl
  | i :: js => by unfold wipeE; rw [pv_len, wipeE_len]
/-- where a comprehension's turn begins -/
theorem Rep.turn {σ : St} {ε : Ev} {js : List Nat} {F1 H' F2 : Hp} (R : Rep K H0 F0 F1 H σ ε) (s : Sub F1 F2) (g : Sub F2 H') : Rep K H' F2 F2 H' (wipe σ js) (wipeE (blind ε) js) where
  fh := g
  ff := .refl _
  h0 := .refl _
  fr := fun a o h => .inl h
  len := by rw [wipe_length, wipeE_len, blind_len]; exact R.len
  dat := fun j x h => by
    obtain ⟨g1, g2⟩ := wipeE_gv h
    obtain ⟨y, e, g3⟩ := blind_d g1
    cases e
    obtain ⟨v, e1, d1⟩ := R.dat j x g3
    exact ⟨v, by rw [wipe_get, if_neg g2]; exact e1, dpSub s d1⟩
  own := fun j xs h => by
    obtain ⟨g1, g2⟩ := wipeE_gv h
    obtain ⟨y, e, g3⟩ := blind_d g1
    cases e
  uni := fun i j xs ys p h => by
    obtain ⟨g1, g2⟩ := wipeE_gv h
    obtain ⟨y, e, g3⟩ := blind_d g1
    cases e
end
section
variable {fns : List FnI} {cls : List Str} {N : List Str} {C : Nat → Addr} {Φ : Fs} {k : Nat} {X : Cx} {b : Bd} {sc : Scope}
theorem Cok.blk (ok : Cok fns cls N C Φ k X sc b.W) (s : Shared) (H : Hp) (scope : Scope) (D : Addr) (cl : List (Str × Addr)) (fp : List Addr) :
    Cok fns cls N C Φ k (X.blk s H scope (compEnvC scope cl D X.env) fp) (relS scope sc) (fun _ _ _ _ => False) where
  room := ok.room
  seer := ok.seer
  tree := ok.tree
  top := ok.top
  nd := ok.nd
  eN := ok.eN
  esc := by rw [← ok.esc]; rfl
  calm := ok.calm
  tk := takes0
  blt := ok.blt
  exc := ok.exc
  xf := ok.xf
  ar := ok.ar
  gcon := ok.gcon
  callee := ok.callee
theorem cGo {cE : IE} {ε2 : Ev} {q : Bool → Ev → Prop} (w : if isNil cE = true then q true ε2 else wE Φ cE ε2 (fun _ _ => False) (kB q)) :
    (if isNil cE = true then kB q (.d (.bool true)) ε2 else wE Φ cE ε2 (fun _ _ => False) (kB q)) := w
/-- a comprehension's reading -/
theorem lcGo {K : PySem.W.Frag} {t : Tg} {itE cE eE : IE} {σ : St} {H : Hp} {Q : VK} (h : rdE K b (wE Φ (.lc t itE cE eE)) σ H Q) :
    tLc (rdI K b (wE Φ itE)) (gTg K t)
      (fun σ H q => ∃ H0 F0, rdT K ⟨b.C, fun _ _ _ _ => False, H0, F0⟩ (fun ε Xp r => if isNil cE = true then r (.d (.bool true)) ε else wE Φ cE ε Xp r) σ H q)
      (fun σ H q => ∃ H0 F0, rdD K ⟨b.C, fun _ _ _ _ => False, H0, F0⟩ (wE Φ eE) σ H q) (tgs t) σ H Q := by
  obtain ⟨ε, F, Xp, Qp, R, w, ex, kk⟩ := h
  refine ⟨ε, F, Xp, _, R, w, ex, fun ds ε1 H1 F1 J s1 f1 R1 J1 q1 D hD => ?_⟩
  refine ⟨fun i m H' => m = ds.length - i ∧ i ≤ ds.length ∧ ∃ F' acc vs, Sub F1 F' ∧ Same H1 H' ∧ Sub F' H' ∧ New F1 F' H1 ∧ H' D = some (.lst vs) ∧ DpAll K F' vs acc ∧ F' D = none ∧
    lcW t ε1 (fun ε2 k => if isNil cE = true then k true ε2 else wE Φ cE ε2 (fun _ _ => False) (kB k)) (fun ε2 k => wE Φ eE ε2 (fun _ _ => False) (kD k)) (ds.drop i) acc fun ys => Qp (.own ys) ε1,
    ⟨ds.length, by simp, Nat.zero_le _, F1, [], [], .refl _, same_upd hD, R1.fh.upd (R1.fh.none hD), .refl, upd_same, .nil, R1.fh.none hD, q1⟩, ?_⟩
  rintro i m H' ⟨rfl, hi, F', acc, vs, a1, a2, a3, a4, a5, a6, a7, wl⟩
  by_cases hlt : i < ds.length
  · refine .inr ⟨J1.go i H' hlt (a1.trans a3), fun H'' => ∃ F'' acc vs, Sub F1 F'' ∧ Same H1 H'' ∧ Sub F'' H'' ∧ New F1 F'' H1 ∧ H'' D = some (.lst vs) ∧ DpAll K F'' vs acc ∧ F'' D = none ∧
      lcW t ε1 (fun ε2 k => if isNil cE = true then k true ε2 else wE Φ cE ε2 (fun _ _ => False) (kB k)) (fun ε2 k => wE Φ eE ε2 (fun _ _ => False) (kD k)) (ds.drop (i + 1)) acc fun ys => Qp (.own ys) ε1,
      fun H'' q => ⟨ds.length - (i + 1), by omega, rfl, hlt, q⟩, fun x H2 y => ?_⟩
    obtain ⟨b1, F2, d, b2, b3, b4, b5, b6⟩ := J1.yld i H' x H2 F' hlt a1 a3 y
    have ed : ds.drop i = d :: ds.drop (i + 1) := by
      rw [List.drop_eq_getElem_cons hlt]
      have : ds[i] = d := by
        rw [List.getElem?_eq_getElem hlt] at b5
        exact Option.some.inj b5
      rw [this]
    rw [ed] at wl
    have c0 : H2 D = some (.lst vs) := b1 _ _ a5
    have R2 : Rep K H2 F2 F2 H2 (wipe σ (tgs t)) (wipeE (blind ε1) (tgs t)) := R1.turn (a1.trans b2) b3
    have nF : ∀ {F4 : Hp}, New F2 F4 H2 → F4 D = none ∧ New F1 F4 H1 := fun {F4} n4 => by
      have n2 : F2 D = none := by
        cases z : F2 D with
        | none => rfl
        | some u =>
          rcases b4 D u z with q | q
          · rw [a7] at q; cases q
          · rw [a5] at q; cases q
      refine ⟨?_, fun a o h => ?_⟩
      · cases z : F4 D with
        | none => rfl
        | some u =>
          rcases n4 D u z with q | q
          · rw [n2] at q; cases q
          · rw [c0] at q; cases q
      · rcases n4 a o h with q | q
        · rcases b4 a o q with q | q
          · exact a4 a o q
          · exact .inr (Same.free a2 q)
        · exact .inr (Same.free (a2.trans b1) q)
    refine tgGo R2 b6 wl fun σ2 ε2 R3 ew w2 => ⟨by rw [ew, wipe_wipe], ?_⟩
    refine ⟨H2, F2, ε2, F2, fun _ _ => False, _, R3, cGo w2, (fun _ _ _ _ _ _ z => z.elim), fun c ε3 H3 F3 s3 f3 R4 q3 => ?_⟩
    · cases c with
      | false =>
        rw [if_neg Bool.false_ne_true] at q3 ⊢
        obtain ⟨n1, n2⟩ := nF (fun a o h => R4.fr a o h)
        exact ⟨F3, acc, vs, (a1.trans b2).trans f3, (a2.trans b1).trans s3, R4.fh, n2, s3 _ _ c0, daSub (b2.trans f3) a6, n1, q3⟩
      | true =>
        rw [if_pos rfl] at q3 ⊢
        refine ⟨H2, F2, ε3, F3, fun _ _ => False, _, R4, q3, (fun _ _ _ _ _ _ z => z.elim), fun z ε4 H4 F4 v s4 f4 R5 d5 q5 => ?_⟩
        obtain ⟨n1, n2⟩ := nF (fun a o h => R5.fr a o h)
        have c4 : H4 D = some (.lst vs) := s4 _ _ (s3 _ _ c0)
        have da : DpAll K F4 vs acc := daSub ((b2.trans f3).trans f4) a6
        refine ⟨vs, c4, by rw [line24, daLen da]; exact q5.1, F4, acc ++ [z], vs ++ [v], ((a1.trans b2).trans f3).trans f4, fun a o h => ?_, R5.fh.upd n1, n2, upd_same, daApp da (.cons d5 .nil), n1, q5.2⟩
        rw [upd_ne (ne_of_none h hD)]
        exact s4 _ _ (s3 _ _ (b1 _ _ (a2 _ _ h)))
  · have e : i = ds.length := by omega
    subst e
    refine .inl ⟨J1.stop H' (a1.trans a3), ?_⟩
    rw [List.drop_length] at wl
    exact kk (.own acc) ε1 H' F' (.ref D) (s1.trans a2) (f1.trans a1) (R1.grow a2 a1 a3 a4) ⟨D, vs, rfl, a5, a6, a7, R1.h0.none hD, R1.offNew hD⟩ wl
end
end Rc

/-! More expressions: in, chains, count, displays of texts asked at once, reversed ranges. -/
namespace Rc
open PySem PySem.Spec PyProof.Rows L2
theorem flat_dp {K : PySem.W.Frag} {F : Hp} {v : V} {d : D} (h : Dp K F v d) (f : flatD d = true) : flatV v = true := by
  cases h <;> first | rfl | exact absurd f Bool.false_ne_true
theorem eqV_dp {K : PySem.W.Frag} {F : Hp} {y x : V} {d e : D} (hy : Dp K F y d) (hx : Dp K F x e) (fd : flatD d = true) (fe : flatD e = true) : eqV y x = PyData.eqv d e := by
  cases hy <;> first
    | exact absurd fd Bool.false_ne_true
    | (cases hx <;> first | exact absurd fe Bool.false_ne_true | rfl)
theorem inV_da {K : PySem.W.Frag} {F : Hp} {x : V} {e : D} (hx : Dp K F x e) (fe : flatD e = true) : ∀ {vs : List V} {ds : List D}, DpAll K F vs ds → ds.all flatD = true → vs.all flatV = true ∧ inV x vs = ds.any fun z => PyData.eqv z e
  | _, _, .nil, _ => ⟨rfl, rfl⟩
  | _, _, .cons (v := v) (d := d) a b, h => by
    rw [List.all_cons, Bool.and_eq_true] at h
    obtain ⟨h1, h2⟩ := inV_da hx fe b h.2
    unfold inV at h2 ⊢
    rw [List.all_cons, flat_dp a h.1, h1, List.any_cons, List.any_cons, eqV_dp a hx h.1 fe, h2]
    exact ⟨rfl, rfl⟩
def rInW (K : PySem.W.Frag) (neg : Bool) : R2 := fun x y H Q => ∃ d e Qv, Dp K H x d ∧ Dp K H y e ∧ inW d e Qv ∧ ∀ c, Qv c → Q (.bl (if neg = true then !c else c)) H
theorem opIn {X : Cx} (hu : X.A.units + 65 < cLine) (neg : Bool) : OpR X (compareOp (if neg = true then .NotIn else .In)) (rInW X.K neg) := by
  intro pins s σ H x y v u Q I rx ry ⟨d, e, Qv, hx, hy, w, k⟩
  cases e with
  | list ys =>
    have w' : SeqAt.shaped d = true ∧ SeqAt.shaped (.list ys) = true ∧ Qv (ys.any fun z => PyData.eqv z d) := by
      cases d <;> exact w
    cases neg with
    | true => exact op_notInD hu pins s σ H x y v u Q I rx ry ⟨d, ys, dpOut hx, dpOut hy, w'.1, w'.2.1, k _ w'.2.2⟩
    | false => exact op_inD hu pins s σ H x y v u Q I rx ry ⟨d, ys, dpOut hx, dpOut hy, w'.1, w'.2.1, k _ w'.2.2⟩
  | tuple ys =>
    have w' : flatD d = true ∧ ys.all flatD = true ∧ Qv (ys.any fun z => PyData.eqv z d) := by
      cases d <;> exact w
    obtain ⟨a, vs, rfl, r, da⟩ := dpTup hy
    obtain ⟨h1, h2⟩ := inV_da hx w'.1 da w'.2.1
    cases neg with
    | true => exact op_notIn_seq pins s σ H x _ v u Q I rx ry ⟨a, vs, rfl, .inr r, flat_dp hx w'.1, h1, by rw [if_pos rfl, h2]; exact k _ w'.2.2⟩
    | false => exact op_in_seq pins s σ H x _ v u Q I rx ry ⟨a, vs, rfl, .inr r, flat_dp hx w'.1, h1, by rw [if_neg Bool.false_ne_true, h2]; exact k _ w'.2.2⟩
  | str j =>
    cases d with
    | str i =>
      cases dpStr hx; cases dpStr hy
      cases neg with
      | true => exact op_notin_str pins s σ H _ _ v u Q I rx ry ⟨i, j, rfl, rfl, k _ w⟩
      | false => exact op_in_str pins s σ H _ _ v u Q I rx ry ⟨i, j, rfl, rfl, k _ w⟩
    | _ => exact w.elim
  | _ => cases d <;> exact w.elim
section
variable {fns : List FnI} {cls : List Str} {N : List Str} {C : Nat → Addr} {Φ : Fs} {k : Nat} {X : Cx} {b : Bd} {sc : Scope}
theorem noBehind {op : CmpOp} {r : Expr} (h : noSet r = true) : behindInMarks op r = false := by
  cases r <;> first | rfl | exact absurd h Bool.false_ne_true
theorem eInn (ok : Cok fns cls N C Φ k X sc b.W) {neg : Bool} {i j : IE} {l r : Expr} {p : Pos} (hs : noSet r = true) (h1 : PE X l (rdP X.K b (fun ε Xp q => pkW i ε (fun T => wE Φ i ε Xp T) q))) (h2 : PE X r (rdP X.K b (fun ε Xp q => pkW j ε (fun T => wE Φ j ε Xp T) q))) :
    PE X (.Compare l [if neg = true then .NotIn else .In] [r] p) (rdE X.K b (wE Φ (.inn neg i j))) ∧ PT X (.Compare l [if neg = true then .NotIn else .In] [r] p) (rdT X.K b (wE Φ (.inn neg i j))) := by
  have hu : X.A.units + 65 < cLine := by have := ok.room.un; omega
  refine ⟨peImp (pe_cmpR (opIn hu neg) h1 h2 (noBehind hs)) fun σ H Q ⟨ε, F, Xp, Qp, R, w, ex, kk⟩ => ?_,
    ptImp (pt_cmpR (opIn hu neg) h1 h2 (noBehind hs)) fun σ H Q ⟨ε, F, Xp, Qp, R, w, ex, kk⟩ => ?_⟩
  · exact ⟨ε, F, Xp, _, R, w, ex, fun d ε1 H1 F1 x s1 f1 R1 d1 q1 => ⟨ε1, F1, Xp, _, R1, q1, ex.mono s1, fun e ε2 H2 F2 y s2 f2 R2 d2 q2 =>
      ⟨d, e, _, (PAt.mono f2 s2 d1).dp R2.fh, d2.dp R2.fh, q2, fun c q => kk (.d (.bool _)) ε2 H2 F2 _ (s1.trans s2) (f1.trans f2) R2 (Dp.bl _) q⟩⟩⟩
  · exact ⟨ε, F, Xp, _, R, w, ex, fun d ε1 H1 F1 x s1 f1 R1 d1 q1 => ⟨ε1, F1, Xp, _, R1, q1, ex.mono s1, fun e ε2 H2 F2 y s2 f2 R2 d2 q2 =>
      ⟨d, e, _, (PAt.mono f2 s2 d1).dp R2.fh, d2.dp R2.fh, q2, fun c q => ⟨_, rfl, kk _ ε2 H2 F2 (s1.trans s2) (f1.trans f2) R2 q⟩⟩⟩⟩
theorem lastMk {o o' : CmpOp} {m r : Expr} (h1 : o' ≠ .In) (h2 : o' ≠ .NotIn) : lastMarks [o, o'] [m, r] = false := nomark _ h1 h2
theorem eCmp2 (ok : Cok fns cls N C Φ k X sc b.W) {o o' : CmpOp} {i j l : IE} {x y z : Expr} {p : Pos} (n1 : o' ≠ .In) (n2 : o' ≠ .NotIn) (h1 : PE X x (rdE X.K b (wE Φ i))) (h2 : PE X y (rdE X.K b (wE Φ j))) (h3 : PE X z (rdE X.K b (wE Φ l))) :
    PE X (.Compare x [o, o'] [y, z] p) (rdE X.K b (wE Φ (.cmp2 o o' i j l))) ∧ PT X (.Compare x [o, o'] [y, z] p) (rdT X.K b (wE Φ (.cmp2 o o' i j l))) := by
  refine ⟨peImp (pe_chain (opCmp ok.room.units o) (opCmp ok.room.units o') (peD h1) (peD h2) (peD h3) (lastMk n1 n2)) fun σ H Q ⟨ε, F, Xp, Qp, R, w, ex, kk⟩ => ?_,
    ptImp (pt_chain (opCmp ok.room.units o) (opCmp ok.room.units o') (peD h1) (peD h2) (peD h3) (lastMk n1 n2)) fun σ H Q ⟨ε, F, Xp, Qp, R, w, ex, kk⟩ => ?_⟩
  · refine ⟨ε, F, Xp, _, R, w, ex, fun d ε1 H1 F1 x s1 f1 R1 d1 q1 => ⟨ε1, F1, Xp, _, R1, q1, ex.mono s1, fun e ε2 H2 F2 y s2 f2 R2 d2 q2 => ⟨d, e, _, dpSub R2.fh (dpSub f2 d1), dpSub R2.fh d2, q2, fun c q3 => ⟨c, rfl, ?_⟩⟩⟩⟩
    cases c with
    | false => exact kk (.d (.bool false)) ε2 H2 F2 _ (s1.trans s2) (f1.trans f2) R2 (Dp.bl _) q3
    | true => exact ⟨ε2, F2, Xp, _, R2, q3, (ex.mono s1).mono s2, fun f ε3 H3 F3 u s3 f3 R3 d3 q4 => ⟨e, f, _, dpSub R3.fh (dpSub f3 d2), dpSub R3.fh d3, q4, fun c q =>
        kk (.d (.bool c)) ε3 H3 F3 _ ((s1.trans s2).trans s3) ((f1.trans f2).trans f3) R3 (Dp.bl _) q⟩⟩
  · refine ⟨ε, F, Xp, _, R, w, ex, fun d ε1 H1 F1 x s1 f1 R1 d1 q1 => ⟨ε1, F1, Xp, _, R1, q1, ex.mono s1, fun e ε2 H2 F2 y s2 f2 R2 d2 q2 => ⟨d, e, _, dpSub R2.fh (dpSub f2 d1), dpSub R2.fh d2, q2, fun c q3 => ⟨c, rfl, ?_⟩⟩⟩⟩
    cases c with
    | false => exact ⟨_, rfl, kk false ε2 H2 F2 (s1.trans s2) (f1.trans f2) R2 q3⟩
    | true => exact ⟨ε2, F2, Xp, _, R2, q3, (ex.mono s1).mono s2, fun f ε3 H3 F3 u s3 f3 R3 d3 q4 => ⟨e, f, _, dpSub R3.fh (dpSub f3 d2), dpSub R3.fh d3, q4, fun c q =>
        ⟨_, rfl, kk c ε3 H3 F3 ((s1.trans s2).trans s3) ((f1.trans f2).trans f3) R3 q⟩⟩⟩
theorem attrBase {o : Expr} (h : noAttr o = true) {name : Str} {env : Env} : attributeBase o name env (eval o env) = eval o env := by
  cases o <;> first | rfl | exact absurd h Bool.false_ne_true
theorem eCnt {i j : IE} {o e : Expr} {p q : Pos} (h0 : noAttr o = true) (hl : (q.endLine == p.line) = true) (he : plainE e = true) (h1 : PE X o (rdP X.K b (fun ε Xp q => pkW i ε (fun T => wE Φ i ε Xp T) q))) (h2 : PE X e (rdE X.K b (wE Φ j))) :
    PE X (.Call (.Attribute o "count" q) [e] [] p) (rdE X.K b (wE Φ (.cnt i j))) := by
  refine peImp (pe_bm (apos := q) (cpos := p) PySem.F.plainAttrs_list PySem.F.slot_list_count PySem.F.type_list_count mt_lcount h1 (pa_cons (peD h2) pa_nil (starOf he)) (attrBase h0) (by rw [starOf he]; rfl) hl (starOf he) rfl) fun σ H Q ⟨ε, F, Xp, Qp, R, w, ex, kk⟩ => ?_
  refine ⟨ε, F, Xp, _, R, w, ex, fun d ε1 H1 F1 x s1 f1 R1 d1 q1 => ?_⟩
  obtain ⟨tl, q1⟩ := q1
  have ty : tyV X.K "list" x H1 := by
    rcases d1 with d1 | ⟨r, vs, ys, rfl, rfl, h3, h4⟩
    · cases d with
      | list xs =>
        obtain ⟨a, vs, rfl, r1, a1⟩ := dpLst d1
        exact .inl ⟨rfl, vs, sqlSub R1.fh r1⟩
      | _ => cases tl
    · exact .inl ⟨rfl, vs, .inl (.inl h3)⟩
  refine ⟨ty, ε1, F1, Xp, _, R1, q1, ex.mono s1, fun e ε2 H2 F2 y s2 f2 R2 d2 q2 => ?_⟩
  have d3 := PAt.mono f2 s2 d1
  cases d with
  | list xs =>
    cases e with
    | int n =>
      obtain ⟨ns, hn, q3⟩ := q2
      cases dpInt d2
      have fin : Q (.int (ns.count n : Nat)) H2 := kk (.d (.int _)) ε2 H2 F2 _ (s1.trans s2) (f1.trans f2) R2 (Dp.int _) q3
      rcases d3 with d3 | ⟨r, vs, ys, rfl, e2, h3, h4⟩
      · obtain ⟨a, vs, rfl, r1, a1⟩ := dpLst d3
        have := asInts_of a1 hn
        subst this
        exact ⟨a, ns, n, rfl, rfl, sqlSub R2.fh r1, fin⟩
      · cases e2
        have := asInts_of h4 hn
        subst this
        exact ⟨r, ns, n, rfl, rfl, .inl (.inl h3), fin⟩
    | _ => exact q2.elim
  | _ => exact q2.elim
def cV : D → V
  | .bool b => .bl b
  | .int i => .int i
  | .str x => .str x
  | _ => .non
theorem cV_dp {K : PySem.W.Frag} {F : Hp} {d : D} {e : Expr} (h : litE d e = true) : Dp K F (cV d) d := by
  cases d with
  | none => exact .non
  | bool _ => exact .bl _
  | int _ => exact .int _
  | str _ => exact .str _
  | _ =>
    exfalso
    unfold litE at h
    split at h
    · rename_i c _ _
      cases c <;> exact absurd h Bool.false_ne_true
    · exact absurd h Bool.false_ne_true
    · exact absurd h Bool.false_ne_true
theorem pe_lit {d : D} {e : Expr} (h : litE d e = true) : PE X e (tC (cV d)) := by
  cases e with
  | Constant q n p =>
    cases d with
    | none => cases q <;> first | exact pe_non | exact absurd h Bool.false_ne_true
    | bool x =>
      cases q with
      | bool y => cases (beq_iff_eq.mp (show (x == y) = true from h)); exact pe_bl
      | _ => exact absurd h Bool.false_ne_true
    | int x =>
      cases q with
      | int y => cases (beq_iff_eq.mp (show (x == y) = true from h)); exact pe_int
      | _ => exact absurd h Bool.false_ne_true
    | str x =>
      cases q with
      | str y => cases (of_decide_eq_true (show decide (x = y) = true from h)); exact pe_str
      | _ => exact absurd h Bool.false_ne_true
    | _ => exact absurd h Bool.false_ne_true
  | UnaryOp o a p =>
    cases d with
    | int x =>
      cases o with
      | USub =>
        cases a with
        | Constant q n p2 =>
          cases q with
          | int y =>
            cases (of_decide_eq_true (show decide (x = -y) = true from h))
            exact peImp (pe_un un_neg pe_int) fun σ H Q q => ⟨y, rfl, q⟩
          | _ => exact absurd h Bool.false_ne_true
        | _ => exact absurd h Bool.false_ne_true
      | _ => exact absurd h Bool.false_ne_true
    | _ =>
      exfalso
      unfold litE at h
      split at h
      · rename_i he
        cases he
      · exact absurd h Bool.false_ne_true
      · exact absurd h Bool.false_ne_true
  | _ => exact absurd h Bool.false_ne_true
/-- a display's readings -/
def dTrs (kvs : List (Str × D)) : List (TE × TE) := kvs.map fun p => (tC (.str p.1), tC (cV p.2))
def dKvs (kvs : List (Str × D)) : List (Key × V) := kvs.map fun p => (.inr p.1, cV p.2)
theorem pps_lit {pos : Pos} : ∀ {kvs : List (Str × D)} {ks : List (Option Expr)} {vs : List Expr}, dspB kvs ks vs = true → PPs X pos ks vs (dTrs kvs) ∧ ks.all (·.isSome) = true ∧ ks.length = kvs.length ∧ vs.length = kvs.length
  | [], [], [], _ => ⟨pps_nil, rfl, rfl, rfl⟩
  | [], [], _ :: _, h => absurd h Bool.false_ne_true
  | [], _ :: _, _, h => absurd h Bool.false_ne_true
  | (x, d) :: r, [], _, h => absurd h Bool.false_ne_true
  | (x, d) :: r, none :: _, _, h => absurd h Bool.false_ne_true
  | (x, d) :: r, some k :: ks, [], h => by cases k <;> first | exact absurd h Bool.false_ne_true | (rename_i c _ _; cases c <;> exact absurd h Bool.false_ne_true)
  | (x, d) :: r, some k :: ks, v :: vs, h => by
    cases k with
    | Constant c n p =>
      cases c with
      | str y =>
        have h' : (decide (x = y) && litE d v && dspB r ks vs) = true := h
        simp only [Bool.and_eq_true, decide_eq_true_eq] at h'
        obtain ⟨⟨rfl, h2⟩, h3⟩ := h'
        obtain ⟨q1, q2, q3, q4⟩ := pps_lit (pos := pos) h3
        exact ⟨pps_cons pe_str (pe_lit h2) q1, by rw [List.all_cons, q2]; rfl, by simp [q3], by simp [q4]⟩
      | _ => exact absurd h Bool.false_ne_true
    | _ => exact absurd h Bool.false_ne_true
theorem tPairs_lit {σ : St} : ∀ (kvs : List (Str × D)) (H : Hp) (Q : List (V × V) → Hp → Prop), Q ((dKvs kvs).map fun kv => (L2.kV kv.1, kv.2)) H → tPairs (dTrs kvs) σ H Q
  | [], _, _, q => q
  | (x, d) :: r, H, Q, q => tPairs_lit r H (fun ps H3 => Q ((.str x, cV d) :: ps) H3) q
theorem merge_get {s : Str} : ∀ (more : List (Str × D)) (acc : List (Key × V)), ndB (more.map (·.1)) = true → valV (mergeK acc (dKvs more)) (.inr s) = match dspGet s more with
    | some d => some (cV d)
    | none => valV acc (.inr s)
  | [], acc, _ => rfl
  | (x, d) :: r, acc, h => by
    have h' : (!((r.map (·.1)).any fun y => decide (y = x)) && ndB (r.map (·.1))) = true := h
    rw [Bool.and_eq_true] at h'
    show valV (mergeK (putK acc (.inr x) (cV d)) (dKvs r)) (.inr s) = _
    rw [merge_get r _ h'.2, valV_put]
    rw [show dspGet s ((x, d) :: r) = if x = s then some d else dspGet s r from rfl]
    by_cases e : x = s
    · subst e
      rw [if_pos rfl, if_pos rfl]
      have : dspGet x r = none := by
        have h1 := h'.1
        clear h h' 
        induction r with
        | nil => rfl
        | cons p t ih =>
          rw [List.map_cons, List.any_cons, Bool.not_eq_true', Bool.or_eq_false_iff] at h1
          rw [show dspGet x (p :: t) = if p.1 = x then some p.2 else dspGet x t from rfl, if_neg (of_decide_eq_false h1.1)]
          exact ih (by rw [h1.2]; rfl)
      rw [this]
    · rw [if_neg e, if_neg (fun z => e (Sum.inr.inj z).symm)]
theorem noSl {e : Expr} (h : plainE e = true) : NoSl e := by
  cases e <;> first | exact fun _ _ => rfl | exact absurd h Bool.false_ne_true
theorem dspGet_mem {s : Str} {d : D} : ∀ {kvs : List (Str × D)}, dspGet s kvs = some d → ∃ x, (x, d) ∈ kvs
  | [], h => by cases h
  | (x, c) :: r, h => by
    unfold dspGet at h
    split at h
    · cases h; exact ⟨x, List.mem_cons_self ..⟩
    · obtain ⟨y, hy⟩ := dspGet_mem h
      exact ⟨y, List.mem_cons_of_mem _ hy⟩
theorem dsp_lit : ∀ {kvs : List (Str × D)} {ks : List (Option Expr)} {vs : List Expr}, dspB kvs ks vs = true → ∀ p ∈ kvs, ∃ e, litE p.2 e = true
  | [], _, _, _, p, hp => by cases hp
  | (x, d) :: r, [], _, h, _, _ => absurd h Bool.false_ne_true
  | (x, d) :: r, none :: _, _, h, _, _ => absurd h Bool.false_ne_true
  | (x, d) :: r, some k :: ks, [], h, _, _ => by cases k <;> first | exact absurd h Bool.false_ne_true | (rename_i c _ _; cases c <;> exact absurd h Bool.false_ne_true)
  | (x, d) :: r, some k :: ks, v :: vs, h, p, hp => by
    cases k with
    | Constant c n q =>
      cases c with
      | str y =>
        have h' : (decide (x = y) && litE d v && dspB r ks vs) = true := h
        simp only [Bool.and_eq_true, decide_eq_true_eq] at h'
        rcases List.mem_cons.mp hp with rfl | hp
        · exact ⟨v, h'.1.2⟩
        · exact dsp_lit h'.2 p hp
      | _ => exact absurd h Bool.false_ne_true
    | _ => exact absurd h Bool.false_ne_true
theorem eDsp (ok : Cok fns cls N C Φ k X sc b.W) {kvs : List (Str × D)} {i : IE} {ks : List (Option Expr)} {vs : List Expr} {e : Expr} {p p2 : Pos} (h1 : dspB kvs ks vs = true) (h2 : ndB (kvs.map (·.1)) = true) (h3 : kvs.length ≤ 15) (h4 : kvs ≠ []) (h5 : plainE e = true)
    (he : PE X e (rdE X.K b (wE Φ i))) : PE X (.Subscript (.Dict ks vs p2) e p) (rdE X.K b (wE Φ (.dsp kvs i))) := by
  obtain ⟨q1, q2, q3, q4⟩ := pps_lit (X := X) (pos := p2) h1
  have n0 : ks ≠ [] := fun z => by
    rw [z] at q3
    exact h4 (List.length_eq_zero_iff.mp q3.symm)
  have hu : X.A.units + 1 < cLine := by have := ok.room.un; omega
  refine peImp (pe_dget hu (pe_disp q1 q2 (by rw [q3, q4]) n0 (by omega)) (peD he) (noSl h5)) fun σ H Q ⟨ε, F, Xp, Qp, R, w, ex, kk⟩ p hp => ?_
  refine tPairs_lit kvs _ _ ⟨upd_same, dKvs kvs, rfl, by unfold dKvs; rw [List.length_map]; exact h3, ?_⟩
  rw [upd_upd]
  have sm : Same H (upd H p (.dK (mergeK [] (dKvs kvs)))) := same_upd hp
  refine ⟨ε, F, Xp, _, R.lst _ hp, w, ex.mono sm, fun d ε1 H1 F1 y s1 f1 R1 d1 q => ?_⟩
  cases d with
  | str s =>
    obtain ⟨v, g1, g2⟩ := q
    cases dpStr d1
    obtain ⟨x, hx⟩ := dspGet_mem g1
    obtain ⟨e', he'⟩ := dsp_lit h1 _ hx
    refine ⟨p, cV v, rfl, .inl ⟨mergeK [] (dKvs kvs), .inr s, .inl (s1 _ _ upd_same), rfl, ?_⟩, kk (.d v) ε1 H1 F1 _ (sm.trans s1) f1 R1 (cV_dp he') g2⟩
    rw [merge_get kvs [] h2, g1]
  | _ => exact q.elim
theorem rng_rev (n : Nat) : ((List.range n).map fun (i : Nat) => PyData.int i).reverse = (List.range n).map fun (i : Nat) => PyData.int ((0 + (((n : Nat) : Int)) - 1) + i * (-1)) := by
  rw [← List.map_reverse, revRange, List.map_map]
  refine List.map_congr_left fun i hi => ?_
  have := List.mem_range.mp hi
  show PyData.int ((n - 1 - i : Nat) : Int) = _
  congr 1
  omega
theorem iRvrGo (ok : Cok fns cls N C Φ k X sc b.W) {i : IE} {tg e : Expr} {x y : Str} {p pos p2 pos2 : Pos} (h : PE X e (rdE X.K b (wE Φ i))) (hx : x = "reversed") (hg : glB sc x = true) (hy : y = "range") (hgy : glB sc y = true) (he : plainE e = true) :
    PI X tg (.Call (.Name x p) [.Call (.Name y p2) [e] [] pos2] [] pos) (rdI X.K b (wE Φ (.rvr i))) := by
  subst hx hy
  refine piImp (pi_revR (glB_of ok hg) (ok.blt _ (by decide)) (prg_1 (glB_of ok hgy) (ok.blt _ (by decide)) (peD h) (starOf he)) rfl) fun σ H R ⟨ε, F, Xp, Qp, RR, w, ex, kk⟩ => ?_
  refine ⟨ε, F, Xp, _, RR, w, ex, fun d ε1 H1 F1 v s1 f1 R1 d1 q1 => ?_⟩
  cases d with
  | int n =>
    cases dpInt d1
    refine ⟨n, rfl, by decide, by decide, q1.1.2, q1.1.1, kk _ ε1 H1 F1 _ s1 f1 R1 ?_ q1.2⟩
    rw [rng_rev, show (n - 0).toNat = n.toNat by rw [Int.sub_zero]]
    exact itRng (K := X.K) (F1 := F1) (lo := 0 + ((n.toNat : Nat) : Int) - 1) (c := -1) (n := n.toNat)
  | _ => exact q1.elim
theorem eGc (ok : Cok fns cls N C Φ k X sc b.W) {f : Nat} {d : D} {x : Str} {p : Pos} (h : (gcB fns f x d && glB sc x && !(x == ("__debug__" : Str))) = true) : PE X (.Name x p) (rdE X.K b (wE Φ (.gc f d))) := by
  simp only [Bool.and_eq_true, Bool.not_eq_true'] at h
  obtain ⟨⟨h1, h2⟩, h3⟩ := h
  unfold gcB at h1
  split at h1
  · rename_i fi e
    rw [Bool.and_eq_true] at h1
    obtain ⟨e1, e2⟩ := h1
    have e1 := of_decide_eq_true e1
    subst e1
    cases ec : fi.con with
    | none => rw [ec] at e2; cases e2
    | some g =>
      rw [ec] at e2
      have := sameD_eq e2
      subst this
      obtain ⟨u, v, hm, r, dp⟩ := ok.gcon f fi d e ec
      exact peImp (pe_glob (glB_of ok h2) hm r h3) fun σ H Q ⟨ε, F, Xp, Qp, R, w, ex, kk⟩ => kk (.d d) ε H F v (.refl H) (.refl F) R (dp F) w
  · cases h1
/-! zip -/
theorem zips_len : ∀ ds es : List D, (zips ds es).length = min ds.length es.length
  | [], es => by
    cases es <;> simp [zips]
  | _ :: _, [] => by simp [zips]
  | d :: r, e :: t => by
    show (zips r t).length + 1 = _
    rw [zips_len r t]
    simp only [List.length_cons]
    omega
theorem zips_get : ∀ (ds es : List D) (i : Nat) {x y : D}, ds[i]? = some x → es[i]? = some y → (zips ds es)[i]? = some (.tuple [x, y])
  | [], _, _, _, _, h, _ => by simp at h
  | _ :: _, [], _, _, _, _, h => by simp at h
  | d :: r, e :: t, 0, x, y, h, g => by
    simp at h g
    subst h g
    rfl
  | d :: r, e :: t, i + 1, x, y, h, g => zips_get r t i (by simpa using h) (by simpa using g)
theorem newPair2 {K : PySem.W.Frag} {F H : Hp} {T : Addr} {y x : V} {w z : D} (s2 : Sub F H) (hT : H T = none) (g : Dp K F y w) (h : Dp K F x z) :
    Same H (upd H T (.tup [y, x])) ∧ ∃ F', Sub F F' ∧ Sub F' (upd H T (.tup [y, x])) ∧ New F F' H ∧ Dp K F' (.ref T) (.tuple [w, z]) := by
  have sb : Sub F (upd F T (.tup [y, x])) := sub_updF (s2.none hT)
  exact ⟨same_upd hT, upd F T _, sb, s2.upd2, .add hT, Dp.tup (.inl (.inl upd_same)) (.cons (dpSub sb g) (.cons (dpSub sb h) .nil))⟩
theorem itZip {K : PySem.W.Frag} {F1 : Hp} {a c : Addr} {vs ws : List V} {ds es : List D} (r : SqL K F1 a vs) (d : DpAll K F1 vs ds) (r2 : SqL K F1 c ws) (e : DpAll K F1 ws es) : ItOk K (Itz K a c) F1 (zips ds es) where
  go := fun i H hi s => by
    rw [zips_len, ← daLen d, ← daLen e] at hi
    have h1 : i < vs.length := by omega
    have h2 : i < ws.length := by omega
    exact ⟨vs, ws, vs[i], ws[i], sqlSub s r, sqlSub s r2, List.getElem?_eq_getElem h1, List.getElem?_eq_getElem h2⟩
  stop := fun H s => ⟨vs, ws, sqlSub s r, sqlSub s r2, by rw [zips_len, daLen d, daLen e]; omega⟩
  yld := fun i H x H' F hi s1 s2 y => by
    obtain ⟨T, u, v, rfl, hT, rfl, y1, y2⟩ := y
    obtain ⟨z, g1, g2⟩ := daGet d (y1 vs (sqlSub (s1.trans s2) r))
    obtain ⟨z2, g3, g4⟩ := daGet e (y2 ws (sqlSub (s1.trans s2) r2))
    obtain ⟨p1, F', p2, p3, p4, p5⟩ := newPair2 s2 hT (dpSub s1 g2) (dpSub s1 g4)
    exact ⟨p1, F', _, p2, p3, p4, zips_get _ _ _ g1 g3, p5⟩
theorem itZipT {K : PySem.W.Frag} {F1 : Hp} {a c : Addr} {vs ws : List V} {ds es : List D} (r : SqT K F1 a vs) (d : DpAll K F1 vs ds) (r2 : SqT K F1 c ws) (e : DpAll K F1 ws es) : ItOk K (RZ.ItzT K a c) F1 (zips ds es) where
  go := fun i H hi s => by
    rw [zips_len, ← daLen d, ← daLen e] at hi
    have h1 : i < vs.length := by omega
    have h2 : i < ws.length := by omega
    exact ⟨vs, ws, vs[i], ws[i], sqtSub s r, sqtSub s r2, List.getElem?_eq_getElem h1, List.getElem?_eq_getElem h2⟩
  stop := fun H s => ⟨vs, ws, sqtSub s r, sqtSub s r2, by rw [zips_len, daLen d, daLen e]; omega⟩
  yld := fun i H x H' F hi s1 s2 y => by
    obtain ⟨T, u, v, rfl, hT, rfl, y1, y2⟩ := y
    obtain ⟨z, g1, g2⟩ := daGet d (y1 vs (sqtSub (s1.trans s2) r))
    obtain ⟨z2, g3, g4⟩ := daGet e (y2 ws (sqtSub (s1.trans s2) r2))
    obtain ⟨p1, F', p2, p3, p4, p5⟩ := newPair2 s2 hT (dpSub s1 g2) (dpSub s1 g4)
    exact ⟨p1, F', _, p2, p3, p4, zips_get _ _ _ g1 g3, p5⟩
theorem iZipGo (ok : Cok fns cls N C Φ k X sc b.W) {i j : IE} {tg e f : Expr} {x : Str} {p pos : Pos} (h : PE X e (rdE X.K b (wE Φ i))) (h2 : PE X f (rdE X.K b (wE Φ j))) (hx : x = "zip") (hg : glB sc x = true) (he : plainE e = true) (hf : plainE f = true) (ht : isTup tg = true) :
    PI X tg (.Call (.Name x p) [e, f] [] pos) (rdI X.K b (wE Φ (.zip i j))) := by
  subst hx
  cases tg with
  | Tuple es n q =>
    have z := starOf (es := [f]) (env := X.env) he
    have z2 := starOf (es := []) (env := X.env) hf
    refine piImp (RZ.pi_zipA (glB_of ok hg) (ok.blt _ (by decide)) (pa_cons (peD h) (pa_cons (peD h2) pa_nil z2) z) z (by rw [z2]; rfl)) fun σ H R ⟨ε, F, Xp, Qp, RR, w, ex, kk⟩ => ?_
    refine ⟨ε, F, Xp, _, RR, w, ex, fun d ε1 H1 F1 v s1 f1 R1 d1 q1 => ⟨ε1, F1, Xp, _, R1, q1, ex.mono s1, fun e ε2 H2 F2 u s2 f2 R2 d2 q2 => ?_⟩⟩
    cases d with
    | list xs =>
      cases e with
      | list ys =>
        obtain ⟨a, vs, rfl, r1, a1⟩ := dpLst (dpSub f2 d1)
        obtain ⟨c, ws, rfl, r2, a2⟩ := dpLst d2
        exact ⟨a, c, vs, ws, rfl, .inl ⟨sqlSub R2.fh r1, sqlSub R2.fh r2, kk _ ε2 H2 F2 _ (s1.trans s2) (f1.trans f2) R2 (itZip r1 a1 r2 a2) q2⟩⟩
      | _ => exact q2.elim
    | tuple xs =>
      cases e with
      | tuple ys =>
        obtain ⟨a, vs, rfl, r1, a1⟩ := dpTup (dpSub f2 d1)
        obtain ⟨c, ws, rfl, r2, a2⟩ := dpTup d2
        exact ⟨a, c, vs, ws, rfl, .inr ⟨sqtSub R2.fh r1, sqtSub R2.fh r2, kk _ ε2 H2 F2 _ (s1.trans s2) (f1.trans f2) R2 (itZipT r1 a1 r2 a2) q2⟩⟩
      | _ => exact q2.elim
    | _ => cases e <;> exact q2.elim
  | _ => exact absurd ht Bool.false_ne_true
end
end Rc

/-! All expressions. -/
namespace Rc
open PySem PySem.Spec PyProof.Rows L2
section
variable {fns : List FnI} {cls : List Str} {N : List Str} {C : Nat → Addr} {Φ : Fs} {k : Nat} {X : Cx} {b : Bd} {sc : Scope}
theorem ptEx {α : Type} {e : Expr} {t : α → TT} (h : ∀ a, PT X e (t a)) : PT X e (fun σ H q => ∃ a, t a σ H q) := ⟨fun pins s σ H Q I ⟨a, w⟩ => (h a).run pins s σ H Q I w⟩
theorem peEx {α : Type} {e : Expr} {t : α → TE} (h : ∀ a, PE X e (t a)) : PE X e (fun σ H q => ∃ a, t a σ H q) := ⟨fun pins s σ H Q I ⟨a, w⟩ => (h a).run pins s σ H Q I w⟩
theorem ptsImp {es : List Expr} {t t' : TT} (h : PTs X es t) (f : ∀ σ H Q, t' σ H Q → t σ H Q) : PTs X es t' := ⟨fun pins s σ H Q I w => h.run pins s σ H Q I (f _ _ _ w)⟩
theorem lcParts (ok : Cok fns cls N C Φ k X sc b.W) (hC : b.C = C) {t : Tg} {itE cE eE : IE} (s1 : Sn fns cls N C Φ k itE) (s2 : Sn fns cls N C Φ k cE) (s3 : Sn fns cls N C Φ k eE)
    {tg iter e : Expr} {ifs : List Expr} {scope : Scope} (h1 : isIt itE = true) (h2 : chk fns N itE sc [iter, tg] = true) (h3 : tgB (lclB (relS scope sc)) N t tg = true) (h4 : blkC N sc scope (tgOwn t tg) = true)
    (h5 : ifsB (isNil cE) ifs (fun f => chk fns N cE (relS scope sc) [f]) = true) (h6 : chk fns N eE (relS scope sc) [e] = true) :
    PI X tg iter (rdI X.K b (wE Φ itE)) ∧ BlkOk X.N X.env.scope scope (tgOwn t tg) ∧
    (∀ (s : Shared) (H : Hp) (D : Addr) (cl : List (Str × Addr)) (fp : List Addr), PG (X.blk s H scope (compEnvC scope cl D X.env) fp) tg (gTg X.K t)) ∧
    (∀ (s : Shared) (H : Hp) (D : Addr) (cl : List (Str × Addr)) (fp : List Addr), PTs (X.blk s H scope (compEnvC scope cl D X.env) fp) ifs
      (fun σ H q => ∃ H0 F0, rdT X.K ⟨b.C, fun _ _ _ _ => False, H0, F0⟩ (fun ε Xp r => if isNil cE = true then r (.d (.bool true)) ε else wE Φ cE ε Xp r) σ H q)) ∧
    (∀ (s : Shared) (H : Hp) (D : Addr) (cl : List (Str × Addr)) (fp : List Addr), PE (X.blk s H scope (compEnvC scope cl D X.env) fp) e
      (fun σ H q => ∃ H0 F0, rdD X.K ⟨b.C, fun _ _ _ _ => False, H0, F0⟩ (wE Φ eE) σ H q)) := by
  have blk := fun (s : Shared) (H : Hp) (D : Addr) (cl : List (Str × Addr)) (fp : List Addr) => ok.blk s H scope D cl fp
  have hlc : ∀ (X' : Cx), X'.env.scope = relS scope sc → ∀ x, lclB (relS scope sc) x = true → Loc X'.env.scope x ∧ (X'.fn x = true ∨ X'.env.scope.names.lookup x = some .local) := fun X' he x hx => by
    have q := lclB_of hx
    rw [he]
    exact ⟨.inl q, .inr q⟩
  refine ⟨s1.i b X sc hC ok h1 iter tg h2, blkOk_by (by rw [ok.eN, ok.esc]; exact h4), fun s H D cl fp => ?_, fun s H D cl fp => ?_, fun s H D cl fp => ?_⟩
  · refine pgTg (X := X.blk s H scope (compEnvC scope cl D X.env) fp) ok.nd ok.calm (hlc _ (blk s H D cl fp).esc) ?_
    show tgB _ X.N t tg = true
    rw [ok.eN]; exact h3
  · cases ifs with
    | nil =>
      refine ptsImp pts_nil fun σ H Q ⟨H0, F0, ε, F, Xp, Qp, R, w, ex, kk⟩ => ?_
      have e0 : isNil cE = true := h5
      have w' : (if isNil cE = true then kB Qp (.d (.bool true)) ε else wE Φ cE ε Xp (kB Qp)) := w
      rw [if_pos e0] at w'
      exact kk true ε H F (.refl _) (.refl _) R w'
    | cons f r =>
      cases r with
      | nil =>
        have h5' : (!isNil cE && chk fns N cE (relS scope sc) [f]) = true := h5
        rw [Bool.and_eq_true, Bool.not_eq_true'] at h5'
        refine ptsImp (pts_one (ptEx fun H0 => ptEx fun F0 => s2.t ⟨b.C, fun _ _ _ _ => False, H0, F0⟩ _ (relS scope sc) hC (blk s H D cl fp) f h5'.2)) fun σ H Q ⟨H0, F0, ε, F, Xp, Qp, R, w, ex, kk⟩ => ?_
        have w' : (if isNil cE = true then kB Qp (.d (.bool true)) ε else wE Φ cE ε Xp (kB Qp)) := w
        rw [if_neg (by rw [h5'.1]; exact Bool.false_ne_true)] at w'
        exact ⟨H0, F0, ε, F, Xp, Qp, R, w', ex, kk⟩
      | cons _ _ => exact absurd h5 Bool.false_ne_true
  · exact peEx fun H0 => peEx fun F0 => peD (s3.e ⟨b.C, fun _ _ _ _ => False, H0, F0⟩ _ (relS scope sc) hC (blk s H D cl fp) e h6)

theorem eLc (ok : Cok fns cls N C Φ k X sc b.W) (hC : b.C = C) {t : Tg} {itE cE eE : IE} (s1 : Sn fns cls N C Φ k itE) (s2 : Sn fns cls N C Φ k cE) (s3 : Sn fns cls N C Φ k eE)
    {tg iter e : Expr} {ifs : List Expr} {scope : Scope} {p : Pos} (h1 : isIt itE = true) (h2 : chk fns N itE sc [iter, tg] = true) (h3 : tgB (lclB (relS scope sc)) N t tg = true) (h4 : blkC N sc scope (tgOwn t tg) = true)
    (h5 : ifsB (isNil cE) ifs (fun f => chk fns N cE (relS scope sc) [f]) = true) (h6 : chk fns N eE (relS scope sc) [e] = true) (h7 : plainE iter = true) :
    PE X (.ListComp e [⟨tg, iter, ifs, 0⟩] scope p) (rdE X.K b (wE Φ (.lc t itE cE eE))) := by
  refine peImp ?_ fun σ H Q h => lcGo h
  rw [← tgOwn_ix h3]
  obtain ⟨q1, q2, q3, q4, q5⟩ := lcParts ok hC s1 s2 s3 h1 h2 h3 h4 h5 h6
  exact pe_lc ok.calm ok.nd q1 q2 q3 q4 q5 (fun x => noFold h7)

/-! ### iterables -/
theorem iSeqGo (h : PE X e (rdE X.K b (wE Φ i))) {tg : Expr} : PI X tg e (rdI X.K b (wE Φ (.itv i))) :=
  piImp (pi_seq (peD h)) fun σ H R ⟨ε, F, Xp, Qp, RR, w, ex, kk⟩ => by
    refine ⟨ε, F, Xp, _, RR, w, ex, fun d ε1 H1 F1 x s1 f1 R1 d1 q1 => ?_⟩
    cases d with
    | list xs =>
      obtain ⟨a, vs, rfl, r1, a1⟩ := dpLst d1
      exact ⟨a, vs, rfl, .inl ⟨sqlSub R1.fh r1, kk xs ε1 H1 F1 _ s1 f1 R1 (itList r1 a1) q1⟩⟩
    | tuple xs =>
      obtain ⟨a, vs, rfl, r1, a1⟩ := dpTup d1
      exact ⟨a, vs, rfl, .inr ⟨(sqtSub R1.fh r1), kk xs ε1 H1 F1 _ s1 f1 R1 (itTup r1 a1) q1⟩⟩
    | _ => exact q1.elim
theorem iEnmGo (ok : Cok fns cls N C Φ k X sc b.W) {i : IE} {e tg : Expr} {x : Str} {p pos : Pos} (h : PE X e (rdE X.K b (wE Φ i))) (hx : x = "enumerate") (hg : glB sc x = true) (he : plainE e = true) (ht : isTup tg = true) :
    PI X tg (.Call (.Name x p) [e] [] pos) (rdI X.K b (wE Φ (.enm i))) := by
  subst hx
  cases tg with
  | Tuple es n q =>
    refine piImp (pi_enumA (glB_of ok hg) (ok.blt _ (by decide)) (peD h) he) fun σ H R ⟨ε, F, Xp, Qp, RR, w, ex, kk⟩ => ?_
    refine ⟨ε, F, Xp, _, RR, w, ex, fun d ε1 H1 F1 x s1 f1 R1 d1 q1 => ?_⟩
    cases d with
    | list xs =>
      obtain ⟨a, vs, rfl, r1, a1⟩ := dpLst d1
      exact ⟨a, vs, rfl, .inl ⟨sqlSub R1.fh r1, kk _ ε1 H1 F1 _ s1 f1 R1 (itEnum r1 a1) q1⟩⟩
    | tuple xs =>
      obtain ⟨a, vs, rfl, r1, a1⟩ := dpTup d1
      exact ⟨a, vs, rfl, .inr ⟨(sqtSub R1.fh r1), kk _ ε1 H1 F1 _ s1 f1 R1 (itEnumT r1 a1) q1⟩⟩
    | _ => exact q1.elim
  | _ => exact absurd ht Bool.false_ne_true
theorem iRevGo (ok : Cok fns cls N C Φ k X sc b.W) {i : IE} {e tg : Expr} {x : Str} {p pos : Pos} (h : PE X e (rdE X.K b (wE Φ i))) (hx : x = "reversed") (hg : glB sc x = true) (he : plainE e = true) :
    PI X tg (.Call (.Name x p) [e] [] pos) (rdI X.K b (wE Φ (.rvd i))) := by
  subst hx
  refine piImp (RT.pi_revA (glB_of ok hg) (ok.blt _ (by decide)) (peD h) (starOf he)) fun σ H R ⟨ε, F, Xp, Qp, RR, w, ex, kk⟩ => ?_
  refine ⟨ε, F, Xp, _, RR, w, ex, fun d ε1 H1 F1 x s1 f1 R1 d1 q1 => ?_⟩
  cases d with
  | list xs =>
    obtain ⟨a, vs, rfl, r1, a1⟩ := dpLst d1
    exact ⟨a, vs, rfl, .inl ⟨sqlSub R1.fh r1, kk _ ε1 H1 F1 _ s1 f1 R1 (itRev r1 a1) q1⟩⟩
  | tuple xs =>
    obtain ⟨a, vs, rfl, r1, a1⟩ := dpTup d1
    exact ⟨a, vs, rfl, .inr ⟨(sqtSub R1.fh r1), kk _ ε1 H1 F1 _ s1 f1 R1 (itRevT r1 a1) q1⟩⟩
  | _ => exact q1.elim
theorem iRng1Go (ok : Cok fns cls N C Φ k X sc b.W) {i : IE} {tg e : Expr} {x : Str} {p pos : Pos} (h : PE X e (rdE X.K b (wE Φ i))) (hx : x = "range") (hg : glB sc x = true) (he : plainE e = true) :
    PI X tg (.Call (.Name x p) [e] [] pos) (rdI X.K b (wE Φ (.rng1 i))) := by
  subst hx
  have z := starOf (es := []) (env := X.env) he
  refine piImp (pi_range1 (glB_of ok hg) (ok.blt _ (by decide)) (pa_cons (peD h) pa_nil z) z) fun σ H R ⟨ε, F, Xp, Qp, RR, w, ex, kk⟩ => ?_
  refine ⟨ε, F, Xp, _, RR, w, ex, fun d ε1 H1 F1 v s1 f1 R1 d1 q1 => ?_⟩
  cases d with
  | int n =>
    cases dpInt d1
    refine ⟨n, rfl, q1.1.2, q1.1.1, kk _ ε1 H1 F1 _ s1 f1 R1 ?_ q1.2⟩
    simpa using itRng1 (K := X.K) (F1 := F1) (lo := 0) (n := n.toNat)
  | _ => exact q1.elim
theorem iRng2Go (ok : Cok fns cls N C Φ k X sc b.W) {i j : IE} {tg e f : Expr} {x : Str} {p pos : Pos} (h : PE X e (rdE X.K b (wE Φ i))) (h2 : PE X f (rdE X.K b (wE Φ j))) (hx : x = "range") (hg : glB sc x = true) (he : plainE e = true) (hf : plainE f = true) :
    PI X tg (.Call (.Name x p) [e, f] [] pos) (rdI X.K b (wE Φ (.rng2 i j))) := by
  subst hx
  have z := starOf (es := [f]) (env := X.env) he
  have z2 := starOf (es := []) (env := X.env) hf
  refine piImp (pi_range2 (glB_of ok hg) (ok.blt _ (by decide)) (pa_cons (peD h) (pa_cons (peD h2) pa_nil z2) z) (by rw [z, z2]; rfl) z2) fun σ H R ⟨ε, F, Xp, Qp, RR, w, ex, kk⟩ => ?_
  refine ⟨ε, F, Xp, _, RR, w, ex, fun d ε1 H1 F1 v s1 f1 R1 d1 q1 => ⟨ε1, F1, Xp, _, R1, q1, ex.mono s1, fun e ε2 H2 F2 u s2 f2 R2 d2 q2 => ?_⟩⟩
  cases d with
  | int n =>
    cases e with
    | int m =>
      cases dpInt d1; cases dpInt d2
      exact ⟨n, m, rfl, q2.1, kk _ ε2 H2 F2 _ (s1.trans s2) (f1.trans f2) R2 itRng1 q2.2⟩
    | _ => exact q2.elim
  | _ => exact q2.elim
theorem iRngdGo (ok : Cok fns cls N C Φ k X sc b.W) {i j : IE} {tg e f : Expr} {x : Str} {n : Nat} {p pos p1 p2 : Pos} (h : PE X e (rdE X.K b (wE Φ i))) (h2 : PE X f (rdE X.K b (wE Φ j))) (hx : x = "range") (hg : glB sc x = true) (he : plainE e = true) (hf : plainE f = true) :
    PI X tg (.Call (.Name x p) [e, f, .UnaryOp .USub (.Constant (.int 1) n p1) p2] [] pos) (rdI X.K b (wE Φ (.rngd i j))) := by
  subst hx
  have z := starOf (es := [f, .UnaryOp .USub (.Constant (.int 1) n p1) p2]) (env := X.env) he
  have z2 := starOf (es := [.UnaryOp .USub (.Constant (.int 1) n p1) p2]) (env := X.env) hf
  have hm : PE X (.UnaryOp .USub (.Constant (.int 1) n p1) p2) (tC (.int (-1))) := peImp (pe_un un_neg pe_int) fun σ H Q q => ⟨1, rfl, q⟩
  refine piImp (pi_range3 (glB_of ok hg) (ok.blt _ (by decide)) (pa_cons (peD h) (pa_cons (peD h2) (pa_cons hm pa_nil) z2) z) z (by rw [z2]; rfl)) fun σ H R ⟨ε, F, Xp, Qp, RR, w, ex, kk⟩ => ?_
  refine ⟨ε, F, Xp, _, RR, w, ex, fun d ε1 H1 F1 v s1 f1 R1 d1 q1 => ⟨ε1, F1, Xp, _, R1, q1, ex.mono s1, fun e ε2 H2 F2 u s2 f2 R2 d2 q2 => ?_⟩⟩
  cases d with
  | int a =>
    cases e with
    | int m =>
      cases dpInt d1; cases dpInt d2
      obtain ⟨⟨g1, g2, g3, g4⟩, q3⟩ := q2
      refine ⟨a, m, -1, (a - m).toNat, rfl, RgC.neg g1 g2 g3 g4, kk _ ε2 H2 F2 _ (s1.trans s2) (f1.trans f2) R2 ?_ q3⟩
      have q := itRng (K := X.K) (F1 := F2) (lo := a) (c := -1) (n := (a - m).toNat)
      have e1 : (fun (i : Nat) => (PyData.int (a + (i : Int) * (-1)) : D)) = fun (i : Nat) => .int (a - i) := by
        funext i
        congr 1
        omega
      rw [e1] at q
      exact q
    | _ => exact q2.elim
  | _ => exact q2.elim
/-! ### all -/
theorem tIte {c i j : IE} {t x y : Expr} {p : Pos} (h0 : PT X t (rdT X.K b (wE Φ c))) (h1 : PT X x (rdT X.K b (wE Φ i))) (h2 : PT X y (rdT X.K b (wE Φ j))) :
    PT X (.IfExp t x y p) (rdT X.K b (wE Φ (.ite c i j))) := by
  refine ⟨fun pins s σ H Q I ⟨ε, F, Xp, Qp, R, w, ex, kk⟩ => isTrue_IfExp ?_⟩
  have go : rdT X.K b (wE Φ c) σ H fun d H1 => if d = true then rdT X.K b (wE Φ i) σ H1 Q else rdT X.K b (wE Φ j) σ H1 Q := by
    refine ⟨ε, F, Xp, _, R, w, ex, fun d ε1 H1 F1 s1 f1 R1 q1 => ?_⟩
    cases d with
    | false => exact ⟨ε1, F1, Xp, Qp, R1, q1, ex.mono s1, fun v ε2 H2 F2 s2 f2 R2 q => kk v ε2 H2 F2 (s1.trans s2) (f1.trans f2) R2 q⟩
    | true => exact ⟨ε1, F1, Xp, Qp, R1, q1, ex.mono s1, fun v ε2 H2 F2 s2 f2 R2 q => kk v ε2 H2 F2 (s1.trans s2) (f1.trans f2) R2 q⟩
  refine thn (h0.run pins s σ H _ I go) fun d s1 ⟨H1, I1, q1⟩ => ?_
  cases d with
  | true => exact h1.run pins s1 σ H1 Q I1 q1
  | false => exact h2.run pins s1 σ H1 Q I1 q1
theorem plnName {x : Str} {p : Pos} : Pln X (.Name x p) := fun _ => rfl
theorem aNil (X : Cx) : PA X [] (rdA X.K b (wE Φ .nil)) := paImp pa_nil fun σ H Q ⟨ε, F, Xp, Qp, R, w, ex, kk⟩ => kk [] ε H F [] (.refl _) (.refl _) R .nil w
theorem aNilP (X : Cx) : PA X [] (rdAP X.K b (wE Φ .nil)) := paImp pa_nil fun σ H Q ⟨ε, F, Xp, Qp, R, w, ex, kk⟩ => kk [] ε H F [] (.refl _) (.refl _) R .nil w
theorem aCons {i j : IE} {e : Expr} {es : List Expr} (h : PE X e (rdE X.K b (wE Φ i))) (hr : PA X es (rdA X.K b (wE Φ j))) (he : plainE e = true) : PA X (e :: es) (rdA X.K b (wE Φ (.cons i j))) :=
  paImp (pa_cons (peD h) hr (starOf he)) fun σ H Q ⟨ε, F, Xp, Qp, R, w, ex, kk⟩ =>
    ⟨ε, F, Xp, _, R, w, ex, fun d ε1 H1 F1 x s1 f1 R1 d1 q1 => ⟨ε1, F1, Xp, _, R1, q1, ex.mono s1, fun ds ε2 H2 F2 xs s2 f2 R2 d2 q2 =>
      kk (d :: ds) ε2 H2 F2 (x :: xs) (s1.trans s2) (f1.trans f2) R2 (.cons (dpSub f2 d1) d2) q2⟩⟩
theorem aConsP {i j : IE} {e : Expr} {es : List Expr} (h : PE X e (rdP X.K b (fun ε Xp q => pkW i ε (fun T => wE Φ i ε Xp T) q))) (hr : PA X es (rdAP X.K b (wE Φ j))) (he : plainE e = true) : PA X (e :: es) (rdAP X.K b (wE Φ (.consP i j))) :=
  paImp (pa_cons h hr (starOf he)) fun σ H Q ⟨ε, F, Xp, Qp, R, w, ex, kk⟩ =>
    ⟨ε, F, Xp, _, R, w, ex, fun d ε1 H1 F1 x s1 f1 R1 d1 q1 => ⟨ε1, F1, Xp, _, R1, q1, ex.mono s1, fun ds ε2 H2 F2 xs s2 f2 R2 d2 q2 =>
      kk (d :: ds) ε2 H2 F2 (x :: xs) (s1.trans s2) (f1.trans f2) R2 (.cons ((PAt.mono f2 s2 d1).dp R2.fh) d2) q2⟩⟩
/-- a term that is neither a list of arguments, nor a walk, nor a test of several parts -/
theorem Sn.mk0 {i : IE} (h1 : isL i = false) (h2 : isLP i = false) (h3 : isIt i = false) (h4 : ∀ sc op es pos, chk fns N i sc [.BoolOp op es pos] = false)
    (h : ∀ (b : Bd) (X : Cx) (sc : Scope), b.C = C → Cok fns cls N C Φ k X sc b.W → ∀ e, chk fns N i sc [e] = true → PE X e (rdE X.K b (wE Φ i)) ∧ PT X e (rdT X.K b (wE Φ i))) : Sn fns cls N C Φ k i where
  e := fun b X sc hC ok e hc => (h b X sc hC ok e hc).1
  t := fun b X sc hC ok e hc => (h b X sc hC ok e hc).2
  w := fun b X sc hC ok op es pos hc => by rw [h4] at hc; cases hc
  a := fun b X sc hC ok hl => by rw [h1] at hl; cases hl
  ap := fun b X sc hC ok hl => by rw [h2] at hl; cases hl
  i := fun b X sc hC ok hl => by rw [h3] at hl; cases hl
/-- a walk -/
theorem Sn.mkI {i : IE} (h1 : isL i = false) (h2 : isLP i = false) (h4 : ∀ sc e, chk fns N i sc [e] = false)
    (h : ∀ (b : Bd) (X : Cx) (sc : Scope), b.C = C → Cok fns cls N C Φ k X sc b.W → ∀ e tg, chk fns N i sc [e, tg] = true → PI X tg e (rdI X.K b (wE Φ i))) : Sn fns cls N C Φ k i where
  e := fun b X sc hC ok e hc => by rw [h4] at hc; cases hc
  t := fun b X sc hC ok e hc => by rw [h4] at hc; cases hc
  w := fun b X sc hC ok op es pos hc => by rw [h4] at hc; cases hc
  a := fun b X sc hC ok hl => by rw [h1] at hl; cases hl
  ap := fun b X sc hC ok hl => by rw [h2] at hl; cases hl
  i := fun b X sc hC ok hl => h b X sc hC ok
theorem snAll (i : IE) : Sn fns cls N C Φ k i := by
  induction i with
  | nil =>
    refine ⟨fun b X sc hC ok e hc => ?_, fun b X sc hC ok e hc => ?_, fun b X sc hC ok op es pos hc => ?_, fun b X sc hC ok hl es hc => ?_, fun b X sc hC ok hl es hc => ?_, fun b X sc hC ok hl => ?_⟩
    · exact absurd hc Bool.false_ne_true
    · exact absurd hc Bool.false_ne_true
    · exact absurd hc Bool.false_ne_true
    · cases es with
      | nil => exact aNil X
      | cons _ _ => exact absurd hc Bool.false_ne_true
    · cases es with
      | nil => exact aNilP X
      | cons _ _ => exact absurd hc Bool.false_ne_true
    · exact absurd hl Bool.false_ne_true
  | cons a r iha ihr =>
    refine ⟨fun b X sc hC ok e hc => ?_, fun b X sc hC ok e hc => ?_, fun b X sc hC ok op es pos hc => ?_, fun b X sc hC ok hl es hc => ?_, fun b X sc hC ok hl => ?_, fun b X sc hC ok hl => ?_⟩
    · exact absurd hc Bool.false_ne_true
    · exact absurd hc Bool.false_ne_true
    · exact absurd hc Bool.false_ne_true
    · cases es with
      | nil => exact absurd hc Bool.false_ne_true
      | cons e es =>
        have h : (plainE e && chk fns N a sc [e] && isL r && chk fns N r sc (dm :: dm :: es)) = true := hc
        simp only [Bool.and_eq_true] at h
        exact aCons (iha.e b X sc hC ok e h.1.1.2) (ihr.a b X sc hC ok h.1.2 es h.2) h.1.1.1
    · exact absurd hl Bool.false_ne_true
    · exact absurd hl Bool.false_ne_true
  | consP a r iha ihr =>
    refine ⟨fun b X sc hC ok e hc => ?_, fun b X sc hC ok e hc => ?_, fun b X sc hC ok op es pos hc => ?_, fun b X sc hC ok hl => ?_, fun b X sc hC ok hl es hc => ?_, fun b X sc hC ok hl => ?_⟩
    · exact absurd hc Bool.false_ne_true
    · exact absurd hc Bool.false_ne_true
    · exact absurd hc Bool.false_ne_true
    · exact absurd hl Bool.false_ne_true
    · cases es with
      | nil => exact absurd hc Bool.false_ne_true
      | cons e es =>
        have h : (plainE e && chk fns N a sc [e] && isLP r && chk fns N r sc (dm :: dm :: es)) = true := hc
        simp only [Bool.and_eq_true] at h
        exact aConsP (pkE ok hC iha h.1.1.2) (ihr.ap b X sc hC ok h.1.2 es h.2) h.1.1.1
    · exact absurd hl Bool.false_ne_true
  | var j =>
    refine Sn.mk0 rfl rfl rfl (fun _ _ _ _ => rfl) fun b X sc hC ok e hc => ?_
    cases e with
    | Name x p => exact ⟨eVar ok hc, ptOf (eVar ok hc) fun _ => rfl⟩
    | _ => exact absurd hc Bool.false_ne_true
  | mov j =>
    refine Sn.mk0 rfl rfl rfl (fun _ _ _ _ => rfl) fun b X sc hC ok e hc => ?_
    cases e with
    | Name x p => exact ⟨eMov ok hc, ptOf (eMov ok hc) fun _ => rfl⟩
    | _ => exact absurd hc Bool.false_ne_true
  | cst c =>
    refine Sn.mk0 rfl rfl rfl (fun _ _ _ _ => rfl) fun b X sc hC ok e hc => ?_
    cases e with
    | Constant q n p => exact ⟨eCst hc, ptOf (eCst hc) fun _ => rfl⟩
    | _ => exact absurd hc Bool.false_ne_true
  | tup a ih =>
    refine Sn.mk0 rfl rfl rfl (fun _ _ _ _ => rfl) fun b X sc hC ok e hc => ?_
    cases e with
    | Tuple es n p =>
      have h : (isL a && chk fns N a sc (dm :: dm :: es)) = true := hc
      rw [Bool.and_eq_true] at h
      have q := eTup (n := n) (p := p) (ih.a b X sc hC ok h.1 es h.2)
      exact ⟨q, ptOf q fun _ => rfl⟩
    | _ => exact absurd hc Bool.false_ne_true
  | lst a ih =>
    refine Sn.mk0 rfl rfl rfl (fun _ _ _ _ => rfl) fun b X sc hC ok e hc => ?_
    cases e with
    | List es p =>
      have h : (isL a && chk fns N a sc (dm :: dm :: es)) = true := hc
      rw [Bool.and_eq_true] at h
      have q := eLst (p := p) (ih.a b X sc hC ok h.1 es h.2)
      exact ⟨q, ptOf q fun _ => rfl⟩
    | _ => exact absurd hc Bool.false_ne_true
  | bin o a c iha ihb =>
    refine Sn.mk0 rfl rfl rfl (fun _ _ _ _ => rfl) fun b X sc hC ok e hc => ?_
    cases e with
    | BinOp l o' r p =>
      have h : (decide (o = o') && chk fns N a sc [l] && chk fns N c sc [r]) = true := hc
      simp only [Bool.and_eq_true, decide_eq_true_eq] at h
      obtain ⟨⟨rfl, h1⟩, h2⟩ := h
      have q := eBin ok (p := p) (o := o) (iha.e b X sc hC ok l h1) (ihb.e b X sc hC ok r h2)
      exact ⟨q, ptOf q fun _ => rfl⟩
    | _ => exact absurd hc Bool.false_ne_true
  | cmp o a c iha ihb =>
    refine Sn.mk0 rfl rfl rfl (fun _ _ _ _ => rfl) fun b X sc hC ok e hc => ?_
    cases e with
    | Compare l os rs p =>
      cases os with
      | nil => exact absurd hc Bool.false_ne_true
      | cons o' os =>
        cases os with
        | cons _ _ => exact absurd hc Bool.false_ne_true
        | nil =>
          cases rs with
          | nil => exact absurd hc Bool.false_ne_true
          | cons r rs =>
            cases rs with
            | cons _ _ => exact absurd hc Bool.false_ne_true
            | nil =>
              have h : (decide (o = o') && decide (o ≠ .In) && decide (o ≠ .NotIn) && chk fns N a sc [l] && chk fns N c sc [r]) = true := hc
              simp only [Bool.and_eq_true, decide_eq_true_eq] at h
              obtain ⟨⟨⟨⟨rfl, h3⟩, h4⟩, h1⟩, h2⟩ := h
              exact eCmp ok h3 h4 (pkE ok hC iha h1) (pkE ok hC ihb h2)
    | _ => exact absurd hc Bool.false_ne_true
  | neg a ih =>
    refine Sn.mk0 rfl rfl rfl (fun _ _ _ _ => rfl) fun b X sc hC ok e hc => ?_
    cases e with
    | UnaryOp o x p =>
      cases o with
      | USub =>
        have q := eNeg (p := p) (ih.e b X sc hC ok x hc)
        exact ⟨q, ptOf q fun _ => rfl⟩
      | _ => exact absurd hc Bool.false_ne_true
    | _ => exact absurd hc Bool.false_ne_true
  | bnot a ih =>
    refine Sn.mk0 rfl rfl rfl (fun _ _ _ _ => rfl) fun b X sc hC ok e hc => ?_
    cases e with
    | UnaryOp o x p =>
      cases o with
      | Not => exact eNot (ih.e b X sc hC ok x hc) (ih.t b X sc hC ok x hc)
      | _ => exact absurd hc Bool.false_ne_true
    | _ => exact absurd hc Bool.false_ne_true
  | band a r iha ihr =>
    have key : ∀ (b : Bd) (X : Cx) (sc : Scope), b.C = C → Cok fns cls N C Φ k X sc b.W → ∀ op es pos, chk fns N (.band a r) sc [.BoolOp op es pos] = true →
        PE X (.BoolOp op es pos) (rdE X.K b (wE Φ (.band a r))) ∧ PW X (.BoolOp op es pos) (rdT X.K b (wE Φ (.band a r))) := fun b X sc hC ok op es pos hc => by
      cases op with
      | Or => exact absurd hc (by cases es with
        | nil => exact Bool.false_ne_true
        | cons _ es => cases es <;> exact Bool.false_ne_true)
      | And =>
        cases es with
        | nil => exact absurd hc Bool.false_ne_true
        | cons x es =>
          cases es with
          | nil => exact absurd hc Bool.false_ne_true
          | cons y rest =>
            have h : (chk fns N a sc [x] && chk fns N r sc [.BoolOp .And (y :: rest) pos]) = true := hc
            rw [Bool.and_eq_true] at h
            exact eAnd (iha.e b X sc hC ok x h.1) (iha.t b X sc hC ok x h.1) (ihr.e b X sc hC ok _ h.2) (ihr.w b X sc hC ok _ _ _ h.2)
    refine ⟨fun b X sc hC ok e hc => ?_, fun b X sc hC ok e hc => ?_, fun b X sc hC ok op es pos hc => (key b X sc hC ok op es pos hc).2, fun b X sc hC ok hl => absurd hl Bool.false_ne_true, fun b X sc hC ok hl => absurd hl Bool.false_ne_true, fun b X sc hC ok hl => absurd hl Bool.false_ne_true⟩
    · cases e with
      | BoolOp op es pos => exact (key b X sc hC ok op es pos hc).1
      | _ => exact absurd hc Bool.false_ne_true
    · cases e with
      | BoolOp op es pos => exact (key b X sc hC ok op es pos hc).2.pt
      | _ => exact absurd hc Bool.false_ne_true
  | bor a r iha ihr =>
    have key : ∀ (b : Bd) (X : Cx) (sc : Scope), b.C = C → Cok fns cls N C Φ k X sc b.W → ∀ op es pos, chk fns N (.bor a r) sc [.BoolOp op es pos] = true →
        PE X (.BoolOp op es pos) (rdE X.K b (wE Φ (.bor a r))) ∧ PW X (.BoolOp op es pos) (rdT X.K b (wE Φ (.bor a r))) := fun b X sc hC ok op es pos hc => by
      cases op with
      | And => exact absurd hc (by cases es with
        | nil => exact Bool.false_ne_true
        | cons _ es => cases es <;> exact Bool.false_ne_true)
      | Or =>
        cases es with
        | nil => exact absurd hc Bool.false_ne_true
        | cons x es =>
          cases es with
          | nil => exact absurd hc Bool.false_ne_true
          | cons y rest =>
            have h : (chk fns N a sc [x] && chk fns N r sc [.BoolOp .Or (y :: rest) pos]) = true := hc
            rw [Bool.and_eq_true] at h
            exact eOr (iha.e b X sc hC ok x h.1) (iha.t b X sc hC ok x h.1) (ihr.e b X sc hC ok _ h.2) (ihr.w b X sc hC ok _ _ _ h.2)
    refine ⟨fun b X sc hC ok e hc => ?_, fun b X sc hC ok e hc => ?_, fun b X sc hC ok op es pos hc => (key b X sc hC ok op es pos hc).2, fun b X sc hC ok hl => absurd hl Bool.false_ne_true, fun b X sc hC ok hl => absurd hl Bool.false_ne_true, fun b X sc hC ok hl => absurd hl Bool.false_ne_true⟩
    · cases e with
      | BoolOp op es pos => exact (key b X sc hC ok op es pos hc).1
      | _ => exact absurd hc Bool.false_ne_true
    · cases e with
      | BoolOp op es pos => exact (key b X sc hC ok op es pos hc).2.pt
      | _ => exact absurd hc Bool.false_ne_true
  | bone a ih =>
    have key : ∀ (b : Bd) (X : Cx) (sc : Scope), b.C = C → Cok fns cls N C Φ k X sc b.W → ∀ op es pos, chk fns N (.bone a) sc [.BoolOp op es pos] = true →
        PE X (.BoolOp op es pos) (rdE X.K b (wE Φ (.bone a))) ∧ PW X (.BoolOp op es pos) (rdT X.K b (wE Φ (.bone a))) := fun b X sc hC ok op es pos hc => by
      cases es with
      | nil => exact absurd hc Bool.false_ne_true
      | cons x es =>
        cases es with
        | cons _ _ => exact absurd hc Bool.false_ne_true
        | nil => exact eOne (ih.e b X sc hC ok x hc) (ih.t b X sc hC ok x hc)
    refine ⟨fun b X sc hC ok e hc => ?_, fun b X sc hC ok e hc => ?_, fun b X sc hC ok op es pos hc => (key b X sc hC ok op es pos hc).2, fun b X sc hC ok hl => absurd hl Bool.false_ne_true, fun b X sc hC ok hl => absurd hl Bool.false_ne_true, fun b X sc hC ok hl => absurd hl Bool.false_ne_true⟩
    · cases e with
      | BoolOp op es pos => exact (key b X sc hC ok op es pos hc).1
      | _ => exact absurd hc Bool.false_ne_true
    · cases e with
      | BoolOp op es pos => exact (key b X sc hC ok op es pos hc).2.pt
      | _ => exact absurd hc Bool.false_ne_true
  | ite c a d ihc iha ihb =>
    refine Sn.mk0 rfl rfl rfl (fun _ _ _ _ => rfl) fun b X sc hC ok e hc => ?_
    cases e with
    | IfExp t x y p =>
      have h : (chk fns N c sc [t] && chk fns N a sc [x] && chk fns N d sc [y]) = true := hc
      simp only [Bool.and_eq_true] at h
      exact ⟨eIte (p := p) (ihc.t b X sc hC ok t h.1.1) (iha.e b X sc hC ok x h.1.2) (ihb.e b X sc hC ok y h.2), tIte (p := p) (ihc.t b X sc hC ok t h.1.1) (iha.t b X sc hC ok x h.1.2) (ihb.t b X sc hC ok y h.2)⟩
    | _ => exact absurd hc Bool.false_ne_true
  | ix a c iha ihb =>
    refine Sn.mk0 rfl rfl rfl (fun _ _ _ _ => rfl) fun b X sc hC ok e hc => ?_
    cases e with
    | Subscript x y p =>
      have h : (plainE y && chk fns N a sc [x] && chk fns N c sc [y]) = true := hc
      simp only [Bool.and_eq_true] at h
      have q := eIx (p := p) h.1.1 (pkE ok hC iha h.1.2) (ihb.e b X sc hC ok y h.2)
      exact ⟨q, ptOf q fun _ => rfl⟩
    | _ => exact absurd hc Bool.false_ne_true
  | sl a lo hi iha ihl ihh =>
    refine Sn.mk0 rfl rfl rfl (fun _ _ _ _ => rfl) fun b X sc hC ok e hc => ?_
    cases e with
    | Subscript x y p =>
      cases y with
      | Slice l g st p2 =>
        cases st with
        | some _ => exact absurd hc Bool.false_ne_true
        | none =>
          have h : (chk fns N a sc [x] && optB (isNil lo) l (fun e => chk fns N lo sc [e]) && optB (isNil hi) g (fun e => chk fns N hi sc [e])) = true := hc
          rw [Bool.and_eq_true, Bool.and_eq_true] at h
          obtain ⟨⟨h1, h2⟩, h3⟩ := h
          have q := eSl (p := p) (p2 := p2) (pkE ok hC iha h1)
            (poOf (i := lo) (l := l) (fun e => by subst e; exact h2) fun e he => by
              subst he
              have h2' : (!isNil lo && chk fns N lo sc [e]) = true := h2
              rw [Bool.and_eq_true, Bool.not_eq_true'] at h2'
              exact ⟨h2'.1, ihl.e b X sc hC ok e h2'.2⟩)
            (poOf (i := hi) (l := g) (fun e => by subst e; exact h3) fun e he => by
              subst he
              have h2' : (!isNil hi && chk fns N hi sc [e]) = true := h3
              rw [Bool.and_eq_true, Bool.not_eq_true'] at h2'
              exact ⟨h2'.1, ihh.e b X sc hC ok e h2'.2⟩)
          exact ⟨q, ptOf q fun _ => rfl⟩
      | _ => exact absurd hc Bool.false_ne_true
    | _ => exact absurd hc Bool.false_ne_true
  | rev a ih =>
    refine Sn.mk0 rfl rfl rfl (fun _ _ _ _ => rfl) fun b X sc hC ok e hc => ?_
    cases e with
    | Subscript x y p =>
      cases y with
      | Slice l g st p2 =>
        cases l with
        | some _ => exact absurd hc Bool.false_ne_true
        | none =>
          cases g with
          | some _ => exact absurd hc Bool.false_ne_true
          | none =>
            cases st with
            | none => exact absurd hc Bool.false_ne_true
            | some st =>
              cases st with
              | UnaryOp o z p3 =>
                cases o with
                | USub =>
                  cases z with
                  | Constant v n p4 =>
                    cases v with
                    | int z =>
                      have h : (decide (z = 1) && chk fns N a sc [x]) = true := hc
                      rw [Bool.and_eq_true, decide_eq_true_eq] at h
                      obtain ⟨rfl, h⟩ := h
                      have q := eRev (n := n) (p := p) (p1 := p4) (p2 := p3) (p3 := p2) (pkE ok hC ih h)
                      exact ⟨q, ptOf q fun _ => rfl⟩
                    | _ => exact absurd hc Bool.false_ne_true
                  | _ => exact absurd hc Bool.false_ne_true
                | _ => exact absurd hc Bool.false_ne_true
              | _ => exact absurd hc Bool.false_ne_true
      | _ => exact absurd hc Bool.false_ne_true
    | _ => exact absurd hc Bool.false_ne_true
  | call f a ih =>
    refine Sn.mk0 rfl rfl rfl (fun _ _ _ _ => rfl) fun b X sc hC ok e hc => ?_
    cases e with
    | Call fn es ks p =>
      cases fn with
      | Name x p2 =>
        cases ks with
        | cons _ _ => exact absurd hc Bool.false_ne_true
        | nil =>
          have q := eCall (p := p2) (pos := p) ok hC ih hc
          exact ⟨q, ptOf q fun _ => rfl⟩
      | _ => exact absurd hc Bool.false_ne_true
    | _ => exact absurd hc Bool.false_ne_true
  | callP f a ih =>
    refine Sn.mk0 rfl rfl rfl (fun _ _ _ _ => rfl) fun b X sc hC ok e hc => ?_
    cases e with
    | Call fn es ks p =>
      cases fn with
      | Name x p2 =>
        cases ks with
        | cons _ _ => exact absurd hc Bool.false_ne_true
        | nil =>
          have q := eCallP (p := p2) (pos := p) ok hC ih hc
          exact ⟨q, ptOf q fun _ => rfl⟩
      | _ => exact absurd hc Bool.false_ne_true
    | _ => exact absurd hc Bool.false_ne_true
  | bi c a ih =>
    refine Sn.mk0 rfl rfl rfl (fun _ _ _ _ => rfl) fun b X sc hC ok e hc => ?_
    cases e with
    | Call fn es ks p =>
      cases fn with
      | Name x p2 =>
        cases es with
        | nil => exact absurd hc Bool.false_ne_true
        | cons e es =>
          cases ks with
          | cons _ _ => exact absurd hc Bool.false_ne_true
          | nil =>
            have q := eBi (p := p2) (pos := p) ok hC ih hc
            exact ⟨q, ptOf q fun _ => rfl⟩
      | _ => exact absurd hc Bool.false_ne_true
    | _ => exact absurd hc Bool.false_ne_true
  | len a ih =>
    refine Sn.mk0 rfl rfl rfl (fun _ _ _ _ => rfl) fun b X sc hC ok e hc => ?_
    cases e with
    | Call fn es ks p =>
      cases fn with
      | Name x p2 =>
        cases es with
        | nil => exact absurd hc Bool.false_ne_true
        | cons e es =>
          cases es with
          | cons _ _ => exact absurd hc Bool.false_ne_true
          | nil =>
            cases ks with
            | cons _ _ => exact absurd hc Bool.false_ne_true
            | nil =>
              have h : (decide (x = "len") && glB sc x && plainE e && chk fns N a sc [e]) = true := hc
              simp only [Bool.and_eq_true, decide_eq_true_eq] at h
              have q := eLen (p := p2) (pos := p) ok h.1.1.1 h.1.1.2 h.1.2 (pkE ok hC ih h.2)
              exact ⟨q, ptOf q fun _ => rfl⟩
      | _ => exact absurd hc Bool.false_ne_true
    | _ => exact absurd hc Bool.false_ne_true
  | lsc a ih =>
    refine Sn.mk0 rfl rfl rfl (fun _ _ _ _ => rfl) fun b X sc hC ok e hc => ?_
    cases e with
    | Call fn es ks p =>
      cases fn with
      | Name x p2 =>
        cases es with
        | nil => exact absurd hc Bool.false_ne_true
        | cons e es =>
          cases es with
          | cons _ _ => exact absurd hc Bool.false_ne_true
          | nil =>
            cases ks with
            | cons _ _ => exact absurd hc Bool.false_ne_true
            | nil =>
              have h : (decide (x = "list") && glB sc x && plainE e && chk fns N a sc [e]) = true := hc
              simp only [Bool.and_eq_true, decide_eq_true_eq] at h
              have q := eLsc (p := p2) (pos := p) ok h.1.1.1 h.1.1.2 h.1.2 (pkE ok hC ih h.2)
              exact ⟨q, ptOf q fun _ => rfl⟩
      | _ => exact absurd hc Bool.false_ne_true
    | _ => exact absurd hc Bool.false_ne_true
  | isi t a ih =>
    refine Sn.mk0 rfl rfl rfl (fun _ _ _ _ => rfl) fun b X sc hC ok e hc => ?_
    cases e with
    | Call fn es ks p =>
      cases fn with
      | Name x p2 =>
        cases es with
        | nil => exact absurd hc Bool.false_ne_true
        | cons e es =>
          cases es with
          | nil => exact absurd hc Bool.false_ne_true
          | cons g es =>
            cases es with
            | cons _ _ => cases g <;> exact absurd hc Bool.false_ne_true
            | nil =>
              cases g with
              | Name y p3 =>
                cases ks with
                | cons _ _ => exact absurd hc Bool.false_ne_true
                | nil =>
                  have h : (decide (x = "isinstance") && glB sc x && decide (tyName t = y) && glB sc y && plainE e && chk fns N a sc [e]) = true := hc
                  simp only [Bool.and_eq_true, decide_eq_true_eq] at h
                  obtain ⟨⟨⟨⟨⟨g1, g2⟩, g3⟩, g4⟩, g5⟩, g6⟩ := h
                  have q := eIsi (p := p2) (p2 := p3) (pos := p) ok g1 g2 g3 g4 g5 (pkE ok hC ih g6)
                  exact ⟨q, ptOf q fun _ => rfl⟩
              | _ => exact absurd hc Bool.false_ne_true
      | _ => exact absurd hc Bool.false_ne_true
    | _ => exact absurd hc Bool.false_ne_true
  | isx c j => exact Sn.mk0 rfl rfl rfl (fun _ _ _ _ => rfl) fun b X sc hC ok e hc => absurd hc Bool.false_ne_true
  | itv a ih =>
    refine Sn.mkI rfl rfl (fun _ _ => rfl) fun b X sc hC ok e tg hc => ?_
    have h : (plainE e && chk fns N a sc [e]) = true := hc
    rw [Bool.and_eq_true] at h
    exact iSeqGo (ih.e b X sc hC ok e h.2)
  | rng1 a ih =>
    refine Sn.mkI rfl rfl (fun _ _ => rfl) fun b X sc hC ok e tg hc => ?_
    cases e with
    | Call fn es ks p =>
      cases fn with
      | Name x p2 =>
        cases es with
        | nil => exact absurd hc Bool.false_ne_true
        | cons e es =>
          cases es with
          | cons _ _ => exact absurd hc Bool.false_ne_true
          | nil =>
            cases ks with
            | cons _ _ => exact absurd hc Bool.false_ne_true
            | nil =>
              have h : (decide (x = "range") && glB sc x && plainE e && chk fns N a sc [e]) = true := hc
              simp only [Bool.and_eq_true, decide_eq_true_eq] at h
              exact iRng1Go ok (ih.e b X sc hC ok e h.2) h.1.1.1 h.1.1.2 h.1.2
      | _ => exact absurd hc Bool.false_ne_true
    | _ => exact absurd hc Bool.false_ne_true
  | rng2 a c iha ihb =>
    refine Sn.mkI rfl rfl (fun _ _ => rfl) fun b X sc hC ok e tg hc => ?_
    cases e with
    | Call fn es ks p =>
      cases fn with
      | Name x p2 =>
        cases es with
        | nil => exact absurd hc Bool.false_ne_true
        | cons e es =>
          cases es with
          | nil => exact absurd hc Bool.false_ne_true
          | cons f es =>
            cases es with
            | cons _ _ => exact absurd hc Bool.false_ne_true
            | nil =>
              cases ks with
              | cons _ _ => exact absurd hc Bool.false_ne_true
              | nil =>
                have h : (decide (x = "range") && glB sc x && plainE e && plainE f && chk fns N a sc [e] && chk fns N c sc [f]) = true := hc
                simp only [Bool.and_eq_true, decide_eq_true_eq] at h
                obtain ⟨⟨⟨⟨⟨g1, g2⟩, g3⟩, g4⟩, g5⟩, g6⟩ := h
                exact iRng2Go ok (iha.e b X sc hC ok e g5) (ihb.e b X sc hC ok f g6) g1 g2 g3 g4
      | _ => exact absurd hc Bool.false_ne_true
    | _ => exact absurd hc Bool.false_ne_true
  | rngd a c iha ihb =>
    refine Sn.mkI rfl rfl (fun _ _ => rfl) fun b X sc hC ok e tg hc => ?_
    cases e with
    | Call fn es ks p =>
      cases fn with
      | Name x p2 =>
        cases es with
        | nil => exact absurd hc Bool.false_ne_true
        | cons e es =>
          cases es with
          | nil => exact absurd hc Bool.false_ne_true
          | cons f es =>
            cases es with
            | nil => exact absurd hc Bool.false_ne_true
            | cons g es =>
              cases es with
              | cons _ _ =>
                cases g with
                | UnaryOp o v p3 =>
                  cases o with
                  | USub =>
                    cases v with
                    | Constant q n p4 => cases q <;> exact absurd hc Bool.false_ne_true
                    | _ => exact absurd hc Bool.false_ne_true
                  | _ => exact absurd hc Bool.false_ne_true
                | _ => exact absurd hc Bool.false_ne_true
              | nil =>
                cases g with
                | UnaryOp o v p3 =>
                  cases o with
                  | USub =>
                    cases v with
                    | Constant q n p4 =>
                      cases q with
                      | int z =>
                        cases ks with
                        | cons _ _ => exact absurd hc Bool.false_ne_true
                        | nil =>
                          have h : (decide (x = "range") && glB sc x && plainE e && plainE f && decide (z = 1) && chk fns N a sc [e] && chk fns N c sc [f]) = true := hc
                          simp only [Bool.and_eq_true, decide_eq_true_eq] at h
                          obtain ⟨⟨⟨⟨⟨⟨g1, g2⟩, g3⟩, g4⟩, rfl⟩, g5⟩, g6⟩ := h
                          exact iRngdGo ok (iha.e b X sc hC ok e g5) (ihb.e b X sc hC ok f g6) g1 g2 g3 g4
                      | _ => exact absurd hc Bool.false_ne_true
                    | _ => exact absurd hc Bool.false_ne_true
                  | _ => exact absurd hc Bool.false_ne_true
                | _ => exact absurd hc Bool.false_ne_true
      | _ => exact absurd hc Bool.false_ne_true
    | _ => exact absurd hc Bool.false_ne_true
  | enm a ih =>
    refine Sn.mkI rfl rfl (fun _ _ => rfl) fun b X sc hC ok e tg hc => ?_
    cases e with
    | Call fn es ks p =>
      cases fn with
      | Name x p2 =>
        cases es with
        | nil => exact absurd hc Bool.false_ne_true
        | cons e es =>
          cases es with
          | cons _ _ => exact absurd hc Bool.false_ne_true
          | nil =>
            cases ks with
            | cons _ _ => exact absurd hc Bool.false_ne_true
            | nil =>
              have h : (decide (x = "enumerate") && glB sc x && plainE e && isTup tg && chk fns N a sc [e]) = true := hc
              simp only [Bool.and_eq_true, decide_eq_true_eq] at h
              exact iEnmGo ok (ih.e b X sc hC ok e h.2) h.1.1.1.1 h.1.1.1.2 h.1.1.2 h.1.2
      | _ => exact absurd hc Bool.false_ne_true
    | _ => exact absurd hc Bool.false_ne_true
  | rvd a ih =>
    refine Sn.mkI rfl rfl (fun _ _ => rfl) fun b X sc hC ok e tg hc => ?_
    cases e with
    | Call fn es ks p =>
      cases fn with
      | Name x p2 =>
        cases es with
        | nil => exact absurd hc Bool.false_ne_true
        | cons e es =>
          cases es with
          | cons _ _ => exact absurd hc Bool.false_ne_true
          | nil =>
            cases ks with
            | cons _ _ => exact absurd hc Bool.false_ne_true
            | nil =>
              have h : (decide (x = "reversed") && glB sc x && plainE e && chk fns N a sc [e]) = true := hc
              simp only [Bool.and_eq_true, decide_eq_true_eq] at h
              exact iRevGo ok (ih.e b X sc hC ok e h.2) h.1.1.1 h.1.1.2 h.1.2
      | _ => exact absurd hc Bool.false_ne_true
    | _ => exact absurd hc Bool.false_ne_true
  | zip a c iha ihb =>
    refine Sn.mkI rfl rfl (fun _ _ => rfl) fun b X sc hC ok e tg hc => ?_
    cases e with
    | Call fn es ks p =>
      cases fn with
      | Name x p2 =>
        rcases es with _ | ⟨e, _ | ⟨f, _ | ⟨_, _⟩⟩⟩
        · exact absurd hc Bool.false_ne_true
        · exact absurd hc Bool.false_ne_true
        · cases ks with
          | cons _ _ => exact absurd hc Bool.false_ne_true
          | nil =>
            have h : (decide (x = "zip") && glB sc x && plainE e && plainE f && isTup tg && chk fns N a sc [e] && chk fns N c sc [f]) = true := hc
            simp only [Bool.and_eq_true, decide_eq_true_eq] at h
            obtain ⟨⟨⟨⟨⟨⟨h1, h2⟩, h3⟩, h4⟩, h5⟩, h6⟩, h7⟩ := h
            exact iZipGo ok (iha.e b X sc hC ok e h6) (ihb.e b X sc hC ok f h7) h1 h2 h3 h4 h5
        · exact absurd hc Bool.false_ne_true
      | _ => exact absurd hc Bool.false_ne_true
    | _ => exact absurd hc Bool.false_ne_true
  | lc t it c elt ih1 ih2 ih3 =>
    refine Sn.mk0 rfl rfl rfl (fun _ _ _ _ => rfl) fun b X sc hC ok e hc => ?_
    cases e with
    | ListComp e gs scope p =>
      cases gs with
      | nil => exact absurd hc Bool.false_ne_true
      | cons g gs =>
        obtain ⟨tg, iter, ifs, as⟩ := g
        cases gs with
        | cons _ _ => exact absurd hc Bool.false_ne_true
        | nil =>
          have h : (decide (as = 0) && plainE iter && isIt it && chk fns N it sc [iter, tg] && tgB (lclB (relS scope sc)) N t tg && blkC N sc scope (tgOwn t tg) && ifsB (isNil c) ifs (fun f => chk fns N c (relS scope sc) [f]) && chk fns N elt (relS scope sc) [e]) = true := hc
          simp only [Bool.and_eq_true, decide_eq_true_eq] at h
          obtain ⟨⟨⟨⟨⟨⟨⟨rfl, g1⟩, g2⟩, g3⟩, g4⟩, g5⟩, g6⟩, g7⟩ := h
          have q := eLc (p := p) ok hC ih1 ih2 ih3 g2 g3 g4 g5 g6 g7 g1
          exact ⟨q, ptOf q fun _ => rfl⟩
    | _ => exact absurd hc Bool.false_ne_true
  | inn neg a c iha ihb =>
    refine Sn.mk0 rfl rfl rfl (fun _ _ _ _ => rfl) fun b X sc hC ok e hc => ?_
    cases e with
    | Compare l os rs p =>
      rcases os with _ | ⟨o, _ | ⟨_, _⟩⟩
      · exact absurd hc Bool.false_ne_true
      · rcases rs with _ | ⟨r, _ | ⟨_, _⟩⟩
        · exact absurd hc Bool.false_ne_true
        · have h : (decide (o = (if neg = true then .NotIn else .In)) && noSet r && chk fns N a sc [l] && chk fns N c sc [r]) = true := hc
          simp only [Bool.and_eq_true, decide_eq_true_eq] at h
          obtain ⟨⟨⟨rfl, h1⟩, h2⟩, h3⟩ := h
          exact eInn ok h1 (pkE ok hC iha h2) (pkE ok hC ihb h3)
        · exact absurd hc Bool.false_ne_true
      · exact absurd hc Bool.false_ne_true
    | _ => exact absurd hc Bool.false_ne_true
  | cmp2 o o' a c d iha ihb ihc =>
    refine Sn.mk0 rfl rfl rfl (fun _ _ _ _ => rfl) fun b X sc hC ok e hc => ?_
    cases e with
    | Compare l os rs p =>
      rcases os with _ | ⟨q, _ | ⟨q', _ | ⟨_, _⟩⟩⟩
      · exact absurd hc Bool.false_ne_true
      · exact absurd hc Bool.false_ne_true
      · rcases rs with _ | ⟨m, _ | ⟨r, _ | ⟨_, _⟩⟩⟩
        · exact absurd hc Bool.false_ne_true
        · exact absurd hc Bool.false_ne_true
        · have h : (decide (o = q) && decide (o' = q') && decide (o' ≠ .In) && decide (o' ≠ .NotIn) && chk fns N a sc [l] && chk fns N c sc [m] && chk fns N d sc [r]) = true := hc
          simp only [Bool.and_eq_true, decide_eq_true_eq] at h
          obtain ⟨⟨⟨⟨⟨⟨rfl, rfl⟩, h1⟩, h2⟩, h3⟩, h4⟩, h5⟩ := h
          exact eCmp2 ok h1 h2 (iha.e b X sc hC ok l h3) (ihb.e b X sc hC ok m h4) (ihc.e b X sc hC ok r h5)
        · exact absurd hc Bool.false_ne_true
      · exact absurd hc Bool.false_ne_true
    | _ => exact absurd hc Bool.false_ne_true
  | cnt a c iha ihb =>
    refine Sn.mk0 rfl rfl rfl (fun _ _ _ _ => rfl) fun b X sc hC ok e hc => ?_
    cases e with
    | Call fn es ks p =>
      cases fn with
      | Attribute o m q =>
        rcases es with _ | ⟨e, _ | ⟨_, _⟩⟩
        · exact absurd hc Bool.false_ne_true
        · cases ks with
          | cons _ _ => exact absurd hc Bool.false_ne_true
          | nil =>
            have h : (decide (m = "count") && (q.endLine == p.line) && plainE e && noAttr o && chk fns N a sc [o] && chk fns N c sc [e]) = true := hc
            simp only [Bool.and_eq_true, decide_eq_true_eq] at h
            obtain ⟨⟨⟨⟨⟨rfl, h1⟩, h2⟩, h3⟩, h4⟩, h5⟩ := h
            have z := eCnt (p := p) (q := q) h3 h1 h2 (pkE ok hC iha h4) (ihb.e b X sc hC ok e h5)
            exact ⟨z, ptOf z fun _ => rfl⟩
        · exact absurd hc Bool.false_ne_true
      | _ => exact absurd hc Bool.false_ne_true
    | _ => exact absurd hc Bool.false_ne_true
  | dsp kvs a iha =>
    refine Sn.mk0 rfl rfl rfl (fun _ _ _ _ => rfl) fun b X sc hC ok e hc => ?_
    cases e with
    | Subscript o e p =>
      cases o with
      | Dict ks vs p2 =>
        have h : (dspB kvs ks vs && ndB (kvs.map (·.1)) && decide (kvs.length ≤ 15) && !kvs.isEmpty && plainE e && chk fns N a sc [e]) = true := hc
        simp only [Bool.and_eq_true, decide_eq_true_eq, Bool.not_eq_true'] at h
        obtain ⟨⟨⟨⟨⟨h1, h2⟩, h3⟩, h4⟩, h5⟩, h6⟩ := h
        have z := eDsp ok (p := p) (p2 := p2) h1 h2 h3 (fun z => by rw [z] at h4; cases h4) h5 (iha.e b X sc hC ok e h6)
        exact ⟨z, ptOf z fun _ => rfl⟩
      | _ => exact absurd hc Bool.false_ne_true
    | _ => exact absurd hc Bool.false_ne_true
  | rvr a ih =>
    refine Sn.mkI rfl rfl (fun _ _ => rfl) fun b X sc hC ok e tg hc => ?_
    cases e with
    | Call fn es ks p =>
      cases fn with
      | Name x p2 =>
        rcases es with _ | ⟨e, _ | ⟨_, _⟩⟩
        · exact absurd hc Bool.false_ne_true
        · cases e with
          | Call fn2 es2 ks2 p3 =>
            cases fn2 with
            | Name y p4 =>
              rcases es2 with _ | ⟨e2, _ | ⟨_, _⟩⟩
              · exact absurd hc (by cases ks2 <;> cases ks <;> exact Bool.false_ne_true)
              · cases ks2 with
                | cons _ _ => exact absurd hc (by cases ks <;> exact Bool.false_ne_true)
                | nil =>
                  cases ks with
                  | cons _ _ => exact absurd hc Bool.false_ne_true
                  | nil =>
                    have h : (decide (x = "reversed") && glB sc x && decide (y = "range") && glB sc y && plainE e2 && chk fns N a sc [e2]) = true := hc
                    simp only [Bool.and_eq_true, decide_eq_true_eq] at h
                    obtain ⟨⟨⟨⟨⟨h1, h2⟩, h3⟩, h4⟩, h5⟩, h6⟩ := h
                    exact iRvrGo ok (ih.e b X sc hC ok e2 h6) h1 h2 h3 h4 h5
              · exact absurd hc (by cases ks2 <;> cases ks <;> exact Bool.false_ne_true)
            | _ => exact absurd hc (by cases ks <;> exact Bool.false_ne_true)
          | _ => exact absurd hc (by cases ks <;> exact Bool.false_ne_true)
        · exact absurd hc (by simp [chk])
      | _ => exact absurd hc Bool.false_ne_true
    | _ => exact absurd hc Bool.false_ne_true
  | gc f d =>
    refine Sn.mk0 rfl rfl rfl (fun _ _ _ _ => rfl) fun b X sc hC ok e hc => ?_
    cases e with
    | Name x p => exact ⟨eGc ok hc, ptOf (eGc ok hc) fun _ => rfl⟩
    | _ => exact absurd hc Bool.false_ne_true
end
end Rc

/-! Statements. -/
namespace Rc
open PySem PySem.Spec PyProof.Rows L2
/-! ### the look at the text -/
def isSq : IS → Bool
  | .nil => true
  | .seq _ _ => true
  | .still _ _ => true
  | _ => false
/-- the store of a comprehension is done within its frame -/
def swB (sc : Scope) (x : Str) (l : Nat) : Expr → Bool
  | .ListComp _ _ scope p => lclB sc x && (l == p.line) && !(scope.names.any fun (n, k) => n == x && (k == .local || k == .cell))
  | _ => false
def isLC : Expr → Bool
  | .ListComp .. => true
  | _ => false
def notTup : Expr → Bool
  | .Tuple vs _ _ => !(vs.length == 2 || vs.length == 3) || vs.all (foldedForSure 8)
  | _ => true
theorem swN {es : List Expr} {v : Expr} {n : Nat} {p : Pos} {env : Env} (h : notTup v = true) : swappedStores [.Tuple es n p] v env = pure none := by
  cases v with
  | Tuple vs m q =>
    have h : (!(vs.length == 2 || vs.length == 3) || vs.all (foldedForSure 8)) = true := h
    unfold swappedStores
    dsimp only
    split
    · rfl
    · rename_i g
      split
      · rfl
      · split
        · rfl
        · split
          · rfl
          · rename_i g2
            exfalso
            rw [Bool.or_eq_true] at h
            rcases h with h | h
            · refine g ?_
              rw [Bool.or_eq_true, Bool.or_eq_true]
              by_cases e : vs.length = es.length
              · rw [e] at h
                exact .inl (.inl h)
              · exact .inl (.inr (by simpa using e))
            · exact g2 h
  | _ => rfl
def noStarB : Expr → Bool
  | .Starred .. => false
  | _ => true
/-- two or three names by as many values, stored from the right -/
def parB (sc : Scope) (xs : List (Str × Pos)) (vs : List Expr) : Bool :=
  (xs.all fun q => lclB sc q.1 && (q.2.line == ((xs.head?.map (·.2.line)).getD 0))) && vs.all noStarB && !(vs.all (foldedForSure 8)) && !(vs.all (constantsAlone 8))
def isStr : Expr → Bool
  | .Constant (.str _) _ _ => true
  | _ => false
def isBH : HE → Bool
  | .cst (.bool _) => true
  | .cst _ => false
  | _ => true
section
variable (cls : List Str) (N : List Str) (jo : Option Nat)
def isxB (sc : Scope) (x n : Str) : Bool := decide (x = "isinstance") && glB sc x && (match jo with
  | some j => nmB N j n && visB sc n
  | none => false)
def chkH : HE → Scope → List Expr → Bool
  | .cst c, _, [.Constant k _ _] => litB c k
  | .isx c, sc, [.Call (.Name x _) [.Name n _, .Name y _] [] _] => isxB N jo sc x n && decide (cls[c]? = some y) && glB sc y && !(y == ("__debug__" : Str))
  | .isv, sc, [.Call (.Name x _) [.Name n _, .Name y _] [] _] => isxB N jo sc x n && decide (y = "ValueError") && glB sc y && !cls.isEmpty
  | .bnot a, sc, [.UnaryOp .Not e _] => isBH a && chkH a sc [e]
  | .band a r, sc, [.BoolOp .And (x :: y :: rest) p] => isBH a && isBH r && chkH a sc [x] && chkH r sc [.BoolOp .And (y :: rest) p]
  | .bor a r, sc, [.BoolOp .Or (x :: y :: rest) p] => isBH a && isBH r && chkH a sc [x] && chkH r sc [.BoolOp .Or (y :: rest) p]
  | .bone a, sc, [.BoolOp _ [x] _] => isBH a && chkH a sc [x]
  | _, _, _ => false
/-- the suite: the name of the clause is stored in no place of its own -/
def chkHS : HS → Scope → List Stmt → Bool
  | .nil, _, [] => true
  | .asg j e r, sc, .Assign [.Name x p] v _ :: sts => nmB N j x && locB sc x && noComp v && !(decide (jo = some j)) && chkH cls N jo e sc [v] && chkHS r sc sts
  | .ite c a b r, sc, .If t x y _ :: sts => isBH c && chkH cls N jo c sc [t] && chkHS a sc x && chkHS b sc y && chkHS r sc sts
  | .ret e, sc, [.Return (some v) _] => chkH cls N jo e sc [v]
  | _, _, _ => false
def excB (sc : Scope) (n : Option Str) : Bool := match jo, n with
  | some j, some n => nmB N j n && lclB sc n
  | none, none => true
  | _, _ => false
end
section
variable (fns : List FnI) (cls : List Str) (N : List Str)
def chkS : IS → Scope → List Stmt → Bool
  | .nil, _, [] => true
  | .seq s r, sc, st :: sts => !isSq s && chkS s sc [st] && isSq r && chkS r sc sts
  | .still j r, sc, sts => isSq r && chkS r sc sts
  | .asg j e, sc, [.Assign [.Name x p] v _] => nmB N j x && locB sc x && (if isLC v then swB sc x p.line v else noComp v) && chk fns N e sc [v]
  | .asgT js e, sc, [.Assign [.Tuple es _ _] v _] => tgsB (locB sc) N js es && notTup v && noComp v && chk fns N e sc [v]
  | .par i j a b, sc, [.Assign [.Tuple [.Name x px, .Name y py] _ _] (.Tuple [ea, eb] _ _) _] => nmB N i x && nmB N j y && decide (i ≠ j) && parB sc [(x, px), (y, py)] [ea, eb] &&
      plainE ea && plainE eb && chk fns N a sc [ea] && chk fns N b sc [eb]
  | .setIx j k e, sc, [.Assign [.Subscript (.Name x _) ke _] v _] => nmB N j x && visB sc x && plainE ke && noComp v && chk fns N e sc [v] && chk fns N k sc [ke]
  | .app j e, sc, [.Expr (.Call (.Attribute (.Name x _) m q) [v] [] r) _] => decide (m = "append") && nmB N j x && visB sc x && plainE v && (q.endLine == r.line) && chk fns N e sc [v]
  | .pop j, sc, [.Expr (.Call (.Attribute (.Name x _) m q) [] [] r) _] => decide (m = "pop") && nmB N j x && visB sc x && (q.endLine == r.line)
  | .drop e, sc, [.Expr v _] => noComp v && chk fns N e sc [v]
  | .ret e, sc, [.Return (some v) _] => chk fns N e sc [v]
  | .retN, _, [.Return none _] => true
  | .ite c a b, sc, [.If t x y _] => chk fns N c sc [t] && isSq a && isSq b && chkS a sc x && chkS b sc y
  | .whl c b, sc, [.While t x [] _] => chk fns N c sc [t] && isSq b && chkS b sc x
  | .forr t it b, sc, [.For tg iter x [] _] => isIt it && plainE iter && chk fns N it sc [iter, tg] && tgB (locB sc) N t tg && isSq b && chkS b sc x
  | .raise c, sc, [.Raise (some (.Call (.Name x _) [e] [] _)) none _] => decide (cls[c]? = some x) && glB sc x && !(x == ("__debug__" : Str)) && isStr e
  | .try1 s c j h, sc, [.Try x [.ExceptHandler (some (.Name y _)) n (h0 :: hs) _] [] [] _] => isSq s && chkS s sc x && decide (cls[c]? = some y) && glB sc y && !(y == ("__debug__" : Str)) && excB N j sc n && chkHS cls N j h sc (h0 :: hs)
  | .brk, _, [.Break _] => true
  | .cont, _, [.Continue _] => true
  | .pass, _, [.Pass _] => true
  | .never, _, [_] => true
  | .ins j k e, sc, [.Expr (.Call (.Attribute (.Name x _) m q) [ke, v] [] r) _] => decide (m = "insert") && nmB N j x && visB sc x && plainE ke && plainE v && (q.endLine == r.line) && chk fns N k sc [ke] && chk fns N e sc [v]
  | .popT t j, sc, [.Assign [tg] (.Call (.Attribute (.Name x _) m q) [] [] r) _] => decide (m = "pop") && tgB (locB sc) N t tg && nmB N j x && visB sc x && (q.endLine == r.line)
  | .popI t j k, sc, [.Assign [tg] (.Call (.Attribute (.Name x _) m q) [ke] [] r) _] => decide (m = "pop") && tgB (locB sc) N t tg && nmB N j x && visB sc x && (q.endLine == r.line) && plainE ke && chk fns N k sc [ke]
  | .ext j e, sc, [.Expr (.Call (.Attribute (.Name x _) m q) [v] [] r) _] => decide (m = "extend") && nmB N j x && visB sc x && plainE v && (q.endLine == r.line) && chk fns N e sc [v]
  | .set2 j k l e, sc, [.Assign [.Tuple [.Subscript (.Name x _) ke _, .Subscript (.Name y _) le _] _ _] v _] => nmB N j x && visB sc x && (nmB N j y && visB sc y) && plainE ke && plainE le && noComp v && chk fns N e sc [v] && chk fns N k sc [ke] && chk fns N l sc [le]
  | .aug j o e, sc, [.AugAssign (.Name x _) o' v _] => decide (o = o') && nmB N j x && locB sc x && chk fns N e sc [v]
  | .clr j, sc, [.Expr (.Call (.Attribute (.Name x _) m q) [] [] r) _] => decide (m = "clear") && nmB N j x && visB sc x && (q.endLine == r.line)
  | .clrE e, sc, [.Expr (.Call (.Attribute (.Call f (e1 :: es) ks fp) m q) [] [] r) _] => decide (m = "clear") && (q.endLine == r.line) && chk fns N e sc [.Call f (e1 :: es) ks fp]
  | .forP t j c e, sc, [.For tg (.Name x _) [.If ce [.Return (some v) _] [] _] [] _] => nmB N j x && visB sc x && !((tgs t).contains j) && tgB (locB sc) N t tg && chk fns N c sc [ce] && chk fns N e sc [v]
  | _, _, _ => false
end
theorem noSw2 {e t : Expr} {l : Nat} {env : Env} (h : noComp e = true) : swapsWithSole [t] e l env = pure false := by
  cases e <;> first | rfl | exact absurd h Bool.false_ne_true
/-! ### readings -/
structure EnOk (K : PySem.W.Frag) (b : Bd) (E : En) (D : Ends) : Prop where
  nx : ∀ σ ε H F, Rep K b.H0 b.F0 F H σ ε → E.nx ε → D.nx σ H
  rt : ∀ v σ ε H F x, Rep K b.H0 b.F0 F H σ ε → VAt K b.H0 F H σ ε x v → E.rt v → D.rt x H
  bk : ∀ σ ε H F, Rep K b.H0 b.F0 F H σ ε → E.bk ε → D.bk σ H
  ct : ∀ σ ε H F, Rep K b.H0 b.F0 F H σ ε → E.ct ε → D.ct σ H
  ex : ∀ c σ ε H F, Rep K b.H0 b.F0 F H σ ε → E.ex c ε → b.W (.ref (b.C c)) none σ H
def rdS (K : PySem.W.Frag) (b : Bd) (T : Ev → En → Prop) : TS := fun D σ H => ∃ ε F E, Rep K b.H0 b.F0 F H σ ε ∧ T ε E ∧ EnOk K b E D
theorem EnOk.toEx {K : PySem.W.Frag} {b : Bd} {E : En} {D : Ends} (h : EnOk K b E D) {σ : St} {H : Hp} : Ex K b E.ex σ H := fun c ε' H' F' _ R q => h.ex c σ ε' H' F' R q
section
variable {X : Cx} {K : PySem.W.Frag} {b : Bd} {E : En} {D : Ends}
theorem EnOk.nx' (h : EnOk K b E D) {nx : Ev → Prop} {nx' : St → Hp → Prop} (q : ∀ σ ε H F, Rep K b.H0 b.F0 F H σ ε → nx ε → nx' σ H) : EnOk K b { E with nx := nx } { D with nx := nx' } := ⟨q, h.rt, h.bk, h.ct, h.ex⟩
theorem psEx {α : Type} {st : Stmt} {t : α → TS} (h : ∀ a, PS X st (t a)) : PS X st (fun D σ H => ∃ a, t a D σ H) := ⟨fun pins s σ H D I ⟨a, w⟩ => (h a).run pins s σ H D I w⟩
theorem pssEx {α : Type} {sts : List Stmt} {t : α → TS} (h : ∀ a, PSs X sts (t a)) : PSs X sts (fun D σ H => ∃ a, t a D σ H) := ⟨fun pins s σ H D I ⟨a, w⟩ => (h a).run pins s σ H D I w⟩
/-- the ground moved up to what stands still now -/
theorem Rep.up {H0 F0 F H : Hp} {σ : St} {ε : Ev} (R : Rep K H0 F0 F H σ ε) : Rep K H0 F F H σ ε := ⟨R.fh, .refl _, R.h0, fun _ _ h => .inl h, R.len, R.dat, R.own, R.uni⟩
theorem Rep.down {H0 F0 F1 F H H1 : Hp} {σ σ1 : St} {ε ε1 : Ev} (R1 : Rep K H0 F0 F1 H1 σ1 ε1) (R : Rep K H0 F1 F H σ ε) : Rep K H0 F0 F H σ ε :=
  ⟨R.fh, R1.ff.trans R.ff, R.h0, fun a o h => (R.fr a o h).elim (R1.fr a o) .inr, R.len, R.dat, R.own, R.uni⟩
theorem EnOk.up {F1 H1 : Hp} {σ1 : St} {ε1 : Ev} (R1 : Rep K b.H0 b.F0 F1 H1 σ1 ε1) (h : EnOk K b E D) : EnOk K { b with F0 := F1 } E D where
  nx := fun σ ε H F R => h.nx σ ε H F (R1.down R)
  rt := fun v σ ε H F x R a => h.rt v σ ε H F x (R1.down R) a
  bk := fun σ ε H F R => h.bk σ ε H F (R1.down R)
  ct := fun σ ε H F R => h.ct σ ε H F (R1.down R)
  ex := fun c σ ε H F R => h.ex c σ ε H F (R1.down R)
end
section
variable {fns : List FnI} {cls : List Str} {N : List Str} {C : Nat → Addr} {Φ : Fs} {k : Nat} {X : Cx} {b : Bd} {sc : Scope}
structure Cks (X : Cx) : Prop where
  pas : PassesOwn (model X.prog X.w) X.A X.env X.xe
  fn : ∀ x, X.fn x = true
  kind : X.env.scope.kind = .function
  stack : X.stack = X.env :: X.outer
  frame : X.env.frame = some X.env.locals
theorem rdGo {e : IE} {Kk : Ev → En → KE} {D : Ends} {σ : St} {H : Hp} {Q : VK} (h : rdS X.K b (fun ε E => wE Φ e ε E.ex (Kk ε E)) D σ H)
    (q : ∀ ε F E, Rep X.K b.H0 b.F0 F H σ ε → EnOk X.K b E D → ∀ v ε' H' F' x, Same H H' → Sub F F' → Rep X.K b.H0 b.F0 F' H' σ ε' → VAt X.K b.H0 F' H' σ ε' x v → Kk ε E v ε' → Q x H') : rdE X.K b (wE Φ e) σ H Q := by
  obtain ⟨ε, F, E, R, w, en⟩ := h
  exact ⟨ε, F, E.ex, _, R, w, en.toEx, q ε F E R en⟩
theorem sAsg (ok : Cok fns cls N C Φ k X sc b.W) (ks : Cks X) {j : Nat} {x : Str} {e : IE} {v : Expr} {p pos : Pos} (h1 : nmB N j x = true) (h2 : locB sc x = true) (h3 : noComp v = true) (he : PE X v (rdE X.K b (wE Φ e))) :
    PS X (.Assign [.Name x p] v pos) (rdS X.K b (wS Φ (.asg j e))) := by
  obtain ⟨g1, _, _⟩ := nmB_of h1
  refine psImp (ps_set ok.nd (by rw [ok.eN]; exact g1) (by rw [ok.esc]; exact locB_of h2) he (noSw h3) (.inl (ks.fn x))) fun D σ H h => ?_
  refine rdGo h fun ε F E R en v ε' H' F' z s f R' a q => ?_
  cases v with
  | d y => exact en.nx _ _ H' F' (R'.store a j) q
  | own ys => exact en.nx _ _ H' F' (R'.store a j) q
  | _ => exact q.elim
theorem sAsgT (ok : Cok fns cls N C Φ k X sc b.W) (ks : Cks X) {js : List Nat} {es : List Expr} {e : IE} {v : Expr} {n : Nat} {p pos : Pos} (h1 : tgsB (locB sc) N js es = true) (h2 : notTup v = true) (h3 : noComp v = true) (he : PE X v (rdE X.K b (wE Φ e))) :
    PS X (.Assign [.Tuple es n p] v pos) (rdS X.K b (wS Φ (.asgT js e))) := by
  have hg : PG X (.Tuple es n p) (gTg X.K (.tup js)) := pgTg ok.nd ok.calm (p := locB sc) (fun x hx => ⟨by rw [ok.esc]; exact locB_of hx, .inl (ks.fn x)⟩) (by rw [ok.eN]; exact h1)
  refine psImp (ps_asg (peD he) hg (noSw2 h3) ?_ rfl) fun D σ H h => ?_
  · exact swN h2
  · obtain ⟨ε, F, E, R, w, en⟩ := h
    exact ⟨ε, F, E.ex, _, R, w, en.toEx, fun d ε' H' F' z s f R' a q => tgGo R' a q fun σ' ε2 R2 _ q2 => en.nx σ' ε2 H' F' R2 q2⟩
theorem sRet {e : IE} {v : Expr} {pos : Pos} (he : PE X v (rdE X.K b (wE Φ e))) : PS X (.Return (some v) pos) (rdS X.K b (wS Φ (.ret e))) := by
  refine psImp (ps_ret he) fun D σ H h => rdGo h fun ε F E R en v ε' H' F' z s f R' a q => ?_
  cases v with
  | d y => exact en.rt _ σ ε' H' F' z R' a q
  | own ys => exact en.rt _ σ ε' H' F' z R' a q
  | _ => exact q.elim
theorem sDrop {e : IE} {v : Expr} {pos : Pos} (h3 : noComp v = true) (he : PE X v (rdE X.K b (wE Φ e))) : PS X (.Expr v pos) (rdS X.K b (wS Φ (.drop e))) := by
  refine psImp (ps_expr he (noSw h3)) fun D σ H h => rdGo h fun ε F E R en v ε' H' F' z s f R' a q => ?_
  cases v with
  | d y => exact en.nx σ ε' H' F' R' q
  | own ys => exact en.nx σ ε' H' F' R' q
  | _ => exact q.elim
theorem sIf {c : IE} {s t : IS} {e : Expr} {x y : List Stmt} {pos : Pos} (hc : PT X e (rdT X.K b (wE Φ c))) (h1 : PSs X x (rdS X.K b (wS Φ s))) (h2 : PSs X y (rdS X.K b (wS Φ t))) :
    PS X (.If e x y pos) (rdS X.K b (wS Φ (.ite c s t))) :=
  psImp (ps_if hc h1 h2) fun D σ H ⟨ε, F, E, R, w, en⟩ => by
    refine ⟨ε, F, E.ex, _, R, w, en.toEx, fun d ε' H' F' s f R' q => ?_⟩
    cases d with
    | true => exact ⟨ε', F', E, R', q, en⟩
    | false => exact ⟨ε', F', E, R', q, en⟩
theorem sWhl (ks : Cks X) {c : IE} {s : IS} {e : Expr} {x : List Stmt} {pos : Pos} (hc : PT X e (rdT X.K b (wE Φ c))) (h1 : PSs X x (rdS X.K b (wS Φ s))) :
    PS X (.While e x [] pos) (rdS X.K b (wS Φ (.whl c s))) :=
  psImp (ps_while ks.pas hc h1) fun D σ H ⟨ε, F, E, R, ⟨I, ⟨m0, i0⟩, turn⟩, en⟩ => by
    refine ⟨fun m σ H => ∃ ε F, Rep X.K b.H0 b.F0 F H σ ε ∧ I m ε, ⟨m0, ε, F, R, i0⟩, ?_⟩
    rintro m σ H ⟨ε, F, R, i⟩
    refine ⟨ε, F, E.ex, _, R, turn m ε i, en.toEx, fun d ε' H' F' s f R' q => ?_⟩
    cases d with
    | false => exact en.nx σ ε' H' F' R' q
    | true =>
      refine ⟨fun σ' H' => ∃ ε F, Rep X.K b.H0 b.F0 F H' σ' ε ∧ ∃ m', m' < m ∧ I m' ε, ?_, ε', F', _, R', q, ?_⟩
      · rintro σ' H' ⟨ε, F, R, m', hm, i⟩
        exact ⟨m', hm, ε, F, R, i⟩
      · exact ⟨fun σ ε H F R q => ⟨ε, F, R, q⟩, en.rt, en.nx, fun σ ε H F R q => ⟨ε, F, R, q⟩, en.ex⟩
theorem sFor (ok : Cok fns cls N C Φ k X sc b.W) (ks : Cks X) {t : Tg} {it : IE} {s : IS} {tg iter : Expr} {x : List Stmt} {pos : Pos} (hp : plainE iter = true) (hi : PI X tg iter (rdI X.K b (wE Φ it))) (hg : tgB (locB sc) N t tg = true)
    (h1 : ∀ F0, PSs X x (rdS X.K { b with F0 := F0 } (wS Φ s))) : PS X (.For tg iter x [] pos) (rdS X.K b (wS Φ (.forr t it s))) := by
  have pg : PG X tg (gTg X.K t) := pgTg ok.nd ok.calm (p := locB sc) (fun x hx => ⟨by rw [ok.esc]; exact locB_of hx, .inl (ks.fn x)⟩) (by rw [ok.eN]; exact hg)
  refine psImp (ps_for ks.pas ok.calm hi pg (pssEx h1) (fun _ => noFold hp)) fun D σ H ⟨ε, F, E, R, w, en⟩ => ?_
  refine ⟨ε, F, E.ex, _, R, w, en.toEx, fun ds ε1 H1 F1 J s1 f1 R1 J1 q1 => ?_⟩
  have en1 := en.up R1
  refine ⟨fun i m σ H => m = ds.length - i ∧ i ≤ ds.length ∧ ∃ ε F, Rep X.K b.H0 F1 F H σ ε ∧ forW t (fun ε2 D' => wS Φ s ε2 D') (ds.drop i) ε E, ⟨ds.length, by simp, Nat.zero_le _, ε1, F1, R1.up, q1⟩, ?_⟩
  rintro i m σ H ⟨rfl, hi, ε, F, R, wl⟩
  by_cases hlt : i < ds.length
  · refine .inr ⟨J1.go i H hlt (R.ff.trans R.fh), fun σ H => ∃ ε F, Rep X.K b.H0 F1 F H σ ε ∧ forW t (fun ε2 D' => wS Φ s ε2 D') (ds.drop (i + 1)) ε E,
      fun σ' H' q => ⟨ds.length - (i + 1), by omega, rfl, hlt, q⟩, fun v H2 y => ?_⟩
    obtain ⟨b1, F2, d, b2, b3, b4, b5, b6⟩ := J1.yld i H v H2 F hlt R.ff R.fh y
    have ed : ds.drop i = d :: ds.drop (i + 1) := by
      rw [List.drop_eq_getElem_cons hlt]
      have : ds[i] = d := by
        rw [List.getElem?_eq_getElem hlt] at b5
        exact Option.some.inj b5
      rw [this]
    rw [ed] at wl
    have R2 := R.grow b1 b2 b3 b4
    refine tgGo R2 b6 wl fun σ' ε2 R3 _ q2 => ⟨F1, ε2, F2, _, R3, q2, ?_⟩
    exact ⟨fun σ ε H F R q => ⟨ε, F, R, q⟩, en1.rt, en1.nx, fun σ ε H F R q => ⟨ε, F, R, q⟩, en1.ex⟩
  · have e : i = ds.length := by omega
    subst e
    rw [List.drop_length] at wl
    exact .inl ⟨J1.stop H (R.ff.trans R.fh), en1.nx σ ε H F R wl⟩
/-- a list of the frame's own, by its name -/
theorem ownGo {K : PySem.W.Frag} {H0 F0 F H : Hp} {σ : St} {ε : Ev} {j : Nat} {k : List D → Prop} (R : Rep K H0 F0 F H σ ε) (w : ownAt ε j k) :
    ∃ xs p vs, gv ε j = some (.own xs) ∧ σ[j]? = some (some (.ref p)) ∧ H p = some (.lst vs) ∧ DpAll K F vs xs ∧ k xs := by
  unfold ownAt at w
  split at w
  · rename_i xs hx
    obtain ⟨p, vs, e, h1, h2, h3, h4⟩ := R.own j xs hx
    exact ⟨xs, p, vs, hx, e, h1, h2, w⟩
  · exact w.elim
theorem sSetIx (ok : Cok fns cls N C Φ k X sc b.W) {j : Nat} {x : Str} {kE e : IE} {ke v : Expr} {p p2 pos : Pos} (h1 : (nmB N j x && visB sc x) = true) (h2 : plainE ke = true) (h3 : noComp v = true)
    (he : PE X v (rdE X.K b (wE Φ e))) (hk : PE X ke (rdE X.K b (wE Φ kE))) : PS X (.Assign [.Subscript (.Name x p) ke p2] v pos) (rdS X.K b (wS Φ (.setIx j kE e))) := by
  have pg := pg_sub (pos := p2) (peVar (p := p) ok h1) (peD hk) set_list (by
    intro w
    cases ke <;> first | rfl | exact absurd h2 Bool.false_ne_true)
  refine psImp (ps_asg (peD he) pg (noSw2 h3) rfl rfl) fun D σ H h => ?_
  obtain ⟨ε, F, E, R, w, en⟩ := h
  refine ⟨ε, F, E.ex, _, R, w, en.toEx, fun d ε1 H1 F1 z s1 f1 R1 a1 q1 => ?_⟩
  obtain ⟨xs0, r, vs0, g1, g2, g3, g4, q1⟩ := ownGo R1 q1
  refine ⟨.ref r, g2, ε1, F1, E.ex, _, R1, q1, en.toEx, fun i ε2 H2 F2 y s2 f2 R2 a2 q2 => ?_⟩
  cases i with
  | int n =>
    obtain ⟨xs, r', vs, k1, k2, k3, k4, m, e1, q3⟩ := ownGo R2 q2
    have er : r' = r := by
      rw [k2] at g2
      simpa using g2
    subst er
    refine ⟨r', vs, n, m, rfl, dpInt a2, k3, by rw [daLen k4]; exact e1, ?_⟩
    exact en.nx _ _ _ F2 (R2.change k1 k2 (daSet (dpSub f2 a1) m k4)) q3
  | _ => exact q2.elim
theorem setGo {j : Nat} {kE : IE} {v : D} {z : V} {σ : St} {H F : Hp} {ε : Ev} {Xp : XP} {Kk : Ev → Prop} {P : St → Hp → Prop} (R : Rep X.K b.H0 b.F0 F H σ ε) (d : Dp X.K F z v) (ex : ∀ H' F' σ' ε', Rep X.K b.H0 b.F0 F' H' σ' ε' → Ex X.K b Xp σ' H')
    (w : setW Φ j kE v ε Xp Kk) (kk : ∀ ε' F' H' , Rep X.K b.H0 b.F0 F' H' σ ε' → Sub F F' → Kk ε' → P σ H') : gSub (tVar j) (rdD X.K b (wE Φ kE)) rSetL z σ H P := by
  unfold setW at w
  obtain ⟨xs0, r, vs0, g1, g2, g3, g4, q1⟩ := ownGo R w
  refine ⟨.ref r, g2, ε, F, Xp, _, R, q1, ex _ _ _ _ R, fun i ε2 H2 F2 y s2 f2 R2 a2 q2 => ?_⟩
  cases i with
  | int n =>
    obtain ⟨xs, r', vs, k1, k2, k3, k4, m, e1, q3⟩ := ownGo R2 q2
    have er : r' = r := by
      rw [k2] at g2
      simpa using g2
    subst er
    refine ⟨r', vs, n, m, rfl, dpInt a2, k3, by rw [daLen k4]; exact e1, ?_⟩
    exact kk _ F2 _ (R2.change k1 k2 (daSet (dpSub f2 d) m k4)) f2 q3
  | _ => exact q2.elim
theorem swN2 {a b c d : Expr} {v : Expr} {p1 p2 p3 : Pos} {n : Nat} {env : Env} (h : noComp v = true) : swappedStores [.Tuple [.Subscript a b p1, .Subscript c d p2] n p3] v env = pure none := by
  cases v with
  | Tuple vs m q =>
    unfold swappedStores
    dsimp only
    split
    · rfl
    · split <;> rfl
  | _ => first | rfl | exact absurd h Bool.false_ne_true
theorem sSet2 (ok : Cok fns cls N C Φ k X sc b.W) (ks : Cks X) {j : Nat} {x y : Str} {kE lE e : IE} {ke le v : Expr} {p p2 p3 p4 p5 pos : Pos} {n : Nat} (h1 : (nmB N j x && visB sc x) = true) (h1' : (nmB N j y && visB sc y) = true) (h2 : plainE ke = true) (h2' : plainE le = true) (h3 : noComp v = true)
    (he : PE X v (rdE X.K b (wE Φ e))) (hk : PE X ke (rdE X.K b (wE Φ kE))) (hl : PE X le (rdE X.K b (wE Φ lE))) : PS X (.Assign [.Tuple [.Subscript (.Name x p) ke p2, .Subscript (.Name y p3) le p4] n p5] v pos) (rdS X.K b (wS Φ (.set2 j kE lE e))) := by
  have pg := pg_sub (pos := p2) (peVar (p := p) ok h1) (peD hk) set_list (by
    intro w
    cases ke <;> first | rfl | exact absurd h2 Bool.false_ne_true)
  have pg' := pg_sub (pos := p4) (peVar (p := p3) ok h1') (peD hl) set_list (by
    intro w
    cases le <;> first | rfl | exact absurd h2' Bool.false_ne_true)
  have pt := pg_tup (pos := p5) (k := n) ok.calm (pgs_cons pg (pgs_cons pg' pgs_nil))
  refine psImp (ps_asg (peD he) pt (noSw2 h3) (swN2 h3) rfl) fun D σ H h => ?_
  obtain ⟨ε, F, E, R, w, en⟩ := h
  refine ⟨ε, F, E.ex, _, R, w, en.toEx, fun d ε1 H1 F1 z s1 f1 R1 a1 q1 => ?_⟩
  cases d with
  | tuple ds =>
    rcases ds with _ | ⟨v1, _ | ⟨v2, _ | ⟨_, _⟩⟩⟩
    · exact q1.elim
    · exact q1.elim
    · obtain ⟨a, vs, rfl, r, da⟩ := dpTup a1
      cases da with
      | cons d1 dr =>
        cases dr with
        | cons d2 dn =>
          cases dn
          refine ⟨a, _, rfl, sqtSub R1.fh r, rfl, _, _, rfl, ?_⟩
          refine setGo R1 d1 (fun H' F' σ' ε' R' => en.toEx) q1 fun ε2 F2 H2 R2 f2 q2 => ?_
          refine ⟨_, _, rfl, ?_⟩
          refine setGo R2 (dpSub f2 d2) (fun H' F' σ' ε' R' => en.toEx) q2 fun ε3 F3 H3 R3 f3 q3 => ?_
          exact ⟨rfl, en.nx _ _ _ F3 R3 q3⟩
    · exact q1.elim
  | _ => exact q1.elim
theorem tyLst {K : PySem.W.Frag} {p : Addr} {H : Hp} {vs : List V} (h : H p = some (.lst vs)) : tyV K "list" (.ref p) H := .inl ⟨rfl, _, .inl (.inl h)⟩
theorem sApp (ok : Cok fns cls N C Φ k X sc b.W) {j : Nat} {x : Str} {e : IE} {v : Expr} {p p2 p3 pos : Pos} (h1 : (nmB N j x && visB sc x) = true) (h2 : plainE v = true) (hl : (p2.endLine == p3.line) = true)
    (he : PE X v (rdE X.K b (wE Φ e))) : PS X (.Expr (.Call (.Attribute (.Name x p) "append" p2) [v] [] p3) pos) (rdS X.K b (wS Φ (.app j e))) := by
  have pe := pe_bm (apos := p2) (cpos := p3) PySem.F.plainAttrs_list PySem.F.slot_list_append PySem.F.type_list_append mt_append (peVar (p := p) ok h1) (pa_cons (peD he) pa_nil (starOf h2)) rfl (by rw [starOf h2]; rfl) hl (starOf h2) rfl
  refine psImp (ps_expr pe rfl) fun D σ H h => ?_
  obtain ⟨ε, F, E, R, w, en⟩ := h
  obtain ⟨xs0, r, vs0, g1, g2, g3, g4, w⟩ := ownGo R w
  refine ⟨.ref r, g2, tyLst g3, ε, F, E.ex, _, R, w, en.toEx, fun d ε1 H1 F1 z s1 f1 R1 a1 q1 => ?_⟩
  obtain ⟨xs, r', vs, k1, k2, k3, k4, q2, q3⟩ := ownGo R1 q1
  have er : r' = r := by
    rw [k2] at g2
    simpa using g2
  subst er
  exact ⟨r', vs, z, rfl, rfl, k3, by rw [daLen k4, line24]; exact q2, en.nx _ _ _ F1 (R1.change k1 k2 (daApp k4 (.cons a1 .nil))) q3⟩
theorem sPop (ok : Cok fns cls N C Φ k X sc b.W) {j : Nat} {x : Str} {p p2 p3 pos : Pos} (h1 : (nmB N j x && visB sc x) = true) (hl : (p2.endLine == p3.line) = true) :
    PS X (.Expr (.Call (.Attribute (.Name x p) "pop" p2) [] [] p3) pos) (rdS X.K b (wS Φ (.pop j))) := by
  have pe := pe_bm0 (apos := p2) (cpos := p3) PySem.F.plainAttrs_list PySem.F.slot_list_pop PySem.F.type_list_pop mt_pop (peVar (p := p) ok h1) rfl hl
  refine psImp (ps_expr pe rfl) fun D σ H h => ?_
  obtain ⟨ε, F, E, R, w, en⟩ := h
  obtain ⟨xs, r, vs, g1, g2, g3, g4, w1, w2⟩ := ownGo R w
  have hl := daLen g4
  have hp : 0 < vs.length := by
    rw [hl]
    exact List.length_pos_iff.mpr w1
  exact ⟨.ref r, g2, tyLst g3, r, vs, vs[vs.length - 1]'(by omega), rfl, rfl, g3, List.getElem?_eq_getElem (by omega), en.nx _ _ _ F (R.change g1 g2 (daDropLast g4)) w2⟩
theorem sLc (ok : Cok fns cls N C Φ k X sc b.W) (hC : b.C = C) (ks : Cks X) {j : Nat} {y : Str} {t : Tg} {itE cE eE : IE}
    {tg iter e : Expr} {ifs : List Expr} {scope : Scope} {p py spos : Pos} (hj : nmB N j y = true) (hs : swB sc y py.line (.ListComp e [⟨tg, iter, ifs, 0⟩] scope p) = true)
    (h1 : isIt itE = true) (h2 : chk fns N itE sc [iter, tg] = true) (h3 : tgB (lclB (relS scope sc)) N t tg = true) (h4 : blkC N sc scope (tgOwn t tg) = true)
    (h5 : ifsB (isNil cE) ifs (fun f => chk fns N cE (relS scope sc) [f]) = true) (h6 : chk fns N eE (relS scope sc) [e] = true) (h7 : plainE iter = true) :
    PS X (.Assign [.Name y py] (.ListComp e [⟨tg, iter, ifs, 0⟩] scope p) spos) (rdS X.K b (wS Φ (.asg j (.lc t itE cE eE)))) := by
  obtain ⟨q1, q2, q3, q4, q5⟩ := lcParts ok hC (snAll itE) (snAll cE) (snAll eE) h1 h2 h3 h4 h5 h6
  obtain ⟨g1, _, _⟩ := nmB_of hj
  have hs' : (lclB sc y && (py.line == p.line) && !(scope.names.any fun (n, k) => n == y && (k == .local || k == .cell))) = true := hs
  simp only [Bool.and_eq_true, Bool.not_eq_true'] at hs'
  obtain ⟨⟨s1, s2⟩, s3⟩ := hs'
  have hl : X.env.scope.names.lookup y = some .local := by rw [ok.esc]; exact lclB_of s1
  have hk := ks.kind
  refine psImp (ps_setLc ok.calm ok.nd (by rw [ok.eN]; exact g1) hl (sw_true hk hl s2 s3) q1 q2 q3 q4 q5 (fun x => noFold h7)) fun D σ H h => ?_
  rw [tgOwn_ix h3]
  refine lcGo (rdGo h fun ε F E R en v ε' H' F' z s f R' a q => ?_)
  cases v with
  | d y => exact en.nx _ _ H' F' (R'.store a j) q
  | own ys => exact en.nx _ _ H' F' (R'.store a j) q
  | _ => exact q.elim
theorem parSwap {env : Env} {sc : Scope} (he : env.scope = sc) (hk : env.scope.kind = .function) {x y : Str} {px py pt pt2 : Pos} {kt k2 : Nat} {a c : Expr} (hxy : x ≠ y) (h : parB sc [(x, px), (y, py)] [a, c] = true) :
    swappedStores [.Tuple [.Name x px, .Name y py] kt pt] (.Tuple [a, c] k2 pt2) env = pure (some [x, y]) := by
  unfold parB at h
  simp only [List.all_cons, List.all_nil, Bool.and_true, Bool.and_eq_true, Bool.not_eq_true', List.head?_cons, Option.map_some, Option.getD_some] at h
  obtain ⟨⟨⟨⟨⟨h1, h2⟩, h3, h4⟩, h5, h6⟩, h7⟩, h8⟩ := h
  have kx : env.kindOf x = some .local := by
    show env.scope.names.lookup x = _
    rw [he]; exact lclB_of h1
  have ky : env.kindOf y = some .local := by
    show env.scope.names.lookup y = _
    rw [he]; exact lclB_of h3
  have bk : env.blockKind = .function := by
    unfold Env.blockKind
    rw [hk]; rfl
  have e1 : (y == x) = false := by
    rw [beq_eq_false_iff_ne]
    exact Ne.symm hxy
  have e2 : [x, y].eraseDups = [x, y] := by
    simp [List.eraseDups_cons, e1, List.filter]
  have l2 : (px.line == px.line) = true := h2
  unfold swappedStores
  simp only [bk, List.any_cons, List.any_nil, Bool.or_false]
  rw [if_neg (by simp), if_neg]
  · have fm : ∀ {f : Expr → Option Str}, f (.Name x px) = some x → f (.Name y py) = some y → List.filterMap f [.Name x px, .Name y py] = [x, y] := fun {f} a1 a2 => by
      rw [List.filterMap_cons, a1]
      show x :: List.filterMap f [.Name y py] = _
      rw [List.filterMap_cons, a2]
      rfl
    rw [fm (by simp [kx, Expr.pos]) (by simp [ky, Expr.pos]; simpa using h4), e2]
    rw [if_neg (by simp), if_neg (by simp [h7]), if_neg (by simp [h8])]
  · intro hh
    rw [Bool.or_eq_true] at hh
    rcases hh with hh | hh
    · cases a <;> first | exact absurd hh Bool.false_ne_true | exact absurd h5 Bool.false_ne_true
    · cases c <;> first | exact absurd hh Bool.false_ne_true | exact absurd h6 Bool.false_ne_true
theorem sRaise (ok : Cok fns cls N C Φ k X sc b.W) (hC : b.C = C) {c : Nat} {x : Str} {e : Expr} {p p2 pos : Pos} (h1 : cls[c]? = some x) (h2 : glB sc x = true) (h3 : (x == ("__debug__" : Str)) = false) (h4 : isStr e = true) :
    PS X (.Raise (some (.Call (.Name x p) [e] [] p2)) none pos) (rdS X.K b (wS Φ (.raise c))) := by
  obtain ⟨g1, g2, g3, g4, g5⟩ := ok.exc c x h1
  cases e with
  | Constant q n p3 =>
    cases q with
    | str m =>
      refine psImp (ps_raise ok.calm ok.tk (pmk_own PySem.F.excBase_ValueError g2 g1 g3 (raises_own g4 g5) (glB_of ok h2) h3)) fun D σ H ⟨ε, F, E, R, w, en⟩ => ?_
      have q := en.ex c σ ε H F R w
      rw [hC] at q
      exact q
    | _ => exact absurd h4 Bool.false_ne_true
  | _ => exact absurd h4 Bool.false_ne_true
end
end Rc

/-! try: an except clause's suite, the statement. -/
namespace Rc
open PySem PySem.Spec PyProof.Rows L2
def hV : D → V
  | .bool b => .bl b
  | .int i => .int i
  | .str x => .str x
  | _ => .non
theorem hV_dp {K : PySem.W.Frag} {F : Hp} {c : D} {q : Const} (h : litB c q = true) : Dp K F (hV c) c := by
  cases c <;> first | exact .non | exact .bl _ | exact .int _ | exact .str _ | (cases q <;> exact absurd h Bool.false_ne_true)
section
variable {fns : List FnI} {cls : List Str} {N : List Str} {C : Nat → Addr} {Φ : Fs} {k : Nat} {X : Cx} {b : Bd} {sc : Scope} {jo : Option Nat} {a : Addr} {oe : Obj} {pn : List (Addr × Obj)} {c' : Nat}
/-- the clause's name holds what was caught -/
def Hn (jo : Option Nat) (a : Addr) (σ : St) : Prop := ∀ j, jo = some j → j < σ.length → σ[j]? = some (some (.ref a))
def tHv (jo : Option Nat) (a : Addr) (d : D) : TE := fun σ H Q => Hn jo a σ ∧ Q (hV d) H
def tHt (jo : Option Nat) (a : Addr) (d : Bool) : TT := fun σ H Q => Hn jo a σ ∧ Q d H
theorem isx_run (ok : Cok fns cls N C Φ k X sc b.W) (hne : cls ≠ []) (hz : Zc (.ref (C c')) none oe) (hf : ∃ vs, oe.data = .fields vs) {x n : Str} {e2 : Expr} {p p1 pos : Pos} {v : V} {cv : Value} {r : Bool}
    (h : isxB N jo sc x n = true) (h2 : PE (X.suite a ((a, oe) :: pn)) e2 (tC v)) (pl : plainE e2 = true) (hv : ∀ u, RelV v u → u = cv) (e : PySem.W.kitOne X.K (.ref (C c')) cv = some r) :
    PE (X.suite a ((a, oe) :: pn)) (.Call (.Name x p) [.Name n p1, e2] [] pos) (tHv jo a (.bool r)) := by
  unfold isxB at h
  simp only [Bool.and_eq_true, decide_eq_true_eq] at h
  obtain ⟨⟨rfl, h1⟩, h3⟩ := h
  cases jo with
  | none => exact absurd h3 Bool.false_ne_true
  | some j =>
    have h3' : nmB N j n = true ∧ visB sc n = true := by simpa [Bool.and_eq_true] using h3
    obtain ⟨g1, g2, g3⟩ := nmB_of h3'.1
    have pv : PE (X.suite a ((a, oe) :: pn)) (.Name n p1) (tVar j) := pe_var (by show X.N[j]? = _; rw [ok.eN]; exact g1) (by show Vis X.env.scope n; rw [ok.esc]; exact visB_of h3'.2) g2 g3
    have pv : PE (X.suite a ((a, oe) :: pn)) (.Name n p1) (fun σ H Q => Hn (some j) a σ ∧ Q (.ref a) H) := ⟨fun pins s σ H Q I w => pv.run pins s σ H Q I ⟨.ref a, w.1 j rfl (by
      have e1 : σ.length = X.N.length := I.len
      rw [e1, ok.eN]
      exact (List.getElem?_eq_some_iff.mp g1).1), w.2⟩⟩
    have hg0 : Gl X "isinstance" := glB_of ok h1
    have hg : Gl (X.suite a ((a, oe) :: pn)) "isinstance" := hg0
    refine peImp (pe_callB (call_isE (X := X) (pn := pn) (ok.xf.cc c' hne) hz hf) hg (ok.blt _ (by decide)) (by decide +kernel) (pa_cons pv (pa_cons h2 pa_nil (starOf pl)) (starOf (e := .Name n p1) rfl)) (by decide) (by decide) (starOf (e := .Name n p1) rfl) ?_) fun σ H Q ⟨q1, q2⟩ => ?_
    · rw [starOf pl]; rfl
    · exact ⟨q1, v, cv, r, rfl, hv, e, q2⟩
theorem ptH {e : Expr} {X' : Cx} {d : Bool} (h : PE X' e (tHv jo a (.bool d))) (he : ∀ whole, isTrue e X'.env whole = (do let v ← whole; standAt e.pos; holding [v] (truthy v))) : PT X' e (tHt jo a d) :=
  ptImp (pt_val h he) fun σ H Q ⟨q1, q2⟩ => ⟨q1, d, rfl, q2⟩
theorem hE_b {h : HE} (hb : isBH h = true) : hE c' h = .bool (hB c' h) := by
  cases h with
  | cst c => cases c <;> first | rfl | exact absurd hb Bool.false_ne_true
  | _ => rfl
theorem hOk (ok : Cok fns cls N C Φ k X sc b.W) (hne : cls ≠ []) (hz : Zc (.ref (C c')) none oe) (hf : ∃ vs, oe.data = .fields vs) (h : HE) : ∀ e, chkH cls N jo h sc [e] = true →
    PE (X.suite a ((a, oe) :: pn)) e (tHv jo a (hE c' h)) ∧ (isBH h = true → PT (X.suite a ((a, oe) :: pn)) e (tHt jo a (hB c' h))) ∧
    (∀ op es pos, e = .BoolOp op es pos → PW (X.suite a ((a, oe) :: pn)) e (tHt jo a (hB c' h))) := by
  have fin : ∀ {e : Expr} {h : HE}, isBH h = true → PE (X.suite a ((a, oe) :: pn)) e (tHv jo a (hE c' h)) → PW (X.suite a ((a, oe) :: pn)) e (tHt jo a (hB c' h)) →
      PE (X.suite a ((a, oe) :: pn)) e (tHv jo a (hE c' h)) ∧ (isBH h = true → PT (X.suite a ((a, oe) :: pn)) e (tHt jo a (hB c' h))) ∧
      (∀ op es pos, e = .BoolOp op es pos → PW (X.suite a ((a, oe) :: pn)) e (tHt jo a (hB c' h))) := fun hb h1 h2 => ⟨h1, fun _ => h2.pt, fun _ _ _ _ => h2⟩
  have toB : ∀ {e : Expr} {h : HE}, isBH h = true → PE (X.suite a ((a, oe) :: pn)) e (tHv jo a (hE c' h)) → PE (X.suite a ((a, oe) :: pn)) e (tHv jo a (.bool (hB c' h))) := fun hb q => by
    rw [← hE_b hb]; exact q
  induction h with
  | cst c =>
    intro e hc
    cases e with
    | Constant q n p =>
      have hl : litB c q = true := hc
      have pe : PE (X.suite a ((a, oe) :: pn)) (.Constant q n p) (tHv jo a c) := by
        have go : ∀ (v : V), hV c = v → PE (X.suite a ((a, oe) :: pn)) (.Constant q n p) (tC v) → PE (X.suite a ((a, oe) :: pn)) (.Constant q n p) (tHv jo a c) := fun v hv q => peImp q fun σ H Q ⟨_, q2⟩ => by
          rw [hv] at q2; exact q2
        cases c with
        | none => cases q <;> first | exact go _ rfl pe_non | exact absurd hl Bool.false_ne_true
        | bool x =>
          cases q with
          | bool y => cases (beq_iff_eq.mp hl); exact go _ rfl pe_bl
          | _ => exact absurd hl Bool.false_ne_true
        | int x =>
          cases q with
          | int y => cases (beq_iff_eq.mp hl); exact go _ rfl pe_int
          | _ => exact absurd hl Bool.false_ne_true
        | str x =>
          cases q with
          | str y => cases (of_decide_eq_true hl); exact go _ rfl pe_str
          | _ => exact absurd hl Bool.false_ne_true
        | _ => exact absurd hl Bool.false_ne_true
      refine ⟨pe, fun hb => ?_, fun _ _ _ z => by cases z⟩
      cases c with
      | bool x => exact ptH pe fun _ => rfl
      | _ => exact absurd hb Bool.false_ne_true
    | _ => exact absurd hc Bool.false_ne_true
  | isx c =>
    intro e hc
    cases e with
    | Call f es kws pos =>
      cases f with
      | Name x p =>
        cases es with
        | nil => exact absurd hc Bool.false_ne_true
        | cons e1 es =>
          cases e1 with
          | Name n p1 =>
            cases es with
            | nil => exact absurd hc Bool.false_ne_true
            | cons e2 es =>
              cases e2 with
              | Name y p2 =>
                cases es with
                | cons _ _ => exact absurd hc Bool.false_ne_true
                | nil =>
                  cases kws with
                  | cons _ _ => exact absurd hc Bool.false_ne_true
                  | nil =>
                    have h : (isxB N jo sc x n && decide (cls[c]? = some y) && glB sc y && !(y == ("__debug__" : Str))) = true := hc
                    simp only [Bool.and_eq_true, decide_eq_true_eq, Bool.not_eq_true'] at h
                    obtain ⟨⟨⟨h1, h2⟩, h3⟩, h4⟩ := h
                    have gy0 : Gl X y := glB_of ok h3
                    have gy : Gl (X.suite a ((a, oe) :: pn)) y := gy0
                    have pe := isx_run (p := p) (p1 := p1) (pos := pos) ok hne hz hf h1 (pe_glob (v := .ref (C c)) (pos := p2) gy (ok.exc c y h2).1 rfl h4) rfl (fun u r => r) (ok.xf.is c' c y h2)
                    exact ⟨pe, fun _ => ptH pe fun _ => rfl, fun _ _ _ z => by cases z⟩
              | _ => exact absurd hc Bool.false_ne_true
          | _ => exact absurd hc Bool.false_ne_true
      | _ => exact absurd hc Bool.false_ne_true
    | _ => exact absurd hc Bool.false_ne_true
  | isv =>
    intro e hc
    cases e with
    | Call f es kws pos =>
      cases f with
      | Name x p =>
        cases es with
        | nil => exact absurd hc Bool.false_ne_true
        | cons e1 es =>
          cases e1 with
          | Name n p1 =>
            cases es with
            | nil => exact absurd hc Bool.false_ne_true
            | cons e2 es =>
              cases e2 with
              | Name y p2 =>
                cases es with
                | cons _ _ => exact absurd hc Bool.false_ne_true
                | nil =>
                  cases kws with
                  | cons _ _ => exact absurd hc Bool.false_ne_true
                  | nil =>
                    have h : (isxB N jo sc x n && decide (y = "ValueError") && glB sc y && !cls.isEmpty) = true := hc
                    simp only [Bool.and_eq_true, decide_eq_true_eq, Bool.not_eq_true'] at h
                    obtain ⟨⟨⟨h1, rfl⟩, h3⟩, h4⟩ := h
                    have gy0 : Gl X "ValueError" := glB_of ok h3
                    have gy : Gl (X.suite a ((a, oe) :: pn)) "ValueError" := gy0
                    have pe := isx_run (p := p) (p1 := p1) (pos := pos) ok hne hz hf h1 (pe_bltn (pos := p2) (v := .ty "ValueError") (u := .type "ValueError") gy (ok.blt _ (by decide)) (by decide +kernel) rfl) rfl (fun u r => r) (ok.xf.ve c' hne)
                    exact ⟨pe, fun _ => ptH pe fun _ => rfl, fun _ _ _ z => by cases z⟩
              | _ => exact absurd hc Bool.false_ne_true
          | _ => exact absurd hc Bool.false_ne_true
      | _ => exact absurd hc Bool.false_ne_true
    | _ => exact absurd hc Bool.false_ne_true
  | bnot h ih =>
    intro e hc
    cases e with
    | UnaryOp op e p =>
      cases op with
      | Not =>
        have h2 : (isBH h && chkH cls N jo h sc [e]) = true := hc
        rw [Bool.and_eq_true] at h2
        obtain ⟨g1, g2, g3⟩ := ih e h2.2
        have pt : PT (X.suite a ((a, oe) :: pn)) (.UnaryOp .Not e p) (tHt jo a (hB c' (.bnot h))) := ptImp (pt_not (g2 h2.1)) fun σ H Q q => q
        exact ⟨peImp (pe_not (toB h2.1 g1)) fun σ H Q ⟨q1, q2⟩ => ⟨q1, _, rfl, q2⟩, fun _ => pt, fun _ _ _ z => by cases z⟩
      | _ => exact absurd hc Bool.false_ne_true
    | _ => exact absurd hc Bool.false_ne_true
  | band h r ih1 ih2 =>
    intro e hc
    cases e with
    | BoolOp op es pos =>
      cases op with
      | Or => exact absurd hc (by cases es with
        | nil => exact Bool.false_ne_true
        | cons _ es => cases es <;> exact Bool.false_ne_true)
      | And =>
        cases es with
        | nil => exact absurd hc Bool.false_ne_true
        | cons x es =>
          cases es with
          | nil => exact absurd hc Bool.false_ne_true
          | cons y rest =>
            have h2 : (isBH h && isBH r && chkH cls N jo h sc [x] && chkH cls N jo r sc [.BoolOp .And (y :: rest) pos]) = true := hc
            simp only [Bool.and_eq_true] at h2
            obtain ⟨⟨⟨b1, b2⟩, c1⟩, c2⟩ := h2
            obtain ⟨g1, g2, g3⟩ := ih1 x c1
            obtain ⟨k1, k2, k3⟩ := ih2 _ c2
            refine fin rfl (peImp (pe_and (toB b1 g1) (toB b2 k1)) fun σ H Q ⟨q1, q2⟩ => ⟨q1, _, rfl, ?_⟩) (pwImp (pw_and (g2 b1) (k3 _ _ _ rfl)) fun σ H Q ⟨q1, q2⟩ => ⟨q1, ?_⟩)
            · have q3 : Q (.bl (hB c' h && hB c' r)) H := q2
              cases z : hB c' h with
              | true => rw [z] at q3; exact ⟨q1, q3⟩
              | false => rw [z] at q3; exact q3
            · have q3 : Q (hB c' h && hB c' r) H := q2
              cases z : hB c' h with
              | true => rw [z] at q3; exact ⟨q1, q3⟩
              | false => rw [z] at q3; exact q3
    | _ => exact absurd hc Bool.false_ne_true
  | bor h r ih1 ih2 =>
    intro e hc
    cases e with
    | BoolOp op es pos =>
      cases op with
      | And => exact absurd hc (by cases es with
        | nil => exact Bool.false_ne_true
        | cons _ es => cases es <;> exact Bool.false_ne_true)
      | Or =>
        cases es with
        | nil => exact absurd hc Bool.false_ne_true
        | cons x es =>
          cases es with
          | nil => exact absurd hc Bool.false_ne_true
          | cons y rest =>
            have h2 : (isBH h && isBH r && chkH cls N jo h sc [x] && chkH cls N jo r sc [.BoolOp .Or (y :: rest) pos]) = true := hc
            simp only [Bool.and_eq_true] at h2
            obtain ⟨⟨⟨b1, b2⟩, c1⟩, c2⟩ := h2
            obtain ⟨g1, g2, g3⟩ := ih1 x c1
            obtain ⟨k1, k2, k3⟩ := ih2 _ c2
            refine fin rfl (peImp (pe_or (toB b1 g1) (toB b2 k1)) fun σ H Q ⟨q1, q2⟩ => ⟨q1, _, rfl, ?_⟩) (pwImp (pw_or (g2 b1) (k3 _ _ _ rfl)) fun σ H Q ⟨q1, q2⟩ => ⟨q1, ?_⟩)
            · have q3 : Q (.bl (hB c' h || hB c' r)) H := q2
              cases z : hB c' h with
              | false => rw [z] at q3; exact ⟨q1, q3⟩
              | true => rw [z] at q3; exact q3
            · have q3 : Q (hB c' h || hB c' r) H := q2
              cases z : hB c' h with
              | false => rw [z] at q3; exact ⟨q1, q3⟩
              | true => rw [z] at q3; exact q3
    | _ => exact absurd hc Bool.false_ne_true
  | bone h ih =>
    intro e hc
    cases e with
    | BoolOp op es pos =>
      cases es with
      | nil => cases op <;> exact absurd hc Bool.false_ne_true
      | cons x es =>
        cases es with
        | cons _ _ => cases op <;> exact absurd hc Bool.false_ne_true
        | nil =>
          have h2 : (isBH h && chkH cls N jo h sc [x]) = true := by cases op <;> exact hc
          rw [Bool.and_eq_true] at h2
          obtain ⟨g1, g2, g3⟩ := ih x h2.2
          refine fin rfl (peImp (pe_one (toB h2.1 g1)) fun σ H Q q => q) ?_
          cases op with
          | And => exact pwImp (pw_and1 (g2 h2.1)) fun σ H Q q => q
          | Or => exact pwImp (pw_or1 (g2 h2.1)) fun σ H Q q => q
    | _ => exact absurd hc Bool.false_ne_true
/-! ### the suite -/
/-- how the suite ends -/
structure HnOk (K : PySem.W.Frag) (b : Bd) (jo : Option Nat) (a : Addr) (E : En) (D : Ends) : Prop where
  nx : ∀ σ ε H F, Hn jo a σ → Rep K b.H0 b.F0 F H σ ε → (∀ j, jo = some j → gv ε j = none) → E.nx ε → D.nx σ H
  rt : ∀ v σ ε H F x, Rep K b.H0 b.F0 F H σ ε → VAt K b.H0 F H σ ε x v → E.rt v → D.rt x H
def rdH (K : PySem.W.Frag) (b : Bd) (jo : Option Nat) (a : Addr) (T : Ev → En → Prop) : TS := fun D σ H => ∃ ε F E, Hn jo a σ ∧ Rep K b.H0 b.F0 F H σ ε ∧ (∀ j, jo = some j → gv ε j = none) ∧ T ε E ∧ HnOk K b jo a E D
theorem hE_dp {K : PySem.W.Frag} {F : Hp} {h : HE} {e : Expr} (hc : chkH cls N jo h sc [e] = true) : Dp K F (hV (hE c' h)) (hE c' h) := by
  cases h with
  | cst c =>
    cases e with
    | Constant q n p => exact hV_dp (q := q) hc
    | _ => exact absurd hc Bool.false_ne_true
  | _ => exact .bl _
theorem hsOk (ok : Cok fns cls N C Φ k X sc b.W) (ks : ∀ x, X.fn x = true) (hne : cls ≠ []) (hz : Zc (.ref (C c')) none oe) (hf : ∃ vs, oe.data = .fields vs) (h : HS) : ∀ sts, chkHS cls N jo h sc sts = true →
    PSs (X.suite a ((a, oe) :: pn)) sts (rdH X.K b jo a (hS c' h)) := by
  induction h with
  | nil =>
    intro sts hc
    cases sts with
    | cons _ _ => exact absurd hc Bool.false_ne_true
    | nil => exact pssImp pss_nil fun D σ H ⟨ε, F, E, hn, R, g, w, en⟩ => en.nx σ ε H F hn R g w
  | asg j e r ih =>
    intro sts hc
    cases sts with
    | nil => exact absurd hc Bool.false_ne_true
    | cons st sts =>
      cases st with
      | Assign tgs v pos =>
        cases tgs with
        | nil => exact absurd hc Bool.false_ne_true
        | cons t tgs =>
          cases t with
          | Name x p =>
            cases tgs with
            | cons _ _ => exact absurd hc Bool.false_ne_true
            | nil =>
              have h : (nmB N j x && locB sc x && noComp v && !(decide (jo = some j)) && chkH cls N jo e sc [v] && chkHS cls N jo r sc sts) = true := hc
              simp only [Bool.and_eq_true, Bool.not_eq_true', decide_eq_false_iff_not] at h
              obtain ⟨⟨⟨⟨⟨h1, h2⟩, h3⟩, h4⟩, h5⟩, h6⟩ := h
              obtain ⟨g1, _, _⟩ := nmB_of h1
              have ps := ps_set (X := X.suite a ((a, oe) :: pn)) (pos := pos) (pos' := p) ok.nd (by show X.N[j]? = _; rw [ok.eN]; exact g1) (by show Loc X.env.scope x; rw [ok.esc]; exact locB_of h2) (hOk ok hne hz hf e v h5).1 (noSw h3) (.inl (ks x))
              refine pssImp (pss_cons ps (ih sts h6)) fun D σ H ⟨ε, F, E, hn, R, g, w, en⟩ => ⟨hn, ?_⟩
              refine ⟨_, F, E, fun i hi hl => ?_, R.store (x := .d (hE c' e)) (hE_dp h5) j, fun i hi => ?_, w, en⟩
              · rw [List.getElem?_set_ne (fun z => h4 (by rw [z]; exact hi))]
                exact hn i hi (by rw [List.length_set] at hl; exact hl)
              · rw [gv_pv, if_neg (fun z => h4 (by rw [← z]; exact hi))]
                exact g i hi
          | _ => exact absurd hc Bool.false_ne_true
      | _ => exact absurd hc Bool.false_ne_true
  | ite c s t r ih1 ih2 ih3 =>
    intro sts hc
    cases sts with
    | nil => exact absurd hc Bool.false_ne_true
    | cons st sts =>
      cases st with
      | If e x y pos =>
        have h : (isBH c && chkH cls N jo c sc [e] && chkHS cls N jo s sc x && chkHS cls N jo t sc y && chkHS cls N jo r sc sts) = true := hc
        simp only [Bool.and_eq_true] at h
        obtain ⟨⟨⟨⟨h1, h2⟩, h3⟩, h4⟩, h5⟩ := h
        refine pssImp (pss_cons (ps_if (pos := pos) ((hOk ok hne hz hf c e h2).2.1 h1) (ih1 x h3) (ih2 y h4)) (ih3 sts h5)) fun D σ H ⟨ε, F, E, hn, R, g, w, en⟩ => ⟨hn, ?_⟩
        have w' : (if hB c' c = true then hS c' s ε { E with nx := fun ε1 => hS c' r ε1 E } else hS c' t ε { E with nx := fun ε1 => hS c' r ε1 E }) := w
        have en' : HnOk X.K b jo a { E with nx := fun ε1 => hS c' r ε1 E } { D with nx := fun σ H => rdH X.K b jo a (hS c' r) D σ H } :=
          ⟨fun σ ε H F hn R g q => ⟨ε, F, E, hn, R, g, q, en⟩, en.rt⟩
        cases z : hB c' c with
        | true => rw [z] at w'; exact ⟨ε, F, _, hn, R, g, w', en'⟩
        | false => rw [z] at w'; exact ⟨ε, F, _, hn, R, g, w', en'⟩
      | _ => exact absurd hc Bool.false_ne_true
  | ret e =>
    intro sts hc
    cases sts with
    | nil => exact absurd hc Bool.false_ne_true
    | cons st sts =>
      cases st with
      | Return v pos =>
        cases v with
        | none => cases sts <;> exact absurd hc Bool.false_ne_true
        | some v =>
          cases sts with
          | cons _ _ => exact absurd hc Bool.false_ne_true
          | nil =>
            have h : chkH cls N jo e sc [v] = true := hc
            refine pssImp (pss_one (ps_ret (pos := pos) (hOk ok hne hz hf e v h).1)) fun D σ H ⟨ε, F, E, hn, R, g, w, en⟩ => ⟨hn, ?_⟩
            exact en.rt (.d (hE c' e)) σ ε H F _ R (hE_dp h) w
      | _ => cases sts <;> exact absurd hc Bool.false_ne_true
/-! ### the statement -/
/-- a slot that the names do not tell of may change -/
theorem Rep.slot {K : PySem.W.Frag} {H0 F0 F H : Hp} {σ : St} {ε : Ev} (R : Rep K H0 F0 F H σ ε) {j : Nat} (g : gv ε j = none) (v : Option V) : Rep K H0 F0 F H (σ.set j v) ε where
  fh := R.fh
  ff := R.ff
  h0 := R.h0
  fr := R.fr
  len := by rw [List.length_set]; exact R.len
  dat := fun i x h => by
    have ne : j ≠ i := fun z => by subst z; rw [g] at h; cases h
    rw [List.getElem?_set_ne ne]; exact R.dat i x h
  own := fun i x h => by
    have ne : j ≠ i := fun z => by subst z; rw [g] at h; cases h
    rw [List.getElem?_set_ne ne]; exact R.own i x h
  uni := fun i k xs ys p a b ea eb => by
    have n1 : j ≠ i := fun z => by subst z; rw [g] at a; cases a
    have n2 : j ≠ k := fun z => by subst z; rw [g] at b; cases b
    rw [List.getElem?_set_ne n1] at ea
    rw [List.getElem?_set_ne n2] at eb
    exact R.uni i k xs ys p a b ea eb
theorem gv_hide {ε : Ev} {j : Nat} : gv (pv ε j none) j = none := by
  rw [gv_pv, if_pos rfl]
  split <;> rfl
theorem vatSlot {K : PySem.W.Frag} {H0 F H : Hp} {σ : St} {ε : Ev} {x : V} {v : Val} (h : VAt K H0 F H σ ε x v) {j : Nat} (g : gv ε j = none) (u : Option V) : VAt K H0 F H (σ.set j u) ε x v := by
  cases v with
  | own xs =>
    obtain ⟨p, vs, e, h1, h2, h3, h4, h5⟩ := h
    refine ⟨p, vs, e, h1, h2, h3, h4, fun i ys q z => h5 i ys q ?_⟩
    have ne : j ≠ i := fun z => by subst z; rw [g] at q; cases q
    rw [List.getElem?_set_ne ne] at z; exact z
  | d y => exact h
  | many _ => exact h
  | exc _ => exact h
theorem sTry (ok : Cok fns cls N C Φ k X sc b.W) (hC : b.C = C) (ks : Cks X) (hs : X.stack = X.env :: X.outer) (hfr : X.env.frame = some X.env.locals) {s : IS} {c : Nat} {h : HS} {x : List Stmt} {y : Str} {n : Option Str} {h0 : Stmt} {hs' : List Stmt} {p pos' pos : Pos}
    (hb : ∀ (W : WX) (pn : List (Addr × Obj)) (xe : Value → Shared → Prop), Cok fns cls N C Φ k (X.tr pn xe) sc W → Cks (X.tr pn xe) → PSs (X.tr pn xe) x (rdS X.K { b with W := W } (wS Φ s)))
    (h1 : cls[c]? = some y) (h2 : glB sc y = true) (h3 : (y == ("__debug__" : Str)) = false) (h4 : excB N jo sc n = true) (h5 : chkHS cls N jo h sc (h0 :: hs') = true) :
    PS X (.Try x [.ExceptHandler (some (.Name y p)) n (h0 :: hs') pos'] [] [] pos) (rdS X.K b (wS Φ (.try1 s c jo h))) := by
  subst hC
  have hne : cls ≠ [] := fun z => by rw [z] at h1; cases h1
  have hc : Names X y (.ref (b.C c)) := ⟨glB_of ok h2, h3, .inl (ok.exc c y h1).1⟩
  have hb' : ∀ (W : WX) (pn : List (Addr × Obj)) (xe : Value → Shared → Prop), Takes (X.tr pn xe) W → PassesOwn (model X.prog X.w) X.A X.env xe → PSs (X.tr pn xe) x (rdS X.K { b with W := W } (wS Φ s)) := fun W pn xe tk pas =>
    hb W pn xe ⟨ok.room, ok.seer, ok.tree, ok.top, ok.nd, ok.eN, ok.esc, ok.calm, tk, ok.blt, ok.exc, ok.xf, ok.ar, ok.gcon, ok.callee⟩ ⟨pas, ks.fn, ks.kind, ks.stack, ks.frame⟩
  have hsu : ∀ (a : Addr) (oe : Obj) (cls' : Value) (d : Option Addr) (pn : List (Addr × Obj)), Zc cls' d oe → (∃ vs, oe.data = .fields vs) →
      PSs (X.suite a ((a, oe) :: pn)) (h0 :: hs') (fun D σ H => ∃ c', cls' = .ref (b.C c') ∧ d = none ∧ rdH X.K b jo a (hS c' h) D σ H) := fun a oe cls' d pn hz hf => ⟨fun pins s σ H D I ⟨c', e1, e2, w⟩ => by
    subst e1 e2
    exact (hsOk ok ks.fn hne hz hf h _ h5).run pins s σ H D I w⟩
  cases jo with
  | none =>
    cases n with
    | some _ => exact absurd h4 Bool.false_ne_true
    | none =>
      refine psImp (ps_try_only hs hfr hc ok.tk hb' hsu) fun D σ H ⟨ε, F, E, R, w, en⟩ => ⟨ε, F, _, R, w, en.nx, en.rt, en.bk, en.ct, fun c' σ1 ε1 H1 F1 R1 q => ?_⟩
      refine Exists.intro (isS c' c) ⟨ok.xf.ex c' c y h1, fun hq a na => ⟨c', rfl, rfl, ?_⟩, fun hq => ?_⟩
      · have q' : (if isS c' c = true then hS c' h ε1 E else E.ex c' ε1) := q
        rw [if_pos hq] at q'
        exact ⟨ε1, F1, E, fun _ z => (by cases z), R1, fun _ z => (by cases z), q', ⟨fun σ ε H F _ R _ q => en.nx σ ε H F R q, en.rt⟩⟩
      · have q' : (if isS c' c = true then hS c' h ε1 E else E.ex c' ε1) := q
        rw [if_neg (by rw [hq]; exact Bool.false_ne_true)] at q'
        exact en.ex c' σ1 ε1 H1 F1 R1 q'
  | some j =>
    cases n with
    | none => exact absurd h4 Bool.false_ne_true
    | some n =>
      have h4' : (nmB N j n && lclB sc n) = true := h4
      rw [Bool.and_eq_true] at h4'
      obtain ⟨g1, _, _⟩ := nmB_of h4'.1
      refine psImp (ps_try_as (i := j) hs hfr ok.nd (by rw [ok.eN]; exact g1) (by show X.env.scope.names.lookup n = _; rw [ok.esc]; exact lclB_of h4'.2) hc ok.tk hb' hsu) fun D σ H ⟨ε, F, E, R, w, en⟩ => ⟨ε, F, _, R, w, en.nx, en.rt, en.bk, en.ct, fun c' σ1 ε1 H1 F1 R1 q => ?_⟩
      have q' : (if isS c' c = true then hS c' h (pv ε1 j none) E else E.ex c' ε1) := q
      refine Exists.intro (isS c' c) ⟨ok.xf.ex c' c y h1, fun hq a na => ⟨c', rfl, rfl, ?_⟩, fun hq => ?_⟩
      · rw [if_pos hq] at q'
        refine ⟨pv ε1 j none, F1, E, fun i hi hl => ?_, (R1.forget j).slot gv_hide _, fun i hi => ?_, q', ⟨fun σ ε H F hn R g q => en.nx _ ε H F (R.slot (g j rfl) _) q, fun v σ ε H F x R a q => en.rt v σ ε H F x R a q⟩⟩
        · cases hi; rw [List.getElem?_set_self (by rw [List.length_set] at hl; exact hl)]
        · cases hi; exact gv_hide
      · rw [if_neg (by rw [hq]; exact Bool.false_ne_true)] at q'
        exact en.ex c' σ1 ε1 H1 F1 R1 q'
end
end Rc

/-! More statements: insert, pop with a value, extend, name op= e. -/
namespace Rc
open PySem PySem.Spec PyProof.Rows L2
section
variable {fns : List FnI} {cls : List Str} {N : List Str} {C : Nat → Addr} {Φ : Fs} {k : Nat} {X : Cx} {b : Bd} {sc : Scope}
theorem sIns (ok : Cok fns cls N C Φ k X sc b.W) {j : Nat} {x : Str} {kE e : IE} {ke v : Expr} {p p2 p3 pos : Pos} (h1 : (nmB N j x && visB sc x) = true) (h2 : plainE ke = true) (h3 : plainE v = true) (hl : (p2.endLine == p3.line) = true)
    (hk : PE X ke (rdE X.K b (wE Φ kE))) (he : PE X v (rdE X.K b (wE Φ e))) : PS X (.Expr (.Call (.Attribute (.Name x p) "insert" p2) [ke, v] [] p3) pos) (rdS X.K b (wS Φ (.ins j kE e))) := by
  have pe := pe_bm (apos := p2) (cpos := p3) PySem.F.plainAttrs_list PySem.F.slot_list_insert PySem.F.type_list_insert mt_insert (peVar (p := p) ok h1) (pa_cons (peD hk) (pa_cons (peD he) pa_nil (starOf h3)) (starOf h2)) rfl (by rw [starOf h2, starOf h3]; rfl) hl (starOf h2) (by rw [starOf h3]; rfl)
  refine psImp (ps_expr pe rfl) fun D σ H h => ?_
  obtain ⟨ε, F, E, R, w, en⟩ := h
  obtain ⟨xs0, r, vs0, g1, g2, g3, g4, w⟩ := ownGo R w
  refine ⟨.ref r, g2, tyLst g3, ε, F, E.ex, _, R, w, en.toEx, fun i ε1 H1 F1 z s1 f1 R1 a1 q1 => ⟨ε1, F1, E.ex, _, R1, q1, en.toEx, fun d ε2 H2 F2 y s2 f2 R2 a2 q2 => ?_⟩⟩
  cases i with
  | int n =>
    obtain ⟨xs, r', vs, k1, k2, k3, k4, ⟨q3, q4, q5⟩, q6⟩ := ownGo R2 q2
    have er : r' = r := by
      rw [k2] at g2
      simpa using g2
    subst er
    cases dpInt a1
    refine ⟨r', vs, n, y, rfl, rfl, k3, by rw [daLen k4, line24]; exact q5, q3, q4, en.nx _ _ _ F2 (R2.change k1 k2 ?_) q6⟩
    exact daApp (daApp (daTake _ k4) (.cons a2 .nil)) (daDrop _ k4)
  | _ => exact q2.elim
theorem tgOk (ok : Cok fns cls N C Φ k X sc b.W) (ks : Cks X) {t : Tg} {tg : Expr} (h : tgB (locB sc) N t tg = true) : PG X tg (gTg X.K t) :=
  pgTg ok.nd ok.calm (p := locB sc) (fun x hx => ⟨by rw [ok.esc]; exact locB_of hx, .inl (ks.fn x)⟩) (by rw [ok.eN]; exact h)
theorem ae1 {t : Tg} {tg : Expr} {env : Env} {p : Str → Bool} (h : tgB p N t tg = true) : (assignEach [tg] env).map (·.2) = [assign tg env] := by
  cases tg <;> first | rfl | (cases t <;> exact absurd h Bool.false_ne_true)
theorem sPopT (ok : Cok fns cls N C Φ k X sc b.W) (ks : Cks X) {t : Tg} {j : Nat} {x : Str} {tg : Expr} {p p2 p3 pos : Pos} (ht : tgB (locB sc) N t tg = true) (h1 : (nmB N j x && visB sc x) = true) (hl : (p2.endLine == p3.line) = true) :
    PS X (.Assign [tg] (.Call (.Attribute (.Name x p) "pop" p2) [] [] p3) pos) (rdS X.K b (wS Φ (.popT t j))) := by
  have pe := pe_bm0 (apos := p2) (cpos := p3) PySem.F.plainAttrs_list PySem.F.slot_list_pop PySem.F.type_list_pop mt_pop (peVar (p := p) ok h1) rfl hl
  refine psImp (ps_asg pe (tgOk ok ks ht) (noSw2 rfl) (by cases tg <;> rfl) (ae1 ht)) fun D σ H h => ?_
  obtain ⟨ε, F, E, R, w, en⟩ := h
  obtain ⟨xs, r, vs, g1, g2, g3, g4, y, w1, w2⟩ := ownGo R w
  have hl := daLen g4
  rw [← hl] at w1
  obtain ⟨v, v1, v2⟩ := daGet' g4 w1
  refine ⟨.ref r, g2, tyLst g3, r, vs, v, rfl, rfl, g3, v1, ?_⟩
  exact tgGo (R.change g1 g2 (daDropLast g4)) v2 w2 fun σ' ε2 R2 _ q2 => en.nx σ' ε2 _ F R2 q2
theorem daErase {K : PySem.W.Frag} {F : Hp} : ∀ {vs : List V} {ds : List D} (n : Nat), DpAll K F vs ds → DpAll K F (vs.eraseIdx n) (ds.eraseIdx n)
  | _, _, _, .nil => .nil
  | _, _, 0, .cons _ b => b
  | _, _, n + 1, .cons a b => .cons a (daErase n b)
theorem sPopI (ok : Cok fns cls N C Φ k X sc b.W) (ks : Cks X) {t : Tg} {j : Nat} {kE : IE} {x : Str} {tg ke : Expr} {p p2 p3 pos : Pos} (ht : tgB (locB sc) N t tg = true) (h1 : (nmB N j x && visB sc x) = true) (hl : (p2.endLine == p3.line) = true) (hp : plainE ke = true)
    (hk : PE X ke (rdE X.K b (wE Φ kE))) : PS X (.Assign [tg] (.Call (.Attribute (.Name x p) "pop" p2) [ke] [] p3) pos) (rdS X.K b (wS Φ (.popI t j kE))) := by
  have pe := pe_bm (apos := p2) (cpos := p3) PySem.F.plainAttrs_list PySem.F.slot_list_pop PySem.F.type_list_pop mt_popAt (peVar (p := p) ok h1) (pa_cons (peD hk) pa_nil (starOf hp)) rfl (by rw [starOf hp]; rfl) hl (starOf hp) rfl
  refine psImp (ps_asg pe (tgOk ok ks ht) (noSw2 rfl) (by cases tg <;> rfl) (ae1 ht)) fun D σ H h => ?_
  obtain ⟨ε, F, E, R, w, en⟩ := h
  obtain ⟨xs0, r, vs0, g1, g2, g3, g4, w⟩ := ownGo R w
  refine ⟨.ref r, g2, tyLst g3, ε, F, E.ex, _, R, w, en.toEx, fun i ε1 H1 F1 z s1 f1 R1 a1 q1 => ?_⟩
  cases i with
  | int n =>
    obtain ⟨xs, r', vs, k1, k2, k3, k4, ⟨q3, q4⟩, m, y, q5, q6, q7⟩ := ownGo R1 q1
    have er : r' = r := by
      rw [k2] at g2
      simpa using g2
    subst er
    cases dpInt a1
    rw [← daLen k4] at q5
    obtain ⟨v, v1, v2⟩ := daGet' k4 q6
    refine ⟨r', vs, n, m, v, rfl, rfl, k3, q3, q4, q5, v1, ?_⟩
    exact tgGo (R1.change k1 k2 (daErase m k4)) v2 q7 fun σ' ε2 R2 _ q2 => en.nx σ' ε2 _ F1 R2 q2
  | _ => exact q1.elim
theorem sExt (ok : Cok fns cls N C Φ k X sc b.W) {j : Nat} {x : Str} {e : IE} {v : Expr} {p p2 p3 pos : Pos} (h1 : (nmB N j x && visB sc x) = true) (h2 : plainE v = true) (hl : (p2.endLine == p3.line) = true)
    (he : PE X v (rdE X.K b (wE Φ e))) : PS X (.Expr (.Call (.Attribute (.Name x p) "extend" p2) [v] [] p3) pos) (rdS X.K b (wS Φ (.ext j e))) := by
  have pe := pe_bm (apos := p2) (cpos := p3) PySem.F.plainAttrs_list PySem.F.slot_list_extend PySem.F.type_list_extend mt_extend (peVar (p := p) ok h1) (pa_cons he pa_nil (starOf h2)) rfl (by rw [starOf h2]; rfl) hl (starOf h2) rfl
  refine psImp (ps_expr pe rfl) fun D σ H h => ?_
  obtain ⟨ε, F, E, R, w, en⟩ := h
  obtain ⟨xs0, r, vs0, g1, g2, g3, g4, w⟩ := ownGo R w
  refine ⟨.ref r, g2, tyLst g3, ε, F, E.ex, _, R, w, en.toEx, fun d ε1 H1 F1 z s1 f1 R1 a1 q1 => ?_⟩
  cases d with
  | own ys =>
    obtain ⟨xs, r', vs, k1, k2, k3, k4, q2, q3⟩ := ownGo R1 q1
    have er : r' = r := by
      rw [k2] at g2
      simpa using g2
    subst er
    obtain ⟨q, ws, rfl, b1, b2, b3, b4, b5⟩ := a1
    exact ⟨r', q, vs, ws, rfl, rfl, k3, b1, by rw [daLen k4, daLen b2, line24]; exact q2, en.nx _ _ _ F1 (R1.change k1 k2 (daApp k4 b2)) q3⟩
  | _ => exact q1.elim
/-- what x op= y makes -/
def rAug (K : PySem.W.Frag) (o : Operator) : TIp := fun x y H Q => ∃ F d e Qv, Dp K F x d ∧ Dp K F y e ∧ augW o d e Qv ∧ ∀ v z, Dp K F z v → Qv v → Q z H
theorem ipAug (o : Operator) : PIp X o (rAug X.K o) := by
  intro pins s σ H x y v u Q I rx ry ⟨F, d, e, Qv, hx, hy, w, k⟩
  cases o with
  | Add =>
    cases d with
    | int i =>
      cases e with
      | int j =>
        cases dpInt hx; cases dpInt hy
        exact ip_add pins s σ H _ _ v u Q I rx ry ⟨i, j, rfl, rfl, k _ _ (Dp.int _) w⟩
      | _ => exact w.elim
    | str i =>
      cases e with
      | str j =>
        cases dpStr hx; cases dpStr hy
        obtain ⟨t, rfl⟩ := rx
        obtain ⟨t', rfl⟩ := ry
        exact PyProof.Rows.iadd_str (fun t2 tk => ⟨.str (i ++ j), H, I.tok _, ⟨t2, rfl⟩, k _ _ (Dp.str _) w.2⟩) (by rw [line24]; exact w.1)
      | _ => exact w.elim
    | _ => exact w.elim
  | Sub =>
    cases d with
    | int i =>
      cases e with
      | int j =>
        cases dpInt hx; cases dpInt hy
        exact ip_sub pins s σ H _ _ v u Q I rx ry ⟨i, j, rfl, rfl, k _ _ (Dp.int _) w⟩
      | _ => exact w.elim
    | _ => exact w.elim
  | Mult =>
    cases d with
    | int i =>
      cases e with
      | int j =>
        cases dpInt hx; cases dpInt hy
        obtain ⟨t, rfl⟩ := rx
        obtain ⟨t', rfl⟩ := ry
        exact PyProof.Rows.imul_int ⟨.int _, H, I.tok _, ⟨_, rfl⟩, k _ _ (Dp.int _) w.2⟩ (mulOk_ok w.1)
      | _ => exact w.elim
    | _ => exact w.elim
  | _ => exact w.elim
theorem sAug (ok : Cok fns cls N C Φ k X sc b.W) (ks : Cks X) {j : Nat} {o : Operator} {x : Str} {e : IE} {v : Expr} {p pos : Pos} (h1 : nmB N j x = true) (h2 : locB sc x = true) (he : PE X v (rdE X.K b (wE Φ e))) :
    PS X (.AugAssign (.Name x p) o v pos) (rdS X.K b (wS Φ (.aug j o e))) := by
  obtain ⟨g1, _, _⟩ := nmB_of h1
  refine psImp (ps_aug ok.nd (by rw [ok.eN]; exact g1) (by rw [ok.esc]; exact locB_of h2) (peD he) (ipAug o) (.inl (ks.fn x))) fun D σ H ⟨ε, F, E, R, w, en⟩ => ?_
  obtain ⟨d0, e0, w⟩ := w
  obtain ⟨v0, a0, _⟩ := R.dat j d0 e0
  refine ⟨v0, a0, ε, F, E.ex, _, R, w, en.toEx, fun d ε' H' F' z s f R' a q => ?_⟩
  obtain ⟨d1, e1, q⟩ := q
  obtain ⟨v1, a1, b1⟩ := R'.dat j d1 e1
  rw [a0] at a1
  cases a1
  exact ⟨F', d1, d, _, b1, a, q, fun y z hz hy => en.nx _ _ H' F' (R'.store (x := .d y) hz j) hy⟩
theorem sClr (ok : Cok fns cls N C Φ k X sc b.W) {j : Nat} {x : Str} {p p2 p3 pos : Pos} (h1 : (nmB N j x && visB sc x) = true) (hl : (p2.endLine == p3.line) = true) :
    PS X (.Expr (.Call (.Attribute (.Name x p) "clear" p2) [] [] p3) pos) (rdS X.K b (wS Φ (.clr j))) := by
  have pe := pe_bm0 (apos := p2) (cpos := p3) PySem.F.plainAttrs_list PySem.F.slot_list_clear PySem.F.type_list_clear mt_clear (peVar (p := p) ok h1) rfl hl
  refine psImp (ps_expr pe rfl) fun D σ H h => ?_
  obtain ⟨ε, F, E, R, w, en⟩ := h
  obtain ⟨xs, r, vs, g1, g2, g3, g4, w2⟩ := ownGo R w
  exact ⟨.ref r, g2, tyLst g3, r, vs, rfl, rfl, g3, en.nx _ _ _ F (R.change g1 g2 .nil) w2⟩
/-- nobody's list is changed -/
theorem Rep.loose {K : PySem.W.Frag} {H0 F0 F H : Hp} {σ : St} {ε : Ev} (R : Rep K H0 F0 F H σ ε) {p : Addr} (o : HO) (h1 : F p = none) (h2 : H0 p = none) (h3 : Off σ ε p) : Rep K H0 F0 F (upd H p o) σ ε where
  fh := R.fh.upd h1
  ff := R.ff
  h0 := R.h0.upd h2
  fr := R.fr
  len := R.len
  dat := R.dat
  own := fun j xs h => by
    obtain ⟨q, vs, e, g1, g2, g3, g4⟩ := R.own j xs h
    have ne : q ≠ p := fun z => by subst z; exact h3 j xs h e
    exact ⟨q, vs, e, by rw [upd_ne ne]; exact g1, g2, g3, g4⟩
  uni := R.uni
theorem sClrE (ok : Cok fns cls N C Φ k X sc b.W) {e : IE} {f e1 : Expr} {es : List Expr} {kws : List Keyword} {fp p2 p3 pos : Pos} (hl : (p2.endLine == p3.line) = true) (he : PE X (.Call f (e1 :: es) kws fp) (rdE X.K b (wE Φ e))) :
    PS X (.Expr (.Call (.Attribute (.Call f (e1 :: es) kws fp) "clear" p2) [] [] p3) pos) (rdS X.K b (wS Φ (.clrE e))) := by
  have pe := pe_bm0 (apos := p2) (cpos := p3) PySem.F.plainAttrs_list PySem.F.slot_list_clear PySem.F.type_list_clear mt_clear he (by cases f <;> rfl) hl
  refine psImp (ps_expr pe rfl) fun D σ H h => ?_
  obtain ⟨ε, F, E, R, w, en⟩ := h
  refine ⟨ε, F, E.ex, _, R, w, en.toEx, fun v ε1 H1 F1 x s1 f1 R1 a1 q1 => ?_⟩
  cases v with
  | own xs =>
    obtain ⟨p, vs, rfl, b1, b2, b3, b4, b5⟩ := a1
    exact ⟨tyLst b1, p, vs, rfl, rfl, b1, en.nx _ _ _ F1 (R1.loose _ b3 b4 b5) q1⟩
  | _ => exact q1.elim
theorem setAll_other : ∀ {js : List Nat} {ds : List D} {ε : Ev} {j : Nat}, j ∉ js → gv (setAll js ds ε) j = gv ε j
  | [], _, _, _, _ => rfl
  | _ :: _, [], _, _, _ => rfl
  | i :: js, x :: xs, ε, j, h => by
    have e : setAll (i :: js) (x :: xs) ε = setAll js xs (pv ε i (some (.d x))) := rfl
    rw [e, setAll_other (fun z => h (List.mem_cons_of_mem _ z)), gv_pv, if_neg (fun z => h (by rw [z]; exact List.mem_cons_self ..))]
theorem sForP (ok : Cok fns cls N C Φ k X sc b.W) (ks : Cks X) {t : Tg} {j : Nat} {c e : IE} {tg ce v : Expr} {x : Str} {p p2 p3 pos : Pos} (h1 : (nmB N j x && visB sc x) = true) (hj : (tgs t).contains j = false) (hg : tgB (locB sc) N t tg = true)
    (hc : PT X ce (rdT X.K b (wE Φ c))) (he : PE X v (rdE X.K b (wE Φ e))) : PS X (.For tg (.Name x p) [.If ce [.Return (some v) p2] [] p3] [] pos) (rdS X.K b (wS Φ (.forP t j c e))) := by
  have hi : PI X tg (.Name x p) _ := pi_seq (peVar (p := p) ok h1)
  have bd : PSs X [.If ce [.Return (some v) p2] [] p3] _ := pss_one (ps_if hc (pss_one (ps_ret he)) pss_nil)
  refine psImp (ps_for ks.pas ok.calm hi (tgOk ok ks hg) bd (fun _ => noFold rfl)) fun D σ H ⟨ε, F, E, R, w, en⟩ => ?_
  obtain ⟨xs, r, vs, g1, g2, g3, g4, w⟩ := ownGo R w
  have hl := daLen g4
  have hjt : ∀ i ∈ tgs t, j ≠ i := fun i hi z => by
    rw [← z] at hi
    have := List.contains_iff_mem.mpr hi
    rw [hj] at this
    cases this
  refine ⟨.ref r, g2, r, vs, rfl, .inl ⟨.inl (.inl g3), ?_⟩⟩
  refine ⟨fun i m σ H => m = xs.length - i ∧ i ≤ xs.length ∧ σ[j]? = some (some (.ref r)) ∧ ∃ ε F, Rep X.K b.H0 b.F0 F H σ ε ∧ gv ε j = some (.own xs) ∧ forPW t j xs (fun ε1 k => wE Φ c ε1 E.ex (kB k)) (fun ε1 => wE Φ e ε1 E.ex (kV fun v _ => E.rt v)) E.nx (xs.drop i) ε, ⟨xs.length, by simp, Nat.zero_le _, g2, ε, F, R, g1, w⟩, ?_⟩
  rintro i m σ H ⟨rfl, hi, gs, ε, F, R, g1, wl⟩
  obtain ⟨r', vs', e1, e2, e3, e4, e5⟩ := R.own j xs g1
  have er : r' = r := by
    rw [gs] at e1
    simpa using e1.symm
  subst er
  have hl2 := daLen e3
  by_cases hlt : i < xs.length
  · refine .inr ⟨⟨vs', vs'[i]'(by omega), .inl (.inl e2), List.getElem?_eq_getElem (by omega)⟩, fun σ H => σ[j]? = some (some (.ref r')) ∧ ∃ ε F, Rep X.K b.H0 b.F0 F H σ ε ∧ gv ε j = some (.own xs) ∧ forPW t j xs (fun ε1 k => wE Φ c ε1 E.ex (kB k)) (fun ε1 => wE Φ e ε1 E.ex (kV fun v _ => E.rt v)) E.nx (xs.drop (i + 1)) ε,
      fun σ' H' q => ⟨xs.length - (i + 1), by omega, rfl, hlt, q⟩, fun v H2 y => ?_⟩
    obtain ⟨rfl, y⟩ := y
    obtain ⟨z, k1, k2⟩ := daGet e3 (y vs' (.inl (.inl e2)))
    have ed : xs.drop i = z :: xs.drop (i + 1) := by
      rw [List.drop_eq_getElem_cons hlt]
      rw [List.getElem?_eq_getElem hlt] at k1
      rw [Option.some.inj k1]
    rw [ed] at wl
    refine tgGo R k2 wl fun σ' ε2 R2 st q2 => ?_
    have gs2 : σ'[j]? = some (some (.ref r')) := by
      have w1 := wipe_get (σ := σ') (vs := tgs t) (i := j)
      have w2 := wipe_get (σ := σ) (vs := tgs t) (i := j)
      rw [if_neg (fun z => hjt j z rfl)] at w1 w2
      rw [← w1, st, w2]
      exact gs
    refine ⟨ε2, F, E.ex, _, R2, q2, en.toEx, fun d ε' H' F' s f R' q => ?_⟩
    cases d with
    | true =>
      have q' : wE Φ e ε' E.ex (kV fun v _ => E.rt v) := q
      refine ⟨ε', F', E.ex, _, R', q', en.toEx, fun v ε3 H3 F3 x s3 f3 R3 a3 q3 => ?_⟩
      cases v with
      | d y => exact en.rt _ σ' ε3 H3 F3 x R3 a3 q3
      | own ys => exact en.rt _ σ' ε3 H3 F3 x R3 a3 q3
      | _ => exact q3.elim
    | false =>
      have q' : gv ε' j = some (.own xs) ∧ forPW t j xs (fun ε1 k => wE Φ c ε1 E.ex (kB k)) (fun ε1 => wE Φ e ε1 E.ex (kV fun v _ => E.rt v)) E.nx (xs.drop (i + 1)) ε' := q
      exact ⟨gs2, ε', F', R', q'.1, q'.2⟩
  · have e : i = xs.length := by omega
    subst e
    rw [List.drop_length] at wl
    exact .inl ⟨⟨vs', .inl (.inl e2), by omega⟩, en.nx σ ε H F R wl⟩
end
end Rc

/-! All statements; a def; all defs. -/
namespace Rc
open PySem PySem.Spec PyProof.Rows L2
section
variable {fns : List FnI} {cls : List Str} {N : List Str} {C : Nat → Addr} {Φ : Fs} {k : Nat} {X : Cx} {b : Bd} {sc : Scope}
theorem sPar (ok : Cok fns cls N C Φ k X sc b.W) (ks : Cks X) {i j : Nat} {a c : IE} {x y : Str} {ea ec : Expr} {px py pt pt2 pos : Pos} {kt k2 : Nat} (h1 : nmB N i x = true) (h2 : nmB N j y = true) (hij : i ≠ j)
    (hp : parB sc [(x, px), (y, py)] [ea, ec] = true) (p1 : plainE ea = true) (p2 : plainE ec = true) (he : PE X ea (rdE X.K b (wE Φ a))) (hc : PE X ec (rdE X.K b (wE Φ c))) :
    PS X (.Assign [.Tuple [.Name x px, .Name y py] kt pt] (.Tuple [ea, ec] k2 pt2) pos) (rdS X.K b (wS Φ (.par i j a c))) := by
  obtain ⟨g1, _, _⟩ := nmB_of h1
  obtain ⟨g2, _, _⟩ := nmB_of h2
  rw [← ok.eN] at g1 g2
  have hxy : x ≠ y := fun e => hij (nodup_ix ok.nd g1 (e ▸ g2))
  have hl : lclB sc x = true ∧ lclB sc y = true := by
    have q := hp
    unfold parB at q
    simp only [List.all_cons, List.all_nil, Bool.and_true, Bool.and_eq_true] at q
    exact ⟨q.1.1.1.1.1, q.1.1.1.2.1⟩
  have ha : PA X [ea, ec] (tCons (rdD X.K b (wE Φ a)) (tCons (rdD X.K b (wE Φ c)) tNil)) := pa_cons (peD he) (pa_cons (peD hc) pa_nil (starOf p2)) (starOf p1)
  refine psImp (ps_par ok.calm ok.nd g1 g2 hij (by rw [ok.esc]; exact lclB_of hl.1) (by rw [ok.esc]; exact lclB_of hl.2) ha (parSwap ok.esc ks.kind hxy hp)) fun D σ H ⟨ε, F, E, R, w, en⟩ => ?_
  refine ⟨ε, F, E.ex, _, R, w, en.toEx, fun d ε1 H1 F1 u s1 f1 R1 a1 q1 => ⟨ε1, F1, E.ex, _, R1, q1, en.toEx, fun e ε2 H2 F2 v s2 f2 R2 a2 q2 => ⟨u, v, rfl, ?_⟩⟩⟩
  exact en.nx _ _ H2 F2 ((R2.store (x := .d d) (dpSub f2 a1) i).store (x := .d e) a2 j) q2
/-- statements hold what they mean -/
theorem snS (i : IS) : ∀ (b : Bd) (X : Cx) (sc : Scope), b.C = C → Cok fns cls N C Φ k X sc b.W → Cks X →
    (isSq i = false → ∀ st, chkS fns cls N i sc [st] = true → PS X st (rdS X.K b (wS Φ i))) ∧
    (isSq i = true → ∀ sts, chkS fns cls N i sc sts = true → PSs X sts (rdS X.K b (wS Φ i))) := by
  induction i with
  | nil =>
    refine fun b X sc hC ok ks => ⟨fun h => absurd h.symm Bool.false_ne_true, fun _ sts hc => ?_⟩
    cases sts with
    | cons _ _ => exact absurd hc Bool.false_ne_true
    | nil => exact pssImp pss_nil fun D σ H ⟨ε, F, E, R, w, en⟩ => en.nx σ ε H F R w
  | seq s r ih1 ih2 =>
    refine fun b X sc hC ok ks => ⟨fun h => absurd h.symm Bool.false_ne_true, fun _ sts hc => ?_⟩
    cases sts with
    | nil => exact absurd hc Bool.false_ne_true
    | cons st sts =>
      have h : (!isSq s && chkS fns cls N s sc [st] && isSq r && chkS fns cls N r sc sts) = true := hc
      simp only [Bool.and_eq_true, Bool.not_eq_true'] at h
      obtain ⟨⟨⟨h1, h2⟩, h3⟩, h4⟩ := h
      exact pssImp (pss_cons ((ih1 b X sc hC ok ks).1 h1 st h2) ((ih2 b X sc hC ok ks).2 h3 sts h4)) fun D σ H ⟨ε, F, E, R, w, en⟩ =>
        ⟨ε, F, _, R, w, en.nx' fun σ ε H F R q => ⟨ε, F, E, R, q, en⟩⟩
  | still j r ih =>
    refine fun b X sc hC ok ks => ⟨fun h => absurd h.symm Bool.false_ne_true, fun _ sts hc => ?_⟩
    have h : (isSq r && chkS fns cls N r sc sts) = true := hc
    rw [Bool.and_eq_true] at h
    refine pssImp ((ih b X sc hC ok ks).2 h.1 sts h.2) fun D σ H ⟨ε, F, E, R, w, en⟩ => ?_
    have w' : wE Φ (.var j) ε (fun _ _ => False) (fun _ ε1 => wS Φ r ε1 E) := w
    unfold wE at w'
    split at w'
    · exact ⟨ε, F, E, R, w', en⟩
    · rename_i ys hy
      obtain ⟨v, F', e1, f1, R1, d1⟩ := R.still hy
      exact ⟨_, F', E, R1, w', en⟩
    · exact w'.elim
  | asg j e =>
    refine fun b X sc hC ok ks => ⟨fun _ st hc => ?_, fun h => absurd h Bool.false_ne_true⟩
    cases st with
    | Assign tgs v pos =>
      cases tgs with
      | nil => exact absurd hc Bool.false_ne_true
      | cons t tgs =>
        cases t with
        | Name x p =>
          cases tgs with
          | cons _ _ => exact absurd hc Bool.false_ne_true
          | nil =>
            have h : (nmB N j x && locB sc x && (if isLC v then swB sc x p.line v else noComp v) && chk fns N e sc [v]) = true := hc
            simp only [Bool.and_eq_true] at h
            obtain ⟨⟨⟨h1, h2⟩, h3⟩, h4⟩ := h
            by_cases hl : isLC v = true
            · rw [if_pos hl] at h3
              cases v with
              | ListComp e' gs scope p' =>
                cases e with
                | lc t it c elt =>
                  cases gs with
                  | nil => exact absurd h4 Bool.false_ne_true
                  | cons g gs =>
                    obtain ⟨tg, iter, ifs, as⟩ := g
                    cases gs with
                    | cons _ _ => exact absurd h4 Bool.false_ne_true
                    | nil =>
                      have h : (decide (as = 0) && plainE iter && isIt it && chk fns N it sc [iter, tg] && tgB (lclB (relS scope sc)) N t tg && blkC N sc scope (tgOwn t tg) && ifsB (isNil c) ifs (fun f => chk fns N c (relS scope sc) [f]) && chk fns N elt (relS scope sc) [e']) = true := h4
                      simp only [Bool.and_eq_true, decide_eq_true_eq] at h
                      obtain ⟨⟨⟨⟨⟨⟨⟨rfl, g1⟩, g2⟩, g3⟩, g4⟩, g5⟩, g6⟩, g7⟩ := h
                      exact sLc ok hC ks h1 h3 g2 g3 g4 g5 g6 g7 g1
                | _ => exact absurd h4 Bool.false_ne_true
              | _ => exact absurd hl Bool.false_ne_true
            · rw [if_neg hl] at h3
              exact sAsg ok ks h1 h2 h3 ((snAll e).e b X sc hC ok v h4)
        | _ => exact absurd hc Bool.false_ne_true
    | _ => exact absurd hc Bool.false_ne_true
  | asgT js e =>
    refine fun b X sc hC ok ks => ⟨fun _ st hc => ?_, fun h => absurd h Bool.false_ne_true⟩
    cases st with
    | Assign tgs v pos =>
      cases tgs with
      | nil => exact absurd hc Bool.false_ne_true
      | cons t tgs =>
        cases t with
        | Tuple es n p =>
          cases tgs with
          | cons _ _ => exact absurd hc Bool.false_ne_true
          | nil =>
            have h : (tgsB (locB sc) N js es && notTup v && noComp v && chk fns N e sc [v]) = true := hc
            simp only [Bool.and_eq_true] at h
            exact sAsgT ok ks h.1.1.1 h.1.1.2 h.1.2 ((snAll e).e b X sc hC ok v h.2)
        | _ => exact absurd hc Bool.false_ne_true
    | _ => exact absurd hc Bool.false_ne_true
  | par i j a c =>
    refine fun b X sc hC ok ks => ⟨fun _ st hc => ?_, fun h => absurd h Bool.false_ne_true⟩
    have no : ∀ {q : Prop}, False → q := fun z => z.elim
    cases st with
    | Assign tgs v pos =>
      cases tgs with
      | nil => exact absurd hc Bool.false_ne_true
      | cons t tgs =>
        cases t with
        | Tuple ts n p =>
          cases ts with
          | nil => exact absurd hc Bool.false_ne_true
          | cons t1 ts =>
            cases t1 with
            | Name x px =>
              cases ts with
              | nil => exact absurd hc Bool.false_ne_true
              | cons t2 ts =>
                cases t2 with
                | Name y py =>
                  cases ts with
                  | cons _ _ => exact absurd hc Bool.false_ne_true
                  | nil =>
                    cases tgs with
                    | cons _ _ => exact absurd hc Bool.false_ne_true
                    | nil =>
                      cases v with
                      | Tuple vs n2 p2 =>
                        cases vs with
                        | nil => exact absurd hc Bool.false_ne_true
                        | cons ea vs =>
                          cases vs with
                          | nil => exact absurd hc Bool.false_ne_true
                          | cons ec vs =>
                            cases vs with
                            | cons _ _ => exact absurd hc Bool.false_ne_true
                            | nil =>
                              have h : (nmB N i x && nmB N j y && decide (i ≠ j) && parB sc [(x, px), (y, py)] [ea, ec] && plainE ea && plainE ec && chk fns N a sc [ea] && chk fns N c sc [ec]) = true := hc
                              simp only [Bool.and_eq_true, decide_eq_true_eq] at h
                              obtain ⟨⟨⟨⟨⟨⟨⟨h1, h2⟩, h3⟩, h4⟩, h5⟩, h6⟩, h7⟩, h8⟩ := h
                              exact sPar ok ks h1 h2 h3 h4 h5 h6 ((snAll a).e b X sc hC ok ea h7) ((snAll c).e b X sc hC ok ec h8)
                      | _ => exact absurd hc Bool.false_ne_true
                | _ => exact absurd hc Bool.false_ne_true
            | _ => exact absurd hc Bool.false_ne_true
        | _ => exact absurd hc Bool.false_ne_true
    | _ => exact absurd hc Bool.false_ne_true
  | par3 i j l a c d => exact fun b X sc hC ok ks => ⟨fun _ st hc => absurd hc Bool.false_ne_true, fun h => absurd h Bool.false_ne_true⟩
  | setIx j kE e =>
    refine fun b X sc hC ok ks => ⟨fun _ st hc => ?_, fun h => absurd h Bool.false_ne_true⟩
    cases st with
    | Assign tgs v pos =>
      cases tgs with
      | nil => exact absurd hc Bool.false_ne_true
      | cons t tgs =>
        cases t with
        | Subscript o ke p =>
          cases o with
          | Name x p2 =>
            cases tgs with
            | cons _ _ => exact absurd hc Bool.false_ne_true
            | nil =>
              have h : (nmB N j x && visB sc x && plainE ke && noComp v && chk fns N e sc [v] && chk fns N kE sc [ke]) = true := hc
              rw [Bool.and_eq_true, Bool.and_eq_true, Bool.and_eq_true, Bool.and_eq_true] at h
              obtain ⟨⟨⟨⟨h1, h2⟩, h3⟩, h4⟩, h5⟩ := h
              exact sSetIx ok h1 h2 h3 ((snAll e).e b X sc hC ok v h4) ((snAll kE).e b X sc hC ok ke h5)
          | _ => exact absurd hc Bool.false_ne_true
        | _ => exact absurd hc Bool.false_ne_true
    | _ => exact absurd hc Bool.false_ne_true
  | app j e =>
    refine fun b X sc hC ok ks => ⟨fun _ st hc => ?_, fun h => absurd h Bool.false_ne_true⟩
    cases st with
    | Expr v pos =>
      cases v with
      | Call f es kws p =>
        cases f with
        | Attribute o m q =>
          cases o with
          | Name x p2 =>
            cases es with
            | nil => exact absurd hc Bool.false_ne_true
            | cons v es =>
              cases es with
              | cons _ _ => exact absurd hc Bool.false_ne_true
              | nil =>
                cases kws with
                | cons _ _ => exact absurd hc Bool.false_ne_true
                | nil =>
                  have h : (decide (m = "append") && nmB N j x && visB sc x && plainE v && (q.endLine == p.line) && chk fns N e sc [v]) = true := hc
                  simp only [Bool.and_eq_true, decide_eq_true_eq] at h
                  obtain ⟨⟨⟨⟨⟨rfl, h1⟩, h2⟩, h3⟩, h4⟩, h5⟩ := h
                  exact sApp ok (by rw [h1, h2]; rfl) h3 h4 ((snAll e).e b X sc hC ok v h5)
          | _ => exact absurd hc Bool.false_ne_true
        | _ => exact absurd hc Bool.false_ne_true
      | _ => exact absurd hc Bool.false_ne_true
    | _ => exact absurd hc Bool.false_ne_true
  | pop j =>
    refine fun b X sc hC ok ks => ⟨fun _ st hc => ?_, fun h => absurd h Bool.false_ne_true⟩
    cases st with
    | Expr v pos =>
      cases v with
      | Call f es kws p =>
        cases f with
        | Attribute o m q =>
          cases o with
          | Name x p2 =>
            cases es with
            | cons _ _ => exact absurd hc Bool.false_ne_true
            | nil =>
              cases kws with
              | cons _ _ => exact absurd hc Bool.false_ne_true
              | nil =>
                have h : (decide (m = "pop") && nmB N j x && visB sc x && (q.endLine == p.line)) = true := hc
                simp only [Bool.and_eq_true, decide_eq_true_eq] at h
                obtain ⟨⟨⟨rfl, h1⟩, h2⟩, h3⟩ := h
                exact sPop ok (by rw [h1, h2]; rfl) h3
          | _ => exact absurd hc Bool.false_ne_true
        | _ => exact absurd hc Bool.false_ne_true
      | _ => exact absurd hc Bool.false_ne_true
    | _ => exact absurd hc Bool.false_ne_true
  | popT t j =>
    refine fun b X sc hC ok ks => ⟨fun _ st hc => ?_, fun h => absurd h Bool.false_ne_true⟩
    cases st with
    | Assign tgs v pos =>
      rcases tgs with _ | ⟨tg, _ | ⟨_, _⟩⟩
      · exact absurd hc Bool.false_ne_true
      · cases v with
        | Call f es kws p =>
          cases f with
          | Attribute o m q =>
            cases o with
            | Name x p2 =>
              cases es with
              | cons _ _ => exact absurd hc (by cases kws <;> exact Bool.false_ne_true)
              | nil =>
                cases kws with
                | cons _ _ => exact absurd hc Bool.false_ne_true
                | nil =>
                  have h : (decide (m = "pop") && tgB (locB sc) N t tg && nmB N j x && visB sc x && (q.endLine == p.line)) = true := hc
                  simp only [Bool.and_eq_true, decide_eq_true_eq] at h
                  obtain ⟨⟨⟨⟨rfl, h0⟩, h1⟩, h2⟩, h3⟩ := h
                  exact sPopT ok ks h0 (by rw [h1, h2]; rfl) h3
            | _ => exact absurd hc Bool.false_ne_true
          | _ => exact absurd hc Bool.false_ne_true
        | _ => exact absurd hc Bool.false_ne_true
      · exact absurd hc Bool.false_ne_true
    | _ => exact absurd hc Bool.false_ne_true
  | popI t j kE =>
    refine fun b X sc hC ok ks => ⟨fun _ st hc => ?_, fun h => absurd h Bool.false_ne_true⟩
    cases st with
    | Assign tgs v pos =>
      rcases tgs with _ | ⟨tg, _ | ⟨_, _⟩⟩
      · exact absurd hc Bool.false_ne_true
      · cases v with
        | Call f es kws p =>
          cases f with
          | Attribute o m q =>
            cases o with
            | Name x p2 =>
              rcases es with _ | ⟨ke, _ | ⟨_, _⟩⟩
              · exact absurd hc Bool.false_ne_true
              · cases kws with
                | cons _ _ => exact absurd hc Bool.false_ne_true
                | nil =>
                  have h : (decide (m = "pop") && tgB (locB sc) N t tg && nmB N j x && visB sc x && (q.endLine == p.line) && plainE ke && chk fns N kE sc [ke]) = true := hc
                  simp only [Bool.and_eq_true, decide_eq_true_eq] at h
                  obtain ⟨⟨⟨⟨⟨⟨rfl, h0⟩, h1⟩, h2⟩, h3⟩, h4⟩, h5⟩ := h
                  exact sPopI ok ks h0 (by rw [h1, h2]; rfl) h3 h4 ((snAll kE).e b X sc hC ok ke h5)
              · exact absurd hc Bool.false_ne_true
            | _ => exact absurd hc Bool.false_ne_true
          | _ => exact absurd hc Bool.false_ne_true
        | _ => exact absurd hc Bool.false_ne_true
      · exact absurd hc Bool.false_ne_true
    | _ => exact absurd hc Bool.false_ne_true
  | set2 j kE lE e =>
    refine fun b X sc hC ok ks => ⟨fun _ st hc => ?_, fun h => absurd h Bool.false_ne_true⟩
    have no : ∀ {q : Prop}, False → q := fun z => z.elim
    cases st with
    | Assign tgs v pos =>
      rcases tgs with _ | ⟨tg, tgs⟩
      · exact absurd hc Bool.false_ne_true
      · cases tg with
        | Tuple es n p5 =>
          rcases es with _ | ⟨e1, _ | ⟨e2, _ | ⟨_, _⟩⟩⟩
          · exact absurd hc Bool.false_ne_true
          · cases e1 with
            | Subscript o ke p2 => cases o <;> exact absurd hc Bool.false_ne_true
            | _ => exact absurd hc Bool.false_ne_true
          · cases e1 with
            | Subscript o ke p2 =>
              cases o with
              | Name x p =>
                cases e2 with
                | Subscript o2 le p4 =>
                  cases o2 with
                  | Name y p3 =>
                    cases tgs with
                    | cons _ _ => exact absurd hc Bool.false_ne_true
                    | nil =>
                      have h : (nmB N j x && visB sc x && (nmB N j y && visB sc y) && plainE ke && plainE le && noComp v && chk fns N e sc [v] && chk fns N kE sc [ke] && chk fns N lE sc [le]) = true := hc
                      rw [Bool.and_eq_true, Bool.and_eq_true, Bool.and_eq_true, Bool.and_eq_true, Bool.and_eq_true, Bool.and_eq_true, Bool.and_eq_true] at h
                      obtain ⟨⟨⟨⟨⟨⟨⟨h1, h1'⟩, h2⟩, h2'⟩, h3⟩, h4⟩, h5⟩, h6⟩ := h
                      exact sSet2 ok ks h1 h1' h2 h2' h3 ((snAll e).e b X sc hC ok v h4) ((snAll kE).e b X sc hC ok ke h5) ((snAll lE).e b X sc hC ok le h6)
                  | _ => exact absurd hc Bool.false_ne_true
                | _ => exact absurd hc Bool.false_ne_true
              | _ => exact absurd hc Bool.false_ne_true
            | _ => exact absurd hc Bool.false_ne_true
          · cases e1 with
            | Subscript o ke p2 => cases o <;> cases e2 <;> first | exact absurd hc Bool.false_ne_true | (rename_i o2 _ _; cases o2 <;> exact absurd hc Bool.false_ne_true)
            | _ => exact absurd hc Bool.false_ne_true
        | _ => exact absurd hc Bool.false_ne_true
    | _ => exact absurd hc Bool.false_ne_true
  | ins j kE e =>
    refine fun b X sc hC ok ks => ⟨fun _ st hc => ?_, fun h => absurd h Bool.false_ne_true⟩
    cases st with
    | Expr v pos =>
      cases v with
      | Call f es kws p =>
        cases f with
        | Attribute o m q =>
          cases o with
          | Name x p2 =>
            rcases es with _ | ⟨ke, _ | ⟨v, _ | ⟨_, _⟩⟩⟩
            · exact absurd hc Bool.false_ne_true
            · exact absurd hc Bool.false_ne_true
            · cases kws with
              | cons _ _ => exact absurd hc Bool.false_ne_true
              | nil =>
                have h : (decide (m = "insert") && nmB N j x && visB sc x && plainE ke && plainE v && (q.endLine == p.line) && chk fns N kE sc [ke] && chk fns N e sc [v]) = true := hc
                simp only [Bool.and_eq_true, decide_eq_true_eq] at h
                obtain ⟨⟨⟨⟨⟨⟨⟨rfl, h1⟩, h2⟩, h3⟩, h4⟩, h5⟩, h6⟩, h7⟩ := h
                exact sIns ok (by rw [h1, h2]; rfl) h3 h4 h5 ((snAll kE).e b X sc hC ok ke h6) ((snAll e).e b X sc hC ok v h7)
            · exact absurd hc Bool.false_ne_true
          | _ => exact absurd hc Bool.false_ne_true
        | _ => exact absurd hc Bool.false_ne_true
      | _ => exact absurd hc Bool.false_ne_true
    | _ => exact absurd hc Bool.false_ne_true
  | ext j e =>
    refine fun b X sc hC ok ks => ⟨fun _ st hc => ?_, fun h => absurd h Bool.false_ne_true⟩
    cases st with
    | Expr v pos =>
      cases v with
      | Call f es kws p =>
        cases f with
        | Attribute o m q =>
          cases o with
          | Name x p2 =>
            rcases es with _ | ⟨v, _ | ⟨_, _⟩⟩
            · exact absurd hc Bool.false_ne_true
            · cases kws with
              | cons _ _ => exact absurd hc Bool.false_ne_true
              | nil =>
                have h : (decide (m = "extend") && nmB N j x && visB sc x && plainE v && (q.endLine == p.line) && chk fns N e sc [v]) = true := hc
                simp only [Bool.and_eq_true, decide_eq_true_eq] at h
                obtain ⟨⟨⟨⟨⟨rfl, h1⟩, h2⟩, h3⟩, h4⟩, h5⟩ := h
                exact sExt ok (by rw [h1, h2]; rfl) h3 h4 ((snAll e).e b X sc hC ok v h5)
            · exact absurd hc Bool.false_ne_true
          | _ => exact absurd hc Bool.false_ne_true
        | _ => exact absurd hc Bool.false_ne_true
      | _ => exact absurd hc Bool.false_ne_true
    | _ => exact absurd hc Bool.false_ne_true
  | aug j o e =>
    refine fun b X sc hC ok ks => ⟨fun _ st hc => ?_, fun h => absurd h Bool.false_ne_true⟩
    cases st with
    | AugAssign t o' v pos =>
      cases t with
      | Name x p =>
        have h : (decide (o = o') && nmB N j x && locB sc x && chk fns N e sc [v]) = true := hc
        simp only [Bool.and_eq_true, decide_eq_true_eq] at h
        obtain ⟨⟨⟨rfl, h1⟩, h2⟩, h3⟩ := h
        exact sAug ok ks h1 h2 ((snAll e).e b X sc hC ok v h3)
      | _ => exact absurd hc Bool.false_ne_true
    | _ => exact absurd hc Bool.false_ne_true
  | clr j =>
    refine fun b X sc hC ok ks => ⟨fun _ st hc => ?_, fun h => absurd h Bool.false_ne_true⟩
    cases st with
    | Expr v pos =>
      cases v with
      | Call f es kws p =>
        cases f with
        | Attribute o m q =>
          cases o with
          | Name x p2 =>
            cases es with
            | cons _ _ => exact absurd hc Bool.false_ne_true
            | nil =>
              cases kws with
              | cons _ _ => exact absurd hc Bool.false_ne_true
              | nil =>
                have h : (decide (m = "clear") && nmB N j x && visB sc x && (q.endLine == p.line)) = true := hc
                simp only [Bool.and_eq_true, decide_eq_true_eq] at h
                obtain ⟨⟨⟨rfl, h1⟩, h2⟩, h3⟩ := h
                exact sClr ok (by rw [h1, h2]; rfl) h3
          | _ => exact absurd hc Bool.false_ne_true
        | _ => exact absurd hc Bool.false_ne_true
      | _ => exact absurd hc Bool.false_ne_true
    | _ => exact absurd hc Bool.false_ne_true
  | clrE e =>
    refine fun b X sc hC ok ks => ⟨fun _ st hc => ?_, fun h => absurd h Bool.false_ne_true⟩
    cases st with
    | Expr v pos =>
      cases v with
      | Call f es kws p =>
        cases f with
        | Attribute o m q =>
          cases o with
          | Call f2 es2 kws2 fp =>
            cases es2 with
            | nil => exact absurd hc Bool.false_ne_true
            | cons e1 es2 =>
              cases es with
              | cons _ _ => exact absurd hc Bool.false_ne_true
              | nil =>
                cases kws with
                | cons _ _ => exact absurd hc Bool.false_ne_true
                | nil =>
                  have h : (decide (m = "clear") && (q.endLine == p.line) && chk fns N e sc [.Call f2 (e1 :: es2) kws2 fp]) = true := hc
                  simp only [Bool.and_eq_true, decide_eq_true_eq] at h
                  obtain ⟨⟨rfl, h1⟩, h2⟩ := h
                  exact sClrE ok h1 ((snAll e).e b X sc hC ok _ h2)
          | _ => exact absurd hc Bool.false_ne_true
        | _ => exact absurd hc Bool.false_ne_true
      | _ => exact absurd hc Bool.false_ne_true
    | _ => exact absurd hc Bool.false_ne_true
  | forP t j c e =>
    refine fun b X sc hC ok ks => ⟨fun _ st hc => ?_, fun h => absurd h Bool.false_ne_true⟩
    cases st with
    | For tg iter bd els pos =>
      cases iter with
      | Name x p =>
        rcases bd with _ | ⟨s0, _ | ⟨_, _⟩⟩
        · exact absurd hc Bool.false_ne_true
        · cases s0 with
          | If ce th el p3 =>
            rcases th with _ | ⟨r0, _ | ⟨_, _⟩⟩
            · exact absurd hc Bool.false_ne_true
            · cases r0 with
              | Return v p2 =>
                cases v with
                | none => exact absurd hc Bool.false_ne_true
                | some v =>
                  cases el with
                  | cons _ _ => exact absurd hc Bool.false_ne_true
                  | nil =>
                    cases els with
                    | cons _ _ => exact absurd hc Bool.false_ne_true
                    | nil =>
                      have h : (nmB N j x && visB sc x && !((tgs t).contains j) && tgB (locB sc) N t tg && chk fns N c sc [ce] && chk fns N e sc [v]) = true := hc
                      simp only [Bool.and_eq_true, Bool.not_eq_true'] at h
                      obtain ⟨⟨⟨⟨⟨h1, h2⟩, h3⟩, h4⟩, h5⟩, h6⟩ := h
                      exact sForP ok ks (by rw [h1, h2]; rfl) h3 h4 ((snAll c).t b X sc hC ok ce h5) ((snAll e).e b X sc hC ok v h6)
              | _ => exact absurd hc Bool.false_ne_true
            · cases r0 <;> first | exact absurd hc Bool.false_ne_true | (rename_i o _; cases o <;> exact absurd hc Bool.false_ne_true)
          | _ => exact absurd hc Bool.false_ne_true
        · cases s0 with
          | If ce th el p3 =>
            rcases th with _ | ⟨r0, _ | ⟨_, _⟩⟩
            · exact absurd hc Bool.false_ne_true
            · cases r0 with
              | Return v p2 => cases v <;> cases el <;> exact absurd hc Bool.false_ne_true
              | _ => exact absurd hc Bool.false_ne_true
            · cases r0 with
              | Return v p2 => cases v <;> exact absurd hc Bool.false_ne_true
              | _ => exact absurd hc Bool.false_ne_true
          | _ => exact absurd hc Bool.false_ne_true
      | _ => exact absurd hc Bool.false_ne_true
    | _ => exact absurd hc Bool.false_ne_true
  | drop e =>
    refine fun b X sc hC ok ks => ⟨fun _ st hc => ?_, fun h => absurd h Bool.false_ne_true⟩
    cases st with
    | Expr v pos =>
      have h : (noComp v && chk fns N e sc [v]) = true := hc
      rw [Bool.and_eq_true] at h
      exact sDrop h.1 ((snAll e).e b X sc hC ok v h.2)
    | _ => exact absurd hc Bool.false_ne_true
  | ret e =>
    refine fun b X sc hC ok ks => ⟨fun _ st hc => ?_, fun h => absurd h Bool.false_ne_true⟩
    cases st with
    | Return v pos =>
      cases v with
      | none => exact absurd hc Bool.false_ne_true
      | some v => exact sRet ((snAll e).e b X sc hC ok v hc)
    | _ => exact absurd hc Bool.false_ne_true
  | retN =>
    refine fun b X sc hC ok ks => ⟨fun _ st hc => ?_, fun h => absurd h Bool.false_ne_true⟩
    cases st with
    | Return v pos =>
      cases v with
      | some _ => exact absurd hc Bool.false_ne_true
      | none => exact psImp ps_retN fun D σ H ⟨ε, F, E, R, w, en⟩ => en.rt (.d .none) σ ε H F .non R Dp.non w
    | _ => exact absurd hc Bool.false_ne_true
  | ite c s t ih1 ih2 =>
    refine fun b X sc hC ok ks => ⟨fun _ st hc => ?_, fun h => absurd h Bool.false_ne_true⟩
    cases st with
    | If e x y pos =>
      have h : (chk fns N c sc [e] && isSq s && isSq t && chkS fns cls N s sc x && chkS fns cls N t sc y) = true := hc
      simp only [Bool.and_eq_true] at h
      obtain ⟨⟨⟨⟨h1, h2⟩, h3⟩, h4⟩, h5⟩ := h
      exact sIf ((snAll c).t b X sc hC ok e h1) ((ih1 b X sc hC ok ks).2 h2 x h4) ((ih2 b X sc hC ok ks).2 h3 y h5)
    | _ => exact absurd hc Bool.false_ne_true
  | whl c s ih =>
    refine fun b X sc hC ok ks => ⟨fun _ st hc => ?_, fun h => absurd h Bool.false_ne_true⟩
    cases st with
    | While e x y pos =>
      cases y with
      | cons _ _ => exact absurd hc Bool.false_ne_true
      | nil =>
        have h : (chk fns N c sc [e] && isSq s && chkS fns cls N s sc x) = true := hc
        simp only [Bool.and_eq_true] at h
        exact sWhl ks ((snAll c).t b X sc hC ok e h.1.1) ((ih b X sc hC ok ks).2 h.1.2 x h.2)
    | _ => exact absurd hc Bool.false_ne_true
  | forr t it s ih =>
    refine fun b X sc hC ok ks => ⟨fun _ st hc => ?_, fun h => absurd h Bool.false_ne_true⟩
    cases st with
    | For tg iter x y pos =>
      cases y with
      | cons _ _ => exact absurd hc Bool.false_ne_true
      | nil =>
        have h : (isIt it && plainE iter && chk fns N it sc [iter, tg] && tgB (locB sc) N t tg && isSq s && chkS fns cls N s sc x) = true := hc
        simp only [Bool.and_eq_true] at h
        obtain ⟨⟨⟨⟨⟨h1, h2⟩, h3⟩, h4⟩, h5⟩, h6⟩ := h
        exact sFor ok ks h2 ((snAll it).i b X sc hC ok h1 iter tg h3) h4 fun F0 => (ih { b with F0 := F0 } X sc hC ok ks).2 h5 x h6
    | _ => exact absurd hc Bool.false_ne_true
  | raise c =>
    refine fun b X sc hC ok ks => ⟨fun _ st hc => ?_, fun h => absurd h Bool.false_ne_true⟩
    cases st with
    | Raise e q pos =>
      cases e with
      | none => exact absurd hc Bool.false_ne_true
      | some e =>
        cases e with
        | Call f es kws p =>
          cases f with
          | Name x p2 =>
            cases es with
            | nil => exact absurd hc Bool.false_ne_true
            | cons e es =>
              cases es with
              | cons _ _ => exact absurd hc Bool.false_ne_true
              | nil =>
                cases kws with
                | cons _ _ => exact absurd hc Bool.false_ne_true
                | nil =>
                  cases q with
                  | some _ => exact absurd hc Bool.false_ne_true
                  | none =>
                    have h : (decide (cls[c]? = some x) && glB sc x && !(x == ("__debug__" : Str)) && isStr e) = true := hc
                    simp only [Bool.and_eq_true, decide_eq_true_eq, Bool.not_eq_true'] at h
                    exact sRaise ok hC h.1.1.1 h.1.1.2 h.1.2 h.2
          | _ => exact absurd hc Bool.false_ne_true
        | _ => exact absurd hc Bool.false_ne_true
    | _ => exact absurd hc Bool.false_ne_true
  | try1 s c j h ih =>
    refine fun b X sc hC ok ks => ⟨fun _ st hc => ?_, fun h => absurd h Bool.false_ne_true⟩
    have no : ∀ {q : Prop}, False → q := fun z => z.elim
    cases st with
    | Try x hs els fin pos =>
      cases hs with
      | nil => exact absurd hc Bool.false_ne_true
      | cons h1 hs =>
        cases h1 with
        | ExceptHandler ty n su pos' =>
          cases ty with
          | none => cases hs <;> exact absurd hc Bool.false_ne_true
          | some ty =>
            cases ty with
            | Name y p =>
              cases su with
              | nil => cases hs <;> exact absurd hc Bool.false_ne_true
              | cons h0 su =>
                cases hs with
                | cons _ _ => exact absurd hc Bool.false_ne_true
                | nil =>
                  cases els with
                  | cons _ _ => exact absurd hc Bool.false_ne_true
                  | nil =>
                    cases fin with
                    | cons _ _ => exact absurd hc Bool.false_ne_true
                    | nil =>
                      have g : (isSq s && chkS fns cls N s sc x && decide (cls[c]? = some y) && glB sc y && !(y == ("__debug__" : Str)) && excB N j sc n && chkHS cls N j h sc (h0 :: su)) = true := hc
                      simp only [Bool.and_eq_true, decide_eq_true_eq, Bool.not_eq_true'] at g
                      obtain ⟨⟨⟨⟨⟨⟨g1, g2⟩, g3⟩, g4⟩, g5⟩, g6⟩, g7⟩ := g
                      exact sTry ok hC ks ks.stack ks.frame (fun W pn xe ok' ks' => (ih { b with W := W } (X.tr pn xe) sc hC ok' ks').2 g1 x g2) g3 g4 g5 g6 g7
            | _ => cases su <;> cases hs <;> exact absurd hc Bool.false_ne_true
    | _ => exact absurd hc Bool.false_ne_true
  | brk =>
    refine fun b X sc hC ok ks => ⟨fun _ st hc => ?_, fun h => absurd h Bool.false_ne_true⟩
    cases st with
    | Break pos => exact psImp ps_break fun D σ H ⟨ε, F, E, R, w, en⟩ => en.bk σ ε H F R w
    | _ => exact absurd hc Bool.false_ne_true
  | cont =>
    refine fun b X sc hC ok ks => ⟨fun _ st hc => ?_, fun h => absurd h Bool.false_ne_true⟩
    cases st with
    | Continue pos => exact psImp ps_continue fun D σ H ⟨ε, F, E, R, w, en⟩ => en.ct σ ε H F R w
    | _ => exact absurd hc Bool.false_ne_true
  | pass =>
    refine fun b X sc hC ok ks => ⟨fun _ st hc => ?_, fun h => absurd h Bool.false_ne_true⟩
    cases st with
    | Pass pos => exact psImp ps_pass fun D σ H ⟨ε, F, E, R, w, en⟩ => en.nx σ ε H F R w
    | _ => exact absurd hc Bool.false_ne_true
  | never =>
    refine fun b X sc hC ok ks => ⟨fun _ st hc => ?_, fun h => absurd h Bool.false_ne_true⟩
    exact psImp ps_never fun D σ H ⟨ε, F, E, R, w, en⟩ => w.elim
end
/-! ### a def -/
/-- a def's text and its term -/
def okF (fns : List FnI) (cls : List Str) (fi : FnI) (st : Stmt) : Bool :=
  decide (fi.np = fi.ps.length) && decide (fi.nn = fi.N.length) && !(defScope st).isGenerator && !(defScope st).isCoroutine && isSq fi.body && chkS fns cls fi.N fi.body (defScope st) (defBody st)
theorem startRep {K : PySem.W.Frag} {F H : Hp} {N : List Str} {vs : List V} {ds : List D} (s : Sub F H) (d : DpAll K F vs ds) (hl : vs.length ≤ N.length) : Rep K H F F H (L2.start N vs) (ev0 N.length ds) := by
  have gl : ∀ (ds : List D) (m j : Nat) (v : Val), gv (ds.map (fun x => some (Val.d x)) ++ List.replicate m none) j = some v → ∃ x, v = .d x ∧ ds[j]? = some x := by
    intro ds
    induction ds with
    | nil =>
      intro m
      induction m with
      | zero => intro j v h; cases h
      | succ m ih =>
        intro j v h
        cases j with
        | zero => cases h
        | succ j => exact (ih j v h).elim fun x q => absurd q.2 (by simp)
    | cons y r ih =>
      intro m j v h
      cases j with
      | zero => exact ⟨y, (Option.some.inj h).symm, rfl⟩
      | succ j =>
        obtain ⟨x, e1, e2⟩ := ih m j v h
        exact ⟨x, e1, by simpa using e2⟩
  refine ⟨s, .refl _, .refl _, fun a o h => .inl h, ?_, fun j x h => ?_, fun j xs h => ?_, fun i j xs ys p h => ?_⟩
  · unfold L2.start ev0
    have e := daLen d
    simp only [List.length_append, List.length_map, List.length_replicate]
    omega
  · obtain ⟨y, e, h2⟩ := gl _ _ _ _ h
    cases e
    obtain ⟨v, h3, h4⟩ := daGet' d h2
    refine ⟨v, ?_, h4⟩
    unfold L2.start
    have hj : j < vs.length := (List.getElem?_eq_some_iff.mp h3).1
    rw [List.getElem?_append_left (by simpa using hj)]
    simp [h3]
  · obtain ⟨y, e, _⟩ := gl _ _ _ _ h
    cases e
  · obtain ⟨y, e, _⟩ := gl _ _ _ _ h
    cases e
section
variable {P : Program} {w : World} {K : PySem.W.Frag} {mg : Str → Option Value} {base : Heap} {fns : List FnI} {cls : List Str} {C : Nat → Addr} {Φ : Fs} {k : Nat}
/-- what is known of the defs that are called -/
def Callees (P : Program) (w : World) (K : PySem.W.Frag) (mg : Str → Option Value) (base : Heap) (fns : List FnI) (C : Nat → Addr) (Φ : Fs) (k : Nat) : Prop :=
  ∀ (i : Nat) (fi : FnI), fns[i]? = some fi → fi.con = none → ∃ f fd, mg fi.name = some (.ref f) ∧ PySem.W.keepIn K (.ref f) = true ∧ Binds K fd fi.ps [] ∧
    FnOk P w K mg base (L2.CX P w) (k + 32) f fd fi.ps (spec K C fi.np (Φ i))
theorem fnGo {fi : FnI} {st : Stmt} {f : Addr} {fd : FuncData} {x q : Str} (F : FunD K x q (defArgs st) (defBody st) (defScope st) [] [] f fd) (S : FnScope fi.N fi.ps (defScope st)) (h : okF fns cls fi st = true)
    (ca : Callees P w K mg base fns C Φ k) (ar : ∀ i fi ds Xp Q, fns[i]? = some fi → Φ i ds Xp Q → ds.length = fi.np) (bl : ∀ x ∈ bltNames, mg x = none) (ex : ∀ c x, cls[c]? = some x → ClsAt K mg x (C c)) (xf : ExF K cls C) (gc : ∀ (i : Nat) (fi : FnI) (d : D), fns[i]? = some fi → fi.con = some d → ∃ u v, mg fi.name = some u ∧ RelV v u ∧ ∀ F, Dp K F v d) (sr : base.NoSeer) (tr : P.given.tree = none) :
    FnOk P w K mg base (L2.CX P w) (k + 32 + 1) f fd fi.ps (spec K C fi.np (fun ds Xp Q => runB Φ fi ds Xp Q)) := by
  unfold okF at h
  simp only [Bool.and_eq_true, decide_eq_true_eq, Bool.not_eq_true'] at h
  obtain ⟨⟨⟨⟨⟨h1, h2⟩, hg1⟩, hg2⟩, h3⟩, h4⟩ := h
  refine F.ok S (fun vs H Q E h => ?_) (fun cdv A outer s H vs Q E hr h => ?_)
  · obtain ⟨F, ds, Xp, Qp, _, d, hl, _⟩ := h
    rw [daLen d, hl, h1]
  · obtain ⟨F, ds, Xp, Qp, sb, d, hl, rb, hx, hq⟩ := h
    have hlv : vs.length ≤ fi.N.length := by
      rw [daLen d, hl, h1]
      have e := congrArg List.length S.pre
      rw [List.length_take] at e
      omega
    refine ⟨_, (snS (Φ := Φ) (k := k) fi.body ⟨C, fun c d _ H => E c d H, H, F⟩ _ (defScope st) rfl ?_ ?_).2 h3 _ h4, ?_⟩
    · exact ⟨hr, sr, tr, ⟨_, _, rfl, hg1, hg2, rfl, rfl⟩, S.nd, rfl, rfl, rfl, takes_of rfl rfl rfl rfl, bl, ex, xf, ar, gc, ca⟩
    · exact ⟨passes_of rfl, fun _ => rfl, S.kind, rfl, rfl⟩
    · refine ⟨ev0 fi.N.length ds, F, { nx := fun _ => Qp (.d .none), rt := Qp, ex := fun c _ => Xp c }, startRep sb d hlv, by rw [← h2]; exact rb.2, fun σ ε H' F' R q => ?_, fun v σ ε H' F' x R a q => ?_, fun _ _ _ _ _ z => z.elim, fun _ _ _ _ _ z => z.elim, fun c σ ε H' F' R q => hx c H' R.h0 q⟩
      · exact hq (.d .none) H' F' .non R.h0 R.ff R.fh R.fr Dp.non q
      · refine hq v H' F' x R.h0 R.ff R.fh R.fr ?_ q
        cases v with
        | d y => exact a
        | own ys =>
          obtain ⟨p, vs, e, g1, g2, g3, g4, _⟩ := a
          exact ⟨p, vs, e, g1, g2, g3, g4⟩
        | _ => exact a
/-! ### all defs, to any depth -/
structure Tab (K : PySem.W.Frag) (mg : Str → Option Value) (fns : List FnI) (cls : List Str) (C : Nat → Addr) : Prop where
  gc : ∀ (i : Nat) (fi : FnI) (d : D), fns[i]? = some fi → fi.con = some d → ∃ u v, mg fi.name = some u ∧ RelV v u ∧ ∀ F, Dp K F v d
  fn : ∀ (i : Nat) (fi : FnI), fns[i]? = some fi → fi.con = none → ∃ f fd st, mg fi.name = some (.ref f) ∧ FunD K fi.name fi.name (defArgs st) (defBody st) (defScope st) [] [] f fd ∧ Binds K fd fi.ps [] ∧ FnScope fi.N fi.ps (defScope st) ∧ okF fns cls fi st = true
  bl : ∀ x ∈ bltNames, mg x = none
  ex : ∀ (c : Nat) (x : Str), cls[c]? = some x → ClsAt K mg x (C c)
  xf : ExF K cls C
theorem semAr : ∀ (k : Nat) (i : Nat) (fi : FnI) ds Xp Q, fns[i]? = some fi → sem fns k i ds Xp Q → ds.length = fi.np
  | 0, _, _, _, _, _, _, h => h.elim
  | k + 1, i, fi, ds, Xp, Q, e, h => by
    have h' : (match fns[i]? with
      | some fi => runB (sem fns k) fi ds Xp Q
      | none => False) := h
    rw [e] at h'
    exact h'.1
theorem all_ok (T : Tab K mg fns cls C) (sr : base.NoSeer) (tr : P.given.tree = none) : ∀ k, Callees P w K mg base fns C (sem fns k) k
  | 0 => fun i fi e ec => by
    obtain ⟨f, fd, st, h1, h2, h3, h4, h5⟩ := T.fn i fi e ec
    refine ⟨f, fd, h1, h2.kp, h3, ⟨fun vs H Q E h => ?_, fun A outer s H args us vs Q E _ _ _ _ h => ?_⟩⟩
    · obtain ⟨_, _, _, _, _, _, _, z, _⟩ := h
      exact z.elim
    · obtain ⟨_, _, _, _, _, _, _, z, _⟩ := h
      exact z.elim
  | k + 1 => fun i fi e ec => by
    obtain ⟨f, fd, st, h1, h2, h3, h4, h5⟩ := T.fn i fi e ec
    refine ⟨f, fd, h1, h2.kp, h3, ?_⟩
    have q := fnGo (P := P) (w := w) (base := base) h2 h4 h5 (all_ok T sr tr k) (semAr k) T.bl T.ex T.xf T.gc sr tr
    have e1 : sem fns (k + 1) i = fun ds Xp Q => runB (sem fns k) fi ds Xp Q := by
      funext ds Xp Q
      show (match fns[i]? with
        | some fi => runB (sem fns k) fi ds Xp Q
        | none => False) = _
      rw [e]
    rw [e1]
    exact q
end
end Rc

/-! The end: from a table of terms and a pure law to the row. -/
namespace Rc
open PySem PySem.Spec PyProof.Rows L2
def mkD (fi : FnI) (st : Stmt) : He.DefD := ⟨(fi.name, none), fi.name, fi.name, defArgs st, defBody st, defScope st, [], []⟩
structure DefOk (fns : List FnI) (cls : List Str) (fi : FnI) (st : Stmt) : Prop where
  b : ∀ {K : PySem.W.Frag} {f : Addr} {fd : FuncData}, FunD K fi.name fi.name (defArgs st) (defBody st) (defScope st) [] [] f fd →
    Binds K fd fi.ps [] ∧ ∀ (s : Shared) (us : List Value), us.length = fi.ps.length → BindsTo s fd ⟨us, []⟩ (fi.ps.zip us)
  s : FnScope fi.N fi.ps (defScope st)
  o : okF fns cls fi st = true
inductive AllOk (fns : List FnI) (cls : List Str) : List FnI → List Stmt → Prop where
  | nil {cons : List FnI} : (cons.all fun fi => fi.con.isSome) = true → AllOk fns cls cons []
  | cons {fi st fis sts} : DefOk fns cls fi st → AllOk fns cls fis sts → AllOk fns cls (fi :: fis) (st :: sts)
theorem AllOk.at {fns : List FnI} {cls : List Str} {fis : List FnI} {sts : List Stmt} (h : AllOk fns cls fis sts) : ∀ (i : Nat) (fi : FnI), fis[i]? = some fi → fi.con = none → ∃ st, DefOk fns cls fi st ∧ mkD fi st ∈ List.zipWith mkD fis sts := by
  induction h with
  | nil hc =>
    intro i fi h ec
    have := List.all_eq_true.mp hc fi (List.mem_of_getElem? h)
    rw [ec] at this
    cases this
  | @cons fi st fis sts d r ih =>
    intro i fi2 h ec
    cases i with
    | zero =>
      cases h
      exact ⟨st, d, List.mem_cons_self ..⟩
    | succ i =>
      obtain ⟨st2, d2, m⟩ := ih i fi2 h ec
      exact ⟨st2, d2, List.mem_cons_of_mem _ m⟩
def mkFa (fns : List FnI) (cls : List Str) : List He.Fa := ((fns.filter fun fi => fi.con.isNone).map fun fi => .glo fi.name) ++ (bltNames.map .free ++ (cls.map .glo ++ cls.map .exc))
theorem says_fact {fa : List He.Fa} {fn : List He.DefD} {K : PySem.W.Frag} (c : He.SaysD fa fn K) {f : He.Fa} (h : f ∈ fa) : f.ok K = true := by
  obtain ⟨i, hi, e⟩ := List.mem_iff_getElem.mp h
  exact c.fact i (f := f) (by rw [List.getElem?_eq_getElem hi, e])
theorem says_def {fa : List He.Fa} {fn : List He.DefD} {K : PySem.W.Frag} (c : He.SaysD fa fn K) {d : He.DefD} (h : d ∈ fn) : ∃ fd, FunD K d.name d.qual d.params d.body d.scope (d.dvs K) (d.kws K) (He.fAd K d.at_) fd := by
  obtain ⟨i, hi, e⟩ := List.mem_iff_getElem.mp h
  exact c.def_ i (d := d) (by rw [List.getElem?_eq_getElem hi, e])
def clsA (K : PySem.W.Frag) (cls : List Str) (c : Nat) : Addr := match cls[c]? with
  | some x => He.ga K x
  | none => He.ga K (cls.getD 0 "")
/-- what the error classes say of each other -/
def xF1 (cls : List Str) (K : PySem.W.Frag) (i : Nat) : Bool :=
  (He.eqO (PySem.W.findIn K (.ref (He.ga K (cls.getD i ""))) "__getattribute__") (some (some (.builtin "BaseException.__getattribute__"))) &&
  (He.eqO (PySem.W.findIn K (.ref (He.ga K (cls.getD i ""))) "__getattr__") (some none) &&
  (decide (PySem.W.subIn K (.ref (He.ga K (cls.getD i ""))) (.type "BaseException") = some true) &&
  (PySem.W.hasDictIn K (He.ga K (cls.getD i "")) &&
  (He.eqO (PySem.W.findIn K (.ref (He.ga K (cls.getD i ""))) "__class__") (some (some (.builtin "object.__class__"))) &&
  (He.eqO (PySem.W.specialIn K (.builtin "object.__class__") "__get__") (some (some (.builtin "getset_descriptor.__get__"))) &&
  (decide (PySem.W.takesIn K (.builtin "object.__class__") = some true) &&
  decide (PySem.W.mroIn K (He.ga K (cls.getD i "")) (.type "object") = some true))))))))
def xF2 (cls : List Str) (K : PySem.W.Frag) (i : Nat) : Bool :=
  decide (PySem.W.kitOne K (.ref (He.ga K (cls.getD i ""))) (.type "ValueError") = some true) &&
  (List.range cls.length).all fun j => decide (PySem.W.kitOne K (.ref (He.ga K (cls.getD i ""))) (.ref (He.ga K (cls.getD j ""))) = some (isS i j)) &&
    decide (PySem.W.exmOne K (.ref (He.ga K (cls.getD i ""))) (.ref (He.ga K (cls.getD j ""))) = some (isS i j))
def xF (cls : List Str) (K : PySem.W.Frag) : Bool := (List.range cls.length).all fun i => xF1 cls K i && xF2 cls K i
theorem clsA_lt {K : PySem.W.Frag} {cls : List Str} {c : Nat} (h : c < cls.length) : clsA K cls c = He.ga K (cls.getD c "") := by
  unfold clsA
  rw [List.getElem?_eq_getElem h]
  simp [List.getD, h]
theorem clsA_ge {K : PySem.W.Frag} {cls : List Str} {c : Nat} (h : ¬ c < cls.length) : clsA K cls c = He.ga K (cls.getD 0 "") := by
  unfold clsA
  rw [List.getElem?_eq_none (by omega)]
theorem xF_of {K : PySem.W.Frag} {cls : List Str} (h : xF cls K = true) : ExF K cls (clsA K cls) := by
  have key : ∀ i, i < cls.length → xF1 cls K i = true ∧ xF2 cls K i = true := fun i hi => by
    have := List.all_eq_true.mp h i (List.mem_range.mpr hi)
    simpa [Bool.and_eq_true] using this
  have red : ∀ c', cls ≠ [] → ∃ i, i < cls.length ∧ clsA K cls c' = He.ga K (cls.getD i "") ∧ ∀ c, c < cls.length → isS i c = isS c' c := fun c' hne => by
    have h0 : 0 < cls.length := List.length_pos_iff.mpr hne
    by_cases hl : c' < cls.length
    · exact ⟨c', hl, clsA_lt hl, fun _ _ => rfl⟩
    · refine ⟨0, h0, clsA_ge hl, fun c hc => ?_⟩
      unfold isS
      have : c ≠ c' := by omega
      simp [this]
  have two : ∀ c' c x, cls[c]? = some x → PySem.W.kitOne K (.ref (clsA K cls c')) (.ref (clsA K cls c)) = some (isS c' c) ∧ PySem.W.exmOne K (.ref (clsA K cls c')) (.ref (clsA K cls c)) = some (isS c' c) := fun c' c x e => by
    have hc : c < cls.length := (List.getElem?_eq_some_iff.mp e).1
    have hne : cls ≠ [] := fun z => by rw [z] at hc; cases hc
    obtain ⟨i, hi, e1, e2⟩ := red c' hne
    have q := (key i hi).2
    unfold xF2 at q
    rw [Bool.and_eq_true] at q
    have q2 := List.all_eq_true.mp q.2 c (List.mem_range.mpr hc)
    rw [Bool.and_eq_true] at q2
    rw [e1, clsA_lt hc, ← e2 c hc]
    exact ⟨of_decide_eq_true q2.1, of_decide_eq_true q2.2⟩
  refine ⟨fun c' hne => ?_, fun c' hne => ?_, fun c' c x e => (two c' c x e).1, fun c' c x e => (two c' c x e).2⟩
  · obtain ⟨i, hi, e1, _⟩ := red c' hne
    rw [e1]
    obtain ⟨q1, q⟩ := He.ba (key i hi).1
    obtain ⟨q2, q⟩ := He.ba q
    obtain ⟨q3, q⟩ := He.ba q
    obtain ⟨q4, q⟩ := He.ba q
    obtain ⟨q5, q⟩ := He.ba q
    obtain ⟨q6, q⟩ := He.ba q
    obtain ⟨q7, q8⟩ := He.ba q
    exact ⟨He.eqO_ok q1, He.eqO_ok q2, of_decide_eq_true q3, q4, He.eqO_ok q5, He.eqO_ok q6, of_decide_eq_true q7, of_decide_eq_true q8⟩
  · obtain ⟨i, hi, e1, _⟩ := red c' hne
    rw [e1]
    exact of_decide_eq_true (He.ba (key i hi).2).1
/-! the module's constants -/
mutual
def conV (K : PySem.W.Frag) : D → Value → Bool
  | .none, .none => true
  | .bool a, .bool b => a == b
  | .int a, .int b _ => a == b
  | .str a, .str b _ => decide (a = b)
  | .tuple ds, .ref a => (match K.lookup a with
    | some o => decide (o.cls = .type "tuple") && (match o.data with
      | .seq its _ => decide (its.size ≤ 1000) && conVs K ds its.toList
      | _ => false)
    | none => false)
  | _, _ => false
def conVs (K : PySem.W.Frag) : List D → List Value → Bool
  | [], [] => true
  | d :: r, u :: t => conV K d u && conVs K r t
  | _, _ => false
end
mutual
theorem conV_ok {K : PySem.W.Frag} : ∀ (d : D) (u : Value), conV K d u = true → ∃ v, RelV v u ∧ ∀ F, Dp K F v d
  | .none, u, h => by
    cases u <;> first | exact ⟨.non, rfl, fun _ => .non⟩ | (unfold conV at h; cases h)
  | .bool a, u, h => by
    cases u <;> first | (rename_i b; unfold conV at h; cases (beq_iff_eq.mp h); exact ⟨.bl _, rfl, fun _ => .bl _⟩) | (unfold conV at h; cases h)
  | .int a, u, h => by
    cases u <;> first | (rename_i b t; unfold conV at h; cases (beq_iff_eq.mp h); exact ⟨.int _, ⟨t, rfl⟩, fun _ => .int _⟩) | (unfold conV at h; cases h)
  | .str a, u, h => by
    cases u <;> first | (rename_i b t; unfold conV at h; cases (of_decide_eq_true h); exact ⟨.str _, ⟨t, rfl⟩, fun _ => .str _⟩) | (unfold conV at h; cases h)
  | .list _, u, h => by unfold conV at h; cases h
  | .dict _, u, h => by unfold conV at h; cases h
  | .tuple ds, u, h => by
    cases u with
    | ref a =>
      unfold conV at h
      cases e : K.lookup a with
      | none => rw [e] at h; cases h
      | some o =>
        rw [e] at h
        rw [Bool.and_eq_true] at h
        obtain ⟨h1, h2⟩ := h
        cases e2 : o.data with
        | seq its n =>
          rw [e2] at h2
          rw [Bool.and_eq_true] at h2
          obtain ⟨vs, r, dp⟩ := conVs_ok ds its.toList h2.2
          have sz := of_decide_eq_true h2.1
          exact ⟨.ref a, rfl, fun F => .tup (.inr ⟨o, its, n, e, of_decide_eq_true h1, e2, by rw [line24]; omega, r⟩) (dp F)⟩
        | _ => rw [e2] at h2; cases h2
    | _ => unfold conV at h; cases h
theorem conVs_ok {K : PySem.W.Frag} : ∀ (ds : List D) (us : List Value), conVs K ds us = true → ∃ vs, Vals vs us ∧ ∀ F, DpAll K F vs ds
  | [], us, h => by
    cases us with
    | nil => exact ⟨[], .nil, fun _ => .nil⟩
    | cons _ _ => unfold conVs at h; cases h
  | d :: r, us, h => by
    cases us with
    | nil => unfold conVs at h; cases h
    | cons u t =>
      unfold conVs at h
      rw [Bool.and_eq_true] at h
      obtain ⟨v, r1, d1⟩ := conV_ok d u h.1
      obtain ⟨vs, r2, d2⟩ := conVs_ok r t h.2
      exact ⟨v :: vs, .cons r1 r2, fun F => .cons (d1 F) (d2 F)⟩
end
def conF (K : PySem.W.Frag) (fi : FnI) : Bool := match fi.con with
  | none => true
  | some d => (match PySem.W.nsIn K mainGlobals fi.name with
    | some (some u) => conV K d u
    | _ => false)
theorem conF_ok {K : PySem.W.Frag} {h : Heap} {mg : Str → Option Value} (X : K.In h) (G : h.Ns mainGlobals mg) {fi : FnI} {d : D} (c : conF K fi = true) (e : fi.con = some d) : ∃ u v, mg fi.name = some u ∧ RelV v u ∧ ∀ F, Dp K F v d := by
  unfold conF at c
  rw [e] at c
  cases q : PySem.W.nsIn K mainGlobals fi.name with
  | none => rw [q] at c; cases c
  | some o =>
    cases o with
    | none => rw [q] at c; cases c
    | some u =>
      rw [q] at c
      obtain ⟨v, r, dp⟩ := conV_ok d u c
      exact ⟨u, v, PySem.W.mg_of X G q, r, dp⟩
def xG (fns : List FnI) (cls : List Str) (K : PySem.W.Frag) : Bool := xF cls K && fns.all (conF K)
theorem tab_of {fns : List FnI} {cls : List Str} {sts : List Stmt} {K : PySem.W.Frag} {h : Heap} {mg : Str → Option Value} (A : AllOk fns cls fns sts) (X : K.In h) (G : h.Ns mainGlobals mg)
    (c : He.SaysD (mkFa fns cls) (List.zipWith mkD fns sts) K) (cx : xG fns cls K = true) : Tab K mg fns cls (clsA K cls) := by
  have inFn : ∀ {x : FnI}, x ∈ fns → x.con = none → He.Fa.glo x.name ∈ mkFa fns cls := fun hx ec => List.mem_append_left _ (List.mem_map.mpr ⟨_, List.mem_filter.mpr ⟨hx, by rw [ec]; rfl⟩, rfl⟩)
  unfold xG at cx
  rw [Bool.and_eq_true] at cx
  refine ⟨fun i fi d e ec => conF_ok X G (List.all_eq_true.mp cx.2 fi (List.mem_of_getElem? e)) ec, fun i fi e ec => ?_, fun x hx => ?_, fun i x e => ?_, xF_of cx.1⟩
  · obtain ⟨st, d, m⟩ := A.at i fi e ec
    obtain ⟨fd, F⟩ := says_def c m
    have hm : fi ∈ fns := List.mem_of_getElem? e
    exact ⟨He.ga K fi.name, fd, st, He.glo_ok X G (says_fact c (inFn hm ec)), F, (d.b F).1, d.s, d.o⟩
  · exact He.free_ok X G (says_fact c (List.mem_append_right _ (List.mem_append_left _ (List.mem_map.mpr ⟨_, hx, rfl⟩))))
  · have hm : x ∈ cls := List.mem_of_getElem? e
    have g := He.glo_ok X G (says_fact c (f := .glo x) (List.mem_append_right _ (List.mem_append_right _ (List.mem_append_left _ (List.mem_map.mpr ⟨_, hm, rfl⟩)))))
    obtain ⟨c1, c2, c3, c4⟩ := He.exc_ok (x := x) (says_fact c (List.mem_append_right _ (List.mem_append_right _ (List.mem_append_right _ (List.mem_map.mpr ⟨_, hm, rfl⟩)))))
    have ea : clsA K cls i = He.ga K x := by
      unfold clsA
      rw [e]
    rw [ea]
    exact ⟨g, c1, c2, c3, c4⟩
theorem dpInts {K : PySem.W.Frag} {F : Hp} : ∀ ns : List Int, DpAll K F (ns.map V.int) (ns.map PyData.int)
  | [] => .nil
  | i :: r => .cons (Dp.int i) (dpInts r)
/-- the call of a law's def, at the heap behind the top; the ground that its promise stands on holds what a great division asks for -/
theorem go_law {P : Program} {w : World} {K : PySem.W.Frag} {mg mb : Str → Option Value} {j : Nat} {f p : Addr} {fd : FuncData} {arg : Str} {sp : Sp} {z : Shared} {us : List Value} {ns : List Int}
    (KI : K.In z.heap) (gG : z.heap.Ns mainGlobals mg) (gB : z.heap.Ns builtinsNs mb) (boot : ∀ x : Str, x ≠ "__name__" → mb x = bootBuiltins x) (lim : z.heap.NoLimit) (see : z.heap.NoSeer) (gens : z.gens = #[])
    (at_ : z.heap.get? p = some { cls := .type "list", data := .seq us.toArray }) (are : IntsAre us ns) (few : ns.length ≤ sizeLine) (room : Room j callerA)
    (F : ∀ B : Heap, K.In B → B.Ns mainGlobals mg → B.NoSeer → FnOk P w K mg B (L2.CX P w) j f fd [arg] sp) (bind : ∀ (s : Shared) (u : Value), BindsTo s fd ⟨[u], []⟩ [(arg, u)])
    (pro : ∀ H : Hp, SqL K H p (ns.map V.int) → sp [.ref p] H (fun v _ => v = .bl true) fun _ _ _ => False) :
    codeAny (model P w) callerA (.call (.ref f) ⟨[.ref p], []⟩) (fun r s' => r = .ok (.ret (.bool true)) ∧ OldK z.heap s'.heap ∧ s'.os = z.os ∧ AllBare s'.gens) z := by
  have sizes := are.length
  -- what is tracked: the script alone, or nothing where the module has it
  obtain ⟨H, sq, hok, only, frz, free⟩ : ∃ H : Hp, SqL K H p (ns.map V.int) ∧ HOk P w H z.heap ∧ (∀ c, H c ≠ none → c = p ∧ K.lookup p = none) ∧ (∀ c u, H c = some u → ∃ o xs, u = .frz o (.lst xs)) ∧ (H p = none → (K.lookup p).isSome = true) := by
    cases look : K.lookup p with
    | some o =>
      have same := KI p o look
      rw [at_] at same
      cases same
      refine ⟨fun _ => none, .inr ⟨_, us.toArray, _, look, rfl, rfl, rfl, ?_, ?_⟩, fun c u q => ?_, fun c q => (q rfl).elim, fun c u q => ?_, fun _ => rfl⟩
      · rw [List.size_toArray, sizes]
        exact few
      · simpa using vals_ints are
      · exact absurd (show (none : Option HO) = some u from q) (by simp)
      · exact absurd (show (none : Option HO) = some u from q) (by simp)
    | none =>
      refine ⟨upd (fun _ => none) p (.frz { cls := .type "list", data := .seq us.toArray } (.lst (ns.map V.int))), .inl (.inr ⟨_, upd_same⟩), fun c u q => ?_, fun c q => ?_, fun c u q => ?_, fun q => ?_⟩
      · by_cases e : c = p
        · subst e
          rw [upd_same] at q
          obtain rfl := Option.some.inj q
          refine ⟨at_, ?_, us, _, vals_ints are, at_⟩
          rw [List.length_map]
          exact few
        · rw [upd_ne e] at q
          cases q
      · by_cases e : c = p
        · exact ⟨e, rfl⟩
        · rw [upd_ne e] at q
          exact (q rfl).elim
      · by_cases e : c = p
        · subst e
          rw [upd_same] at q
          exact ⟨_, _, (Option.some.inj q).symm⟩
        · rw [upd_ne e] at q
          cases q
      · rw [upd_same] at q
        cases q
  -- the ground
  have into : ∀ {c : Addr} {o : Obj}, z.heap.get? c = some o → o ≠ { cls := .type "list", data := .seq us.toArray } → (hidT z.heap H).get? c = some o := fun {c o} e ne => by
    refine hidT_get e ?_
    cases q : H c with
    | none => rfl
    | some u =>
      obtain ⟨rfl, _⟩ := only c (by rw [q]; simp)
      rw [at_] at e
      exact (ne (Option.some.inj e).symm).elim
  have names : ∀ {c : Addr} {m : Str → Option Value}, z.heap.Ns c m → (hidT z.heap H).Ns c m := fun {c m} ⟨o, es, ep, e, d, r⟩ => ⟨o, es, ep, into e (fun y => by rw [y] at d; cases d), d, r⟩
  have KB : K.In (hidT z.heap H) := fun c o e => by
    refine hidT_get (KI c o e) ?_
    cases q : H c with
    | none => rfl
    | some u =>
      obtain ⟨rfl, no⟩ := only c (by rw [q]; simp)
      rw [e] at no
      cases no
  have limB : (hidT z.heap H).NoLimit := by
    obtain ⟨mc, l1, l2⟩ := lim
    exact ⟨mc, names l1, l2⟩
  have seeB : (hidT z.heap H).NoSeer := by
    obtain ⟨⟨m1, a1, a2⟩, ⟨m2, b1, b2⟩, ⟨m3, c1, c2⟩, mg', bm, ob, d1, d2, d3, d4, d5⟩ := see
    exact ⟨⟨m1, names a1, a2⟩, ⟨m2, names b1, b2⟩, ⟨m3, names c1, c2⟩, ⟨mg', bm, ob, names d1, d2, into d3 (fun y => by rw [y] at d4; exact absurd (Value.type.inj d4) (by decide)), d4, d5⟩⟩
  have start : Env0 P w K mg (hidT z.heap H) callerA [] z H :=
    { frames := rfl, mod := ⟨KB, names gG, ⟨mb, names gB, boot⟩, limB⟩, bs := fun c o e => of_hidT e, bsz := Nat.le_of_eq (hidT_size _ _), funs := trivial, frf := fun c hc => (List.not_mem_nil hc).elim, hok := hok, bare := .of_eq gens }
  refine codeAny_mono ((F _ KB (names gG) seeB).run callerA [] z H ⟨[.ref p], []⟩ [.ref p] [.ref p] _ _ room start (bind z (.ref p)) (.cons rfl .nil) (pro H sq)) fun r s' h => ?_
  cases r with
  | error e =>
    obtain ⟨_, _, _, _, _, _, _, _, _, _, _, _, no⟩ := h
    exact no.elim
  | ok fl =>
    cases fl with
    | ret u =>
      obtain ⟨v, H', os, bare, un, hok', rel, q⟩ := h
      obtain rfl : v = .bl true := q
      obtain rfl : u = Value.bool true := rel
      refine ⟨rfl, OldK.of_keep fun c o e => ?_, os, bare⟩
      cases q : H c with
      | none => exact un.keep c o e q (fun y => (List.not_mem_nil y).elim) (by simp)
      | some t =>
        obtain ⟨ob, xs, rfl⟩ := frz c t q
        have old := (hok c _ q).1
        have new := (hok' c _ (un.frzs c ob _ q)).1
        rw [e] at old
        obtain rfl := Option.some.inj old
        exact new
    | next => exact False.elim h
    | brk => exact False.elim h
    | cont => exact False.elim h
/-- a law over the small language -/
theorem walk_rc {l : PySem.W.OpenLaw} {n k : Nat} {q : Program} {loose : List Str} {XP : (Str → Option Value) → Heap → Prop} {d : DefRec} {x : Str} {fns : List FnI} {cls : List Str} {sts : List Stmt} {li : Nat} {fi : FnI}
    (hn : l.most = some n) (hn2 : n ≤ sizeLine) (hdf : d.params.defaults = []) (hr : Room (k + 33) callerA) (tr : l.prog.given.tree = none) (im : importsNone q = true)
    (A : AllOk fns cls fns sts) (hli : fns[li]? = some fi) (hname : d.name = fi.name) (hps : fi.ps = [x]) (hnp : fi.np = 1) (hcon : fi.con = none)
    (hp : ∀ ns : List Int, ns.length ≤ n → (∀ z ∈ ns, Builtin.Int.intBits z ≤ 1048576) → sem fns (k + 1) li [.list (ns.map .int)] (fun _ => False) (fun v => v = Val.d (.bool true))) :
    PySem.W.WalkO q loose XP (He.hookX 4 (mkFa fns cls) (List.zipWith mkD fns sts) [] [] (xG fns cls)).says l.row.toRowW d [] (fun f vs => PySem.call f vs) := by
  refine Att.attach_callB hn hdf fun w s₀ s₁ mg mb fa o pm cd doc a vs ns G Y ho hd hcd hmg hobj hints hlen hbits hg => ?_
  obtain ⟨K, KX, cX⟩ := Y
  have c : He.SaysD (mkFa fns cls) (List.zipWith mkD fns sts) K := cX.t.d
  have T : Tab K mg fns cls (clsA K cls) := tab_of A KX G.T.g c cX.more
  obtain ⟨st2, d2, m2⟩ := A.at li fi hli hcon
  obtain ⟨fd2, F2⟩ := says_def c m2
  have h1' := He.glo_ok KX G.T.g (says_fact c (f := .glo fi.name) (List.mem_append_left _ (List.mem_map.mpr ⟨_, List.mem_filter.mpr ⟨List.mem_of_getElem? hli, by rw [hcon]; rfl⟩, rfl⟩)))
  have ea : He.ga K fi.name = fa := by
    have := h1'.symm.trans ((congrArg mg hname.symm).trans hmg)
    cases this
    rfl
  have hb := (d2.b F2).2
  have F3 : FunD K fi.name fi.name (defArgs st2) (defBody st2) (defScope st2) [] [] fa fd2 := ea ▸ F2
  refine go_law (arg := x) (j := k + 32 + 1) (fd := fd2) (sp := spec K (clsA K cls) fi.np (fun ds Xp Q => runB (sem fns k) fi ds Xp Q)) KX G.T.g G.T.b G.T.builtins G.T.nolimit (G.T.seer im) hg hobj hints (Nat.le_trans hlen hn2) hr (fun base _ _ sr => ?_) (fun s u => ?_) (fun H hS => ?_)
  · have g4 := fnGo (P := l.prog) (w := w) (base := base) F3 d2.s d2.o (all_ok (P := l.prog) (w := w) (base := base) T sr tr k) (semAr k) T.bl T.ex T.xf T.gc sr tr
    rw [hps] at g4
    exact g4
  · have := hb s [u] (by rw [hps]; rfl)
    rw [hps] at this
    exact this
  · have hp1 := hp ns hlen hbits
    have e1 : sem fns (k + 1) li [.list (ns.map .int)] (fun _ => False) (fun v => v = Val.d (.bool true)) = runB (sem fns k) fi [.list (ns.map .int)] (fun _ => False) (fun v => v = Val.d (.bool true)) := by
      show (match fns[li]? with
        | some fi => runB (sem fns k) fi [.list (ns.map .int)] (fun _ => False) (fun v => v = Val.d (.bool true))
        | none => False) = _
      rw [hli]
    rw [e1] at hp1
    refine ⟨H, [.list (ns.map .int)], fun _ => False, fun v => v = Val.d (.bool true), .refl _, .cons (Dp.lst hS (dpInts ns)) .nil, ?_, hp1, fun _ _ _ z => z.elim, fun v H' F' x _ _ _ _ vr e => ?_⟩
    · rw [hnp]
      rfl
    · subst e
      exact dpBl vr
end Rc

/-! Plain helpers. -/
namespace Rc
open PySem
theorem sem_at {fns : List FnI} {k i : Nat} {fi : FnI} {ds : List D} {X : Nat → Prop} {Q : Val → Prop} (h : fns[i]? = some fi) (r : runB (sem fns k) fi ds X Q) : sem fns (k + 1) i ds X Q := by
  show (match fns[i]? with
    | some fi => runB (sem fns k) fi ds X Q
    | none => False)
  rw [h]
  exact r
/-- below 2 ^ a either way -/
def Bt (a : Nat) (i : Int) : Prop := i.natAbs < 2 ^ a
theorem Bt.mono {a b : Nat} {i : Int} (h : Bt a i) (q : a ≤ b) : Bt b i := Nat.lt_of_lt_of_le h (Nat.pow_le_pow_right (by omega) q)
theorem Bt.mul {a b : Nat} {i j : Int} (h : Bt a i) (q : Bt b j) : Bt (a + b) (i * j) := by
  unfold Bt at *
  rw [Int.natAbs_mul, Nat.pow_add]
  exact Nat.mul_lt_mul'' h q
theorem Bt.add {a : Nat} {i j : Int} (h : Bt a i) (q : Bt a j) : Bt (a + 1) (i + j) := by
  unfold Bt at *
  have := Int.natAbs_add_le i j
  rw [Nat.pow_succ]
  omega
theorem Bt.neg {a : Nat} {i : Int} (h : Bt a i) : Bt a (-i) := by
  unfold Bt at *
  rw [Int.natAbs_neg]
  exact h
theorem Bt.sub {a : Nat} {i j : Int} (h : Bt a i) (q : Bt a j) : Bt (a + 1) (i - j) := Bt.add h q.neg
theorem Bt.le {a : Nat} {i j : Int} (h : Bt a j) (q : i.natAbs ≤ j.natAbs) : Bt a i := Nat.lt_of_le_of_lt q h
theorem Bt.log {a : Nat} {i : Int} (h : Bt a i) (n : i ≠ 0) : i.natAbs.log2 < a := (Nat.log2_lt (by omega)).mpr h
theorem mulOk_of {a b : Nat} {i j : Int} (h : Bt a i) (q : Bt b j) (s : a + b ≤ 134217728) : mulOk i j := by
  by_cases hi : i = 0
  · subst hi
    exact .inl (by unfold small64; decide)
  · by_cases hj : j = 0
    · subst hj
      exact .inr (.inl (by unfold small64; decide))
    · have h1 := h.log hi
      have h2 := q.log hj
      exact .inr (.inr (by omega))
theorem mulOk_l {i j : Int} (h : small64 i) : mulOk i j := .inl h
theorem mulOk_r {i j : Int} (h : small64 j) : mulOk i j := .inr (.inl h)
theorem bt_fmod {a : Nat} {x P : Int} (hP : 0 < P) (h : Bt a P) : Bt a (x.fmod P) := by
  refine h.le ?_
  rw [Int.fmod_eq_emod_of_nonneg _ (by omega)]
  have := Int.emod_nonneg x (show P ≠ 0 by omega)
  have := Int.emod_lt_of_pos x hP
  omega
theorem small10 : small64 10 := by unfold small64; decide
theorem bt_c {a : Nat} {i : Int} (h : decide (i.natAbs < 2 ^ a) = true) : Bt a i := by
  unfold Bt
  exact of_decide_eq_true h
theorem fmod_nat (a b : Nat) : (a : Int).fmod b = ((a % b : Nat) : Int) := by
  rw [Int.fmod_eq_emod_of_nonneg _ (by omega)] <;> rfl
theorem fmod_pos {a b : Int} (h : 0 < b) : a.fmod b = a % b := Int.fmod_eq_emod_of_nonneg _ (by omega)
theorem fdiv_pos {a b : Int} (h : 0 < b) : a.fdiv b = a / b := Int.fdiv_eq_ediv_of_nonneg _ (by omega)
theorem fmod_dvd {a b : Int} (h : a ∣ b) : b.fmod a = 0 := by
  obtain ⟨c, rfl⟩ := h
  exact Int.mul_fmod_right a c
theorem fdiv_nat (a b : Nat) : (a : Int).fdiv b = ((a / b : Nat) : Int) := by
  rw [Int.fdiv_eq_ediv_of_nonneg _ (by omega)] <;> rfl
theorem absI (i : Int) : (if i < 0 then -i else i) = (i.natAbs : Int) := by omega
/-! ### rules -/
section
variable {Φ : Fs}
theorem whl_at {T : Ev → (Bool → Ev → Prop) → Prop} {B : Ev → En → Prop} {ε : Ev} {E : En} (I : Nat → Ev → Prop) (m : Nat) (h0 : I m ε)
    (h : ∀ m ε1, I m ε1 → T ε1 fun b ε2 => if b = true then B ε2 { E with nx := fun e => ∃ m', m' < m ∧ I m' e, ct := fun e => ∃ m', m' < m ∧ I m' e, bk := E.nx } else E.nx ε2) : whlW T B ε E := ⟨I, ⟨m, h0⟩, h⟩
theorem for_at {t : Tg} {B : Ev → En → Prop} {E : En} (P : List D → Ev → Prop)
    (h : ∀ x r ε, P (x :: r) ε → (∀ e, P r e → forW t B r e E) → tgW t x ε fun ε1 => B ε1 { E with nx := fun e => forW t B r e E, ct := fun e => forW t B r e E, bk := E.nx })
    (h0 : ∀ ε, P [] ε → E.nx ε) : ∀ (xs : List D) (ε : Ev), P xs ε → forW t B xs ε E
  | [], ε, p => h0 ε p
  | x :: r, ε, p => h x r ε p fun e q => for_at P h h0 r e q
theorem lc_map {t : Tg} {ε : Ev} {E : Ev → (D → Ev → Prop) → Prop} (f : D → D) : ∀ (xs acc : List D) (K : List D → Prop),
    (∀ x ∈ xs, ∀ k : D → Ev → Prop, (∀ e, k (f x) e) → tgW t x (wipeE (blind ε) (tgs t)) fun ε1 => E ε1 k) → acc.length + xs.length ≤ 16777216 → K (acc ++ xs.map f) → lcW t ε (fun ε2 k => k true ε2) E xs acc K
  | [], acc, K, _, _, hk => by
    have e : acc ++ ([] : List D).map f = acc := by simp
    exact e ▸ hk
  | x :: r, acc, K, h, hl, hk => by
    have hl2 : acc.length + (r.length + 1) ≤ 16777216 := hl
    refine h x (List.mem_cons_self ..) (fun y e => acc.length < 16777216 ∧ lcW t ε (fun ε2 k => k true ε2) E r (acc ++ [y]) K) fun e => ⟨by omega, lc_map f r (acc ++ [f x]) K (fun y hy => h y (List.mem_cons_of_mem _ hy)) ?_ ?_⟩
    · simp only [List.length_append, List.length_cons, List.length_nil]
      omega
    · simpa using hk
end
theorem atI_nat {xs : List D} {i : Nat} {v : D} (h : xs[i]? = some v) : L2.atI xs (i : Int) = some v := by
  have hi := (List.getElem?_eq_some_iff.mp h).1
  unfold L2.atI L2.ixN
  simp only [show ¬ ((i : Int) < 0) by omega, if_false, show (0 : Int) ≤ i by omega, show (i : Int) < xs.length by omega, and_self, if_true]
  simpa using h
end Rc
namespace Rc
open PySem
/-- what is behind a token stays as it is -/
inductive Tok {α : Type} (x : α) : Type where
  | mk
def callF (Φ : Fs) (f : Nat) (X : XP) (Q : KE) (_ : Tok (X, Q)) (ds : List D) (ε : Ev) : Prop := Φ f ds (fun c => X c ε) fun v => Q v ε
def whlF (T : Ev → (Bool → Ev → Prop) → Prop) (B : Ev → En → Prop) (E : En) (_ : Tok (T, B, E)) (ε : Ev) : Prop := whlW T B ε E
def forF (t : Tg) (B : Ev → En → Prop) (E : En) (_ : Tok (B, E)) (xs : List D) (ε : Ev) : Prop := forW t B xs ε E
def lcF (t : Tg) (C : Ev → (Bool → Ev → Prop) → Prop) (E : Ev → (D → Ev → Prop) → Prop) (K : List D → Prop) (_ : Tok (C, E, K)) (ε : Ev) (xs acc : List D) : Prop := lcW t ε C E xs acc K
def ixF (Q : D → Prop) (_ : Tok Q) (x y : D) : Prop := ixW x y Q
theorem ix_lst {Q : D → Prop} {q : Tok Q} {xs : List D} {i : Int} {v : D} (h : L2.atI xs i = some v) (w : Q v) : ixF Q q (.list xs) (.int i) := ⟨v, h, w⟩
theorem ix_tup {Q : D → Prop} {q : Tok Q} {xs : List D} {i : Int} {v : D} (h : L2.atI xs i = some v) (w : Q v) : ixF Q q (.tuple xs) (.int i) := ⟨v, h, w⟩
section
variable {Φ : Fs} {ε : Ev} {X : XP} {Q : KE} {E : En}
theorem wE_call {f : Nat} {a : IE} : wE Φ (.call f a) ε X Q = wE Φ a ε X (kM fun ds ε1 => callF Φ f X Q .mk ds ε1) := rfl
theorem wE_callP {f : Nat} {a : IE} : wE Φ (.callP f a) ε X Q = wE Φ a ε X (kM fun ds ε1 => callF Φ f X (fun v ε2 => flat v = true ∧ Q v ε2) .mk ds ε1) := rfl
theorem wE_lc {t : Tg} {it e : IE} : wE Φ (.lc t it .nil e) ε X Q = wE Φ it ε X (kM fun xs ε1 => lcF t (fun ε2 k => k true ε2) (fun ε2 k => wE Φ e ε2 (fun _ _ => False) (kD k)) (fun ys => Q (.own ys) ε1) .mk ε1 xs []) := rfl
theorem wE_ix {a b : IE} : wE Φ (.ix a b) ε X Q = pkW a ε (fun T => wE Φ a ε X T) fun x ε1 => wE Φ b ε1 X (kD fun y ε2 => ixF (fun v => Q (.d v) ε2) .mk x y) := rfl
theorem wE_isv {t : Ty} {j : Nat} : wE Φ (.isi t (.var j)) ε X Q = peek ε j fun x ε1 => Q (.d (.bool (isT t x))) ε1 := rfl
theorem wS_whl {c : IE} {b : IS} : wS Φ (.whl c b) ε E = whlF (fun ε1 k => wE Φ c ε1 E.ex (kB k)) (fun ε1 D' => wS Φ b ε1 D') E .mk ε := rfl
theorem wS_for {t : Tg} {it : IE} {b : IS} : wS Φ (.forr t it b) ε E = wE Φ it ε E.ex (kM fun xs ε1 => forF t (fun ε2 D' => wS Φ b ε2 D') E .mk xs ε1) := rfl
end
theorem whl_at' {T : Ev → (Bool → Ev → Prop) → Prop} {B : Ev → En → Prop} {ε : Ev} {E : En} {q : Tok (T, B, E)} (I : Nat → Ev → Prop) (m : Nat) (h0 : I m ε)
    (h : ∀ m ε1, I m ε1 → T ε1 fun b ε2 => if b = true then B ε2 { E with nx := fun e => ∃ m', m' < m ∧ I m' e, ct := fun e => ∃ m', m' < m ∧ I m' e, bk := E.nx } else E.nx ε2) : whlF T B E q ε := whl_at I m h0 h
theorem for_at' {t : Tg} {B : Ev → En → Prop} {E : En} {q : Tok (B, E)} (P : List D → Ev → Prop)
    (h : ∀ x r ε, P (x :: r) ε → (∀ e, P r e → forW t B r e E) → tgW t x ε fun ε1 => B ε1 { E with nx := fun e => forF t B E .mk r e, ct := fun e => forF t B E .mk r e, bk := E.nx })
    (h0 : ∀ ε, P [] ε → E.nx ε) (xs : List D) (ε : Ev) (p : P xs ε) : forF t B E q xs ε := for_at P h h0 xs ε p
theorem lc_map' {t : Tg} {ε : Ev} {E : Ev → (D → Ev → Prop) → Prop} (f : D → D) {xs : List D} {K : List D → Prop} {q : Tok ((fun ε2 k => k true ε2 : Ev → (Bool → Ev → Prop) → Prop), E, K)}
    (h : ∀ x ∈ xs, ∀ k : D → Ev → Prop, (∀ e, k (f x) e) → tgW t x (wipeE (blind ε) (tgs t)) fun ε1 => E ε1 k) (hl : xs.length ≤ 16777216) (hk : K (xs.map f)) : lcF t (fun ε2 k => k true ε2) E K q ε xs [] :=
  lc_map f xs [] K h (by simpa using hl) (by simpa using hk)
end Rc
namespace Rc
open PySem
/-! ### shapes -/
def Sh (n : Nat) (d : D) : Prop := d.canLay0 = true ∧ d.depth ≤ n
theorem shaped_of {n : Nat} {d : D} (h : Sh n d) (q : n ≤ 64) : SeqAt.shaped d = true := by
  unfold SeqAt.shaped
  rw [h.1, decide_eq_true (Nat.le_trans h.2 q)]
  rfl
theorem shAll {n : Nat} : ∀ {xs : List D}, (∀ x ∈ xs, Sh n x) → PyData.canLayAll0 xs = true ∧ PyData.depthAll xs ≤ n
  | [], _ => ⟨rfl, Nat.zero_le _⟩
  | x :: r, h => by
    obtain ⟨h1, h2⟩ := h x (List.mem_cons_self ..)
    obtain ⟨h3, h4⟩ := shAll fun y hy => h y (List.mem_cons_of_mem _ hy)
    refine ⟨?_, ?_⟩
    · unfold PyData.canLayAll0
      rw [h1, h3]
      rfl
    · unfold PyData.depthAll
      omega
theorem shLst {n : Nat} {xs : List D} (h : ∀ x ∈ xs, Sh n x) : Sh (n + 1) (.list xs) := by
  obtain ⟨h1, h2⟩ := shAll h
  refine ⟨by unfold PyData.canLay0; exact h1, ?_⟩
  unfold PyData.depth
  omega
theorem shTup {n : Nat} {xs : List D} (h : ∀ x ∈ xs, Sh n x) : Sh (n + 1) (.tuple xs) := by
  obtain ⟨h1, h2⟩ := shAll h
  refine ⟨by unfold PyData.canLay0; exact h1, ?_⟩
  unfold PyData.depth
  omega
theorem shInt {n : Nat} (i : Int) : Sh n (.int i) := ⟨rfl, Nat.zero_le _⟩
theorem shInts {n : Nat} (xs : List Int) : ∀ x ∈ xs.map PyData.int, Sh n x := fun x h => by
  obtain ⟨i, _, rfl⟩ := List.mem_map.mp h
  exact shInt i
theorem shapedL (xs : List Int) : SeqAt.shaped (.list (xs.map .int)) = true := shaped_of (shLst (n := 0) (shInts xs)) (by decide)
theorem shapedT (xs : List Int) : SeqAt.shaped (.tuple (xs.map .int)) = true := shaped_of (shTup (n := 0) (shInts xs)) (by decide)
theorem eqvInts : ∀ xs ys : List Int, PyData.eqvAll (xs.map .int) (ys.map .int) = decide (xs = ys)
  | [], [] => rfl
  | [], _ :: _ => rfl
  | _ :: _, [] => rfl
  | x :: r, y :: t => by
    show (PyData.eqv (.int x) (.int y) && PyData.eqvAll (r.map .int) (t.map .int)) = _
    rw [eqvInts r t]
    show ((x == y) && decide (r = t)) = _
    by_cases h1 : x = y <;> by_cases h2 : r = t <;> simp [h1, h2]
theorem eqvL (xs ys : List Int) : PyData.eqv (.list (xs.map .int)) (.list (ys.map .int)) = decide (xs = ys) := eqvInts xs ys
theorem eqvT (xs ys : List Int) : PyData.eqv (.tuple (xs.map .int)) (.tuple (ys.map .int)) = decide (xs = ys) := eqvInts xs ys
theorem cut_map {α β : Type} (f : α → β) (xs : List α) (lo hi : Option Int) : cut (xs.map f) lo hi = (cut xs lo hi).map f := by
  unfold cut
  rw [List.length_map, List.map_take, List.map_drop]
theorem cut_len {α : Type} (xs : List α) (lo hi : Option Int) : (cut xs lo hi).length ≤ xs.length := by
  unfold cut
  rw [List.length_take, List.length_drop]
  omega
end Rc
namespace Rc
open PySem
theorem lc_go {α : Type} {t : Tg} {ε : Ev} {E : Ev → (D → Ev → Prop) → Prop} (g f : α → D) : ∀ (as : List α) (acc : List D) (K : List D → Prop),
    (∀ a ∈ as, ∀ k : D → Ev → Prop, (∀ e, k (f a) e) → tgW t (g a) (wipeE (blind ε) (tgs t)) fun ε1 => E ε1 k) → acc.length + as.length ≤ 16777216 → K (acc ++ as.map f) → lcW t ε (fun ε2 k => k true ε2) E (as.map g) acc K
  | [], acc, K, _, _, hk => by
    have e : acc ++ ([] : List α).map f = acc := by simp
    exact e ▸ hk
  | a :: r, acc, K, h, hl, hk => by
    have hl2 : acc.length + (r.length + 1) ≤ 16777216 := hl
    refine h a (List.mem_cons_self ..) (fun y e => acc.length < 16777216 ∧ lcW t ε (fun ε2 k => k true ε2) E (r.map g) (acc ++ [y]) K) fun e => ⟨by omega, lc_go g f r (acc ++ [f a]) K (fun y hy => h y (List.mem_cons_of_mem _ hy)) ?_ ?_⟩
    · simp only [List.length_append, List.length_cons, List.length_nil]
      omega
    · simpa using hk
/-- a comprehension over the images of as -/
theorem lc_as {α : Type} {t : Tg} {ε : Ev} {E : Ev → (D → Ev → Prop) → Prop} (g f : α → D) {as : List α} {K : List D → Prop} {q : Tok ((fun ε2 k => k true ε2 : Ev → (Bool → Ev → Prop) → Prop), E, K)}
    (h : ∀ a ∈ as, ∀ k : D → Ev → Prop, (∀ e, k (f a) e) → tgW t (g a) (wipeE (blind ε) (tgs t)) fun ε1 => E ε1 k) (hl : as.length ≤ 16777216) (hk : K (as.map f)) : lcF t (fun ε2 k => k true ε2) E K q ε (as.map g) [] :=
  lc_go g f as [] K h (by simpa using hl) (by simpa using hk)
end Rc
namespace Rc
def bl1 : Option Val → Option Val
  | some (.d x) => some (.d x)
  | _ => none
theorem blind_cons (o : Option Val) (r : Ev) : blind (o :: r) = bl1 o :: blind r := by
  cases o with
  | none => rfl
  | some v => cases v <;> rfl
theorem blind_nil : blind [] = [] := rfl
end Rc
namespace Rc
open PySem
theorem wE_lcg {Φ : Fs} {ε : Ev} {X : XP} {Q : KE} {t : Tg} {it c e : IE} : wE Φ (.lc t it c e) ε X Q = wE Φ it ε X (kM fun xs ε1 => lcF t (fun ε2 k => if isNil c = true then k true ε2 else wE Φ c ε2 (fun _ _ => False) (kB k)) (fun ε2 k => wE Φ e ε2 (fun _ _ => False) (kD k)) (fun ys => Q (.own ys) ε1) .mk ε1 xs []) := rfl
/-- a comprehension with a test -/
theorem lc_fltGo {α : Type} {t : Tg} {ε : Ev} {C : Ev → (Bool → Ev → Prop) → Prop} {E : Ev → (D → Ev → Prop) → Prop} (g f : α → D) (p : α → Bool) : ∀ (as : List α) (acc : List D) (K : List D → Prop),
    (∀ a ∈ as, ∀ (k1 : D → Ev → Prop) (k0 : Prop), (p a = true → ∀ e, k1 (f a) e) → (p a = false → k0) → tgW t (g a) (wipeE (blind ε) (tgs t)) fun ε1 => C ε1 fun b ε2 => if b = true then E ε2 k1 else k0) →
    acc.length + as.length ≤ 16777216 → K (acc ++ (as.filter p).map f) → lcW t ε C E (as.map g) acc K
  | [], acc, K, _, _, hk => by
    have e : acc ++ (([] : List α).filter p).map f = acc := by simp
    exact e ▸ hk
  | a :: r, acc, K, h, hl, hk => by
    have hl2 : acc.length + (r.length + 1) ≤ 16777216 := hl
    refine h a (List.mem_cons_self ..) (fun y _ => acc.length < 16777216 ∧ lcW t ε C E (r.map g) (acc ++ [y]) K) (lcW t ε C E (r.map g) acc K) (fun hp e => ⟨by omega, lc_fltGo g f p r (acc ++ [f a]) K (fun y hy => h y (List.mem_cons_of_mem _ hy)) ?_ ?_⟩) fun hp => lc_fltGo g f p r acc K (fun y hy => h y (List.mem_cons_of_mem _ hy)) (by omega) ?_
    · simp only [List.length_append, List.length_cons, List.length_nil]
      omega
    · rw [List.filter_cons_of_pos hp] at hk
      simpa using hk
    · rw [List.filter_cons_of_neg (by simp [hp])] at hk
      exact hk
theorem lc_flt {α : Type} {t : Tg} {ε : Ev} {C : Ev → (Bool → Ev → Prop) → Prop} {E : Ev → (D → Ev → Prop) → Prop} {K : List D → Prop} {q : Tok (C, E, K)} (g f : α → D) (p : α → Bool) {as : List α}
    (h : ∀ a ∈ as, ∀ (k1 : D → Ev → Prop) (k0 : Prop), (p a = true → ∀ e, k1 (f a) e) → (p a = false → k0) → tgW t (g a) (wipeE (blind ε) (tgs t)) fun ε1 => C ε1 fun b ε2 => if b = true then E ε2 k1 else k0)
    (hl : as.length ≤ 16777216) (hk : K ((as.filter p).map f)) : lcF t C E K q ε (as.map g) [] := lc_fltGo g f p as [] K h (by simpa using hl) (by simpa using hk)
end Rc
namespace Rc
open PySem
/-! one equation for each kind of operand: no term is doubled -/
theorem pkW_var (j : Nat) (ε : Ev) (T : KE → Prop) (k : D → Ev → Prop) : pkW (.var j) ε T k = peek ε j k := rfl
theorem ptW_nil (ε : Ev) (T : KE → Prop) (k : Option Int → Ev → Prop) : ptW .nil ε T k = k none ε := rfl
def ptK (k : Option Int → Ev → Prop) : D → Ev → Prop := fun y ε1 => match y with | .int h => k (some h) ε1 | _ => False
theorem ptK_i (k : Option Int → Ev → Prop) (h : Int) (ε : Ev) : ptK k (.int h) ε = k (some h) ε := rfl
theorem pkW_cst (c : D) (ε : Ev) (T : KE → Prop) (k : D → Ev → Prop) : pkW (.cst c) ε T k = T (kD k) := rfl
theorem pkW_tup (a : IE) (ε : Ev) (T : KE → Prop) (k : D → Ev → Prop) : pkW (.tup a) ε T k = T (kD k) := rfl
theorem pkW_lst (a : IE) (ε : Ev) (T : KE → Prop) (k : D → Ev → Prop) : pkW (.lst a) ε T k = T (kD k) := rfl
theorem pkW_bin (o : Operator) (a b : IE) (ε : Ev) (T : KE → Prop) (k : D → Ev → Prop) : pkW (.bin o a b) ε T k = T (kD k) := rfl
theorem pkW_neg (a : IE) (ε : Ev) (T : KE → Prop) (k : D → Ev → Prop) : pkW (.neg a) ε T k = T (kD k) := rfl
theorem pkW_ix (a b : IE) (ε : Ev) (T : KE → Prop) (k : D → Ev → Prop) : pkW (.ix a b) ε T k = T (kD k) := rfl
theorem pkW_sl (a b c : IE) (ε : Ev) (T : KE → Prop) (k : D → Ev → Prop) : pkW (.sl a b c) ε T k = T (kD k) := rfl
theorem pkW_rev (a : IE) (ε : Ev) (T : KE → Prop) (k : D → Ev → Prop) : pkW (.rev a) ε T k = T (kD k) := rfl
theorem pkW_call (f : Nat) (a : IE) (ε : Ev) (T : KE → Prop) (k : D → Ev → Prop) : pkW (.call f a) ε T k = T (kD k) := rfl
theorem pkW_callP (f : Nat) (a : IE) (ε : Ev) (T : KE → Prop) (k : D → Ev → Prop) : pkW (.callP f a) ε T k = T (kD k) := rfl
theorem pkW_bi (f : Bi) (a : IE) (ε : Ev) (T : KE → Prop) (k : D → Ev → Prop) : pkW (.bi f a) ε T k = T (kD k) := rfl
theorem pkW_len (a : IE) (ε : Ev) (T : KE → Prop) (k : D → Ev → Prop) : pkW (.len a) ε T k = T (kD k) := rfl
theorem pkW_lc (t : Tg) (a b c : IE) (ε : Ev) (T : KE → Prop) (k : D → Ev → Prop) : pkW (.lc t a b c) ε T k = T (kD k) := rfl
theorem pkW_ite (a b c : IE) (ε : Ev) (T : KE → Prop) (k : D → Ev → Prop) : pkW (.ite a b c) ε T k = T (kD k) := rfl
theorem pkW_gc (f : Nat) (d : D) (ε : Ev) (T : KE → Prop) (k : D → Ev → Prop) : pkW (.gc f d) ε T k = T (kD k) := rfl
theorem pkW_mov (j : Nat) (ε : Ev) (T : KE → Prop) (k : D → Ev → Prop) : pkW (.mov j) ε T k = T (kD k) := rfl
theorem pkW_dsp (l : List (Str × D)) (a : IE) (ε : Ev) (T : KE → Prop) (k : D → Ev → Prop) : pkW (.dsp l a) ε T k = T (kD k) := rfl
theorem pkW_bone (a : IE) (ε : Ev) (T : KE → Prop) (k : D → Ev → Prop) : pkW (.bone a) ε T k = T (kD k) := rfl
theorem pkW_cmp (o : CmpOp) (a b : IE) (ε : Ev) (T : KE → Prop) (k : D → Ev → Prop) : pkW (.cmp o a b) ε T k = T (kD k) := rfl
theorem pkW_cnt (a b : IE) (ε : Ev) (T : KE → Prop) (k : D → Ev → Prop) : pkW (.cnt a b) ε T k = T (kD k) := rfl
theorem ptW_cst (c : D) (ε : Ev) (T : KE → Prop) (k : Option Int → Ev → Prop) : ptW (.cst c) ε T k = T (kD (ptK k)) := rfl
theorem ptW_tup (a : IE) (ε : Ev) (T : KE → Prop) (k : Option Int → Ev → Prop) : ptW (.tup a) ε T k = T (kD (ptK k)) := rfl
theorem ptW_lst (a : IE) (ε : Ev) (T : KE → Prop) (k : Option Int → Ev → Prop) : ptW (.lst a) ε T k = T (kD (ptK k)) := rfl
theorem ptW_bin (o : Operator) (a b : IE) (ε : Ev) (T : KE → Prop) (k : Option Int → Ev → Prop) : ptW (.bin o a b) ε T k = T (kD (ptK k)) := rfl
theorem ptW_neg (a : IE) (ε : Ev) (T : KE → Prop) (k : Option Int → Ev → Prop) : ptW (.neg a) ε T k = T (kD (ptK k)) := rfl
theorem ptW_ix (a b : IE) (ε : Ev) (T : KE → Prop) (k : Option Int → Ev → Prop) : ptW (.ix a b) ε T k = T (kD (ptK k)) := rfl
theorem ptW_sl (a b c : IE) (ε : Ev) (T : KE → Prop) (k : Option Int → Ev → Prop) : ptW (.sl a b c) ε T k = T (kD (ptK k)) := rfl
theorem ptW_rev (a : IE) (ε : Ev) (T : KE → Prop) (k : Option Int → Ev → Prop) : ptW (.rev a) ε T k = T (kD (ptK k)) := rfl
theorem ptW_call (f : Nat) (a : IE) (ε : Ev) (T : KE → Prop) (k : Option Int → Ev → Prop) : ptW (.call f a) ε T k = T (kD (ptK k)) := rfl
theorem ptW_callP (f : Nat) (a : IE) (ε : Ev) (T : KE → Prop) (k : Option Int → Ev → Prop) : ptW (.callP f a) ε T k = T (kD (ptK k)) := rfl
theorem ptW_bi (f : Bi) (a : IE) (ε : Ev) (T : KE → Prop) (k : Option Int → Ev → Prop) : ptW (.bi f a) ε T k = T (kD (ptK k)) := rfl
theorem ptW_len (a : IE) (ε : Ev) (T : KE → Prop) (k : Option Int → Ev → Prop) : ptW (.len a) ε T k = T (kD (ptK k)) := rfl
theorem ptW_lc (t : Tg) (a b c : IE) (ε : Ev) (T : KE → Prop) (k : Option Int → Ev → Prop) : ptW (.lc t a b c) ε T k = T (kD (ptK k)) := rfl
theorem ptW_ite (a b c : IE) (ε : Ev) (T : KE → Prop) (k : Option Int → Ev → Prop) : ptW (.ite a b c) ε T k = T (kD (ptK k)) := rfl
theorem ptW_gc (f : Nat) (d : D) (ε : Ev) (T : KE → Prop) (k : Option Int → Ev → Prop) : ptW (.gc f d) ε T k = T (kD (ptK k)) := rfl
theorem ptW_mov (j : Nat) (ε : Ev) (T : KE → Prop) (k : Option Int → Ev → Prop) : ptW (.mov j) ε T k = T (kD (ptK k)) := rfl
theorem ptW_dsp (l : List (Str × D)) (a : IE) (ε : Ev) (T : KE → Prop) (k : Option Int → Ev → Prop) : ptW (.dsp l a) ε T k = T (kD (ptK k)) := rfl
theorem ptW_bone (a : IE) (ε : Ev) (T : KE → Prop) (k : Option Int → Ev → Prop) : ptW (.bone a) ε T k = T (kD (ptK k)) := rfl
theorem ptW_cmp (o : CmpOp) (a b : IE) (ε : Ev) (T : KE → Prop) (k : Option Int → Ev → Prop) : ptW (.cmp o a b) ε T k = T (kD (ptK k)) := rfl
theorem ptW_cnt (a b : IE) (ε : Ev) (T : KE → Prop) (k : Option Int → Ev → Prop) : ptW (.cnt a b) ε T k = T (kD (ptK k)) := rfl
theorem ptW_var (j : Nat) (ε : Ev) (T : KE → Prop) (k : Option Int → Ev → Prop) : ptW (.var j) ε T k = T (kD (ptK k)) := rfl
end Rc
namespace Rc
open PySem
/-! what a frame holds is put in order before the next step -/
def pvF (K : Ev → Prop) (_ : Tok K) (ε : Ev) : Prop := K ε
theorem pvF_eq {K : Ev → Prop} {q : Tok K} {ε : Ev} : pvF K q ε = K ε := rfl
section
variable {Φ : Fs} {ε : Ev} {E : En}
theorem wS_asg {j : Nat} {e : IE} : wS Φ (.asg j e) ε E = wE Φ e ε E.ex (kV fun v ε1 => pvF E.nx .mk (pv ε1 j (some v))) := rfl
theorem wS_par {i j : Nat} {a b : IE} : wS Φ (.par i j a b) ε E = wE Φ a ε E.ex (kD fun x ε1 => wE Φ b ε1 E.ex (kD fun y ε2 => pvF E.nx .mk (pv (pv ε2 i (some (.d x))) j (some (.d y))))) := rfl
theorem wS_setIx {j : Nat} {k e : IE} : wS Φ (.setIx j k e) ε E = wE Φ e ε E.ex (kD fun v ε1 => ownAt ε1 j fun _ => wE Φ k ε1 E.ex (kD fun i ε2 => match i with
      | .int z => ownAt ε2 j fun xs => ∃ n, L2.ixN xs.length z = some n ∧ pvF E.nx .mk (pv ε2 j (some (.own (xs.set n v))))
      | _ => False)) := rfl
theorem wS_app {j : Nat} {e : IE} : wS Φ (.app j e) ε E = ownAt ε j fun _ => wE Φ e ε E.ex (kD fun v ε1 => ownAt ε1 j fun xs => xs.length < 16777216 ∧ pvF E.nx .mk (pv ε1 j (some (.own (xs ++ [v]))))) := rfl
theorem tgW_one {j : Nat} {x : D} {K : Ev → Prop} : tgW (.one j) x ε K = pvF K .mk (pv ε j (some (.d x))) := rfl
theorem tgW_tup {js : List Nat} {xs : List D} {K : Ev → Prop} : tgW (.tup js) (.tuple xs) ε K = (xs.length = js.length ∧ pvF K .mk (setAll js xs ε)) := rfl
end
end Rc
namespace Rc
open PySem
/-! for x in L: if c: return e, L the frame's own -/
def forPF (t : Tg) (j : Nat) (T : Ev → (Bool → Ev → Prop) → Prop) (Rt : Ev → Prop) (nx : Ev → Prop) (_ : Tok (T, Rt, nx)) (xs : List D) (ε : Ev) : Prop := forPW t j xs T Rt nx xs ε
theorem wS_forP {Φ : Fs} {ε : Ev} {E : En} {t : Tg} {j : Nat} {c e : IE} : wS Φ (.forP t j c e) ε E = ownAt ε j fun xs => forPF t j (fun ε1 k => wE Φ c ε1 E.ex (kB k)) (fun ε1 => wE Φ e ε1 E.ex (kV fun v _ => E.rt v)) E.nx .mk xs ε := rfl
theorem forP_at {t : Tg} {j : Nat} {T : Ev → (Bool → Ev → Prop) → Prop} {Rt : Ev → Prop} {nx : Ev → Prop} {q : Tok (T, Rt, nx)} {xs : List D} {ε : Ev} (I : Ev → Prop)
    (h : ∀ x ∈ xs, ∀ ε, I ε → ∀ K : Bool → Ev → Prop, (∀ ε', I ε' → K false ε') → tgW t x ε fun ε1 => T ε1 K) (hI : ∀ ε, I ε → gv ε j = some (.own xs)) (h0 : I ε) (hn : ∀ ε, I ε → nx ε) : forPF t j T Rt nx q xs ε := by
  have go : ∀ (ys : List D) (ε : Ev), (∀ y ∈ ys, y ∈ xs) → I ε → forPW t j xs T Rt nx ys ε := by
    intro ys
    induction ys with
    | nil => exact fun ε _ i => hn ε i
    | cons y r ih =>
      intro ε hm i
      exact h y (hm y (List.mem_cons_self ..)) ε i (fun b ε2 => if b = true then Rt ε2 else gv ε2 j = some (.own xs) ∧ forPW t j xs T Rt nx r ε2) fun ε' i' => by
        show (if false = true then Rt ε' else gv ε' j = some (.own xs) ∧ forPW t j xs T Rt nx r ε')
        rw [if_neg Bool.false_ne_true]
        exact ⟨hI ε' i', ih ε' (fun z hz => hm z (List.mem_cons_of_mem _ hz)) i'⟩
  exact go xs ε (fun _ h => h) h0
end Rc


/-! Fractions. -/
namespace Rc
open PySem
def fr (q : Rat) : D := .tuple [.int q.num, .int q.den]
/-- top and bottom below 2 ^ a -/
def Sz (a : Nat) (q : Rat) : Prop := Bt a q.num ∧ Bt a q.den
theorem Sz.mono {a b : Nat} {q : Rat} (h : Sz a q) (l : a ≤ b) : Sz b q := ⟨h.1.mono l, h.2.mono l⟩
theorem den0 (q : Rat) : (q.den : Int) ≠ 0 := by have := q.den_nz; omega
theorem denP (q : Rat) : (0 : Int) < q.den := by have := q.den_pos; omega
def gsg (t b : Int) : Int := if b < 0 then 0 - (Int.gcd t b : Int) else Int.gcd t b
theorem gsg0 {t b : Int} (hb : b ≠ 0) : gsg t b ≠ 0 := by
  unfold gsg
  have := Int.gcd_pos_of_ne_zero_right t hb
  split <;> omega
theorem fr_num {t b : Int} (hb : b ≠ 0) : t.fdiv (gsg t b) = (Rat.divInt t b).num := by
  have d : (Int.gcd t b : Int) ∣ t := Int.gcd_dvd_left t b
  rw [Rat.num_divInt, Int.gcd_comm b t]
  unfold gsg
  split
  · rename_i h
    have d2 : (0 - (Int.gcd t b : Int)) ∣ t := by rw [Int.zero_sub]; exact Int.neg_dvd.mpr d
    rw [Int.fdiv_eq_ediv_of_dvd d2, Int.zero_sub, Int.ediv_neg, Int.sign_eq_neg_one_of_neg h]
    obtain ⟨u, hu⟩ := d
    have g0 : (Int.gcd t b : Int) ≠ 0 := by have := Int.gcd_pos_of_ne_zero_right t hb; omega
    generalize (Int.gcd t b : Int) = g at *
    subst hu
    rw [Int.mul_ediv_cancel_left _ g0, show -1 * (g * u) = g * (-u) by rw [Int.mul_neg, Int.neg_one_mul], Int.mul_ediv_cancel_left _ g0]
  · rename_i h
    rw [Int.fdiv_eq_ediv_of_dvd d, Int.sign_eq_one_of_pos (by omega), Int.one_mul]
theorem fr_den {t b : Int} (hb : b ≠ 0) : b.fdiv (gsg t b) = (Rat.divInt t b).den := by
  have d : (Int.gcd t b : Int) ∣ b := Int.gcd_dvd_right t b
  rw [Rat.den_divInt, Int.gcd_comm b t, if_neg hb, Int.natCast_ediv]
  unfold gsg
  split
  · rename_i h
    have d2 : (0 - (Int.gcd t b : Int)) ∣ b := by rw [Int.zero_sub]; exact Int.neg_dvd.mpr d
    rw [Int.fdiv_eq_ediv_of_dvd d2, Int.zero_sub, Int.ediv_neg]
    obtain ⟨u, hu⟩ := d
    have g0 : (Int.gcd t b : Int) ≠ 0 := by have := Int.gcd_pos_of_ne_zero_right t hb; omega
    have e : (b.natAbs : Int) = -b := by omega
    rw [e]
    generalize (Int.gcd t b : Int) = g at *
    subst hu
    rw [Int.mul_ediv_cancel_left _ g0, ← Int.mul_neg, Int.mul_ediv_cancel_left _ g0]
  · rename_i h
    rw [Int.fdiv_eq_ediv_of_dvd d]
    have e : (b.natAbs : Int) = b := by omega
    rw [e]
theorem bt_div {a : Nat} {x g : Int} (h : Bt a x) : Bt a (x / g) := h.le (Int.natAbs_ediv_le_natAbs x g)
theorem sz_divInt {a : Nat} {t b : Int} (hb : b ≠ 0) (h1 : Bt a t) (h2 : Bt a b) : Sz a (Rat.divInt t b) := by
  refine ⟨?_, ?_⟩
  · rw [Rat.num_divInt]
    refine bt_div (h1.le ?_)
    rw [Int.natAbs_mul, Int.natAbs_sign_of_ne_zero hb, Nat.one_mul]
    exact Nat.le_refl _
  · rw [Rat.den_divInt, if_neg hb]
    exact h2.le (Nat.div_le_self _ _)
theorem gsgB {a : Nat} {t b : Int} (hb : b ≠ 0) (h : Bt a b) : Bt a (gsg t b) := by
  refine h.le ?_
  have := Nat.le_of_dvd (by omega) (Int.gcd_dvd_natAbs_right t b)
  unfold gsg
  split <;> omega
theorem gsgL {t b : Int} (hb : b ≠ 0) (h : Bt 9000 b) : (gsg t b).natAbs.log2 < 9000 := (gsgB hb h).log (gsg0 hb)
theorem frac_add (p q : Rat) : Rat.divInt (p.num * q.den + q.num * p.den) (p.den * q.den) = p + q := by
  rw [Rat.add_def', ← Rat.divInt_ofNat, Int.natCast_mul]
theorem frac_sub (p q : Rat) : Rat.divInt (p.num * q.den - q.num * p.den) (p.den * q.den) = p - q := by
  rw [Rat.sub_def', ← Rat.divInt_ofNat, Int.natCast_mul]
theorem frac_mul (p q : Rat) : Rat.divInt (p.num * q.num) (p.den * q.den) = p * q := by
  rw [Rat.mul_def', ← Rat.divInt_ofNat, Int.natCast_mul]
theorem frac_div (p q : Rat) : Rat.divInt (p.num * q.den) (p.den * q.num) = p / q := by
  rw [Rat.div_def, Rat.inv_def, ← Rat.divInt_mul_divInt, Rat.num_divInt_den]
theorem frac_self (p : Rat) : Rat.divInt p.num p.den = p := Rat.num_divInt_den p
theorem fr_eq {p q : Rat} : PyData.eqv (fr p) (fr q) = decide (p = q) := by
  show PyData.eqvAll [.int p.num, .int p.den] [.int q.num, .int q.den] = _
  rw [show [PyData.int p.num, .int p.den] = [p.num, (p.den : Int)].map .int from rfl, show [PyData.int q.num, .int q.den] = [q.num, (q.den : Int)].map .int from rfl, eqvInts]
  by_cases h : p = q
  · subst h
    rw [decide_eq_true rfl, decide_eq_true rfl]
  · rw [decide_eq_false h, decide_eq_false]
    intro e
    have e1 : p.num = q.num ∧ (p.den : Int) = q.den := by simpa using e
    exact h (Rat.ext e1.1 (by omega))
theorem fr_sh (p : Rat) : SeqAt.shaped (fr p) = true := shapedT [p.num, (p.den : Int)]
theorem num0 {q : Rat} : q.num = 0 ↔ q = 0 := Rat.num_eq_zero
theorem fr_c {p : Rat} {n d : Int} (h1 : p.num = n) (h2 : (p.den : Int) = d) : PyData.tuple [.int n, .int d] = fr p := by
  rw [← h1, ← h2]
  rfl
theorem fr0 : PyData.tuple [.int 0, .int 1] = fr 0 := rfl
theorem fr1 : PyData.tuple [.int 1, .int 1] = fr 1 := rfl
end Rc
namespace Rc
open PySem
theorem mul_den0 (p q : Rat) : (p.den : Int) * q.den ≠ 0 := Int.mul_ne_zero (den0 p) (den0 q)
theorem sz_add {a : Nat} {p q : Rat} (h : Sz a p) (g : Sz a q) : Sz (2 * a + 1) (p + q) := by
  rw [← frac_add]
  exact sz_divInt (mul_den0 p q) ((Bt.add (Bt.mul h.1 g.2) (Bt.mul g.1 h.2)).mono (by omega)) ((Bt.mul h.2 g.2).mono (by omega))
theorem sz_sub {a : Nat} {p q : Rat} (h : Sz a p) (g : Sz a q) : Sz (2 * a + 1) (p - q) := by
  rw [← frac_sub]
  exact sz_divInt (mul_den0 p q) ((Bt.sub (Bt.mul h.1 g.2) (Bt.mul g.1 h.2)).mono (by omega)) ((Bt.mul h.2 g.2).mono (by omega))
theorem sz_mul {a : Nat} {p q : Rat} (h : Sz a p) (g : Sz a q) : Sz (2 * a + 1) (p * q) := by
  rw [← frac_mul]
  exact sz_divInt (mul_den0 p q) ((Bt.mul h.1 g.1).mono (by omega)) ((Bt.mul h.2 g.2).mono (by omega))
theorem sz_div {a : Nat} {p q : Rat} (h : Sz a p) (g : Sz a q) (q0 : q ≠ 0) : Sz (2 * a + 1) (p / q) := by
  rw [← frac_div]
  exact sz_divInt (Int.mul_ne_zero (den0 p) (fun e => q0 (num0.mp e))) ((Bt.mul h.1 g.2).mono (by omega)) ((Bt.mul h.2 g.1).mono (by omega))
theorem sz0 {a : Nat} (h : 1 ≤ a) : Sz a 0 := ⟨(bt_c (a := 1) (by decide)).mono h, (bt_c (a := 1) (by decide)).mono h⟩
theorem sz1 {a : Nat} (h : 1 ≤ a) : Sz a 1 := ⟨(bt_c (a := 1) (by decide)).mono h, (bt_c (a := 1) (by decide)).mono h⟩
theorem ix_fr0 {p : Rat} {Q : D → Prop} {t : Tok Q} : ixF Q t (fr p) (.int 0) = Q (.int p.num) := by
  show (∃ v, L2.atI [PyData.int p.num, .int p.den] 0 = some v ∧ Q v) = _
  simp [L2.atI, L2.ixN]
theorem ix_fr1 {p : Rat} {Q : D → Prop} {t : Tok Q} : ixF Q t (fr p) (.int 1) = Q (.int p.den) := by
  show (∃ v, L2.atI [PyData.int p.num, .int p.den] 1 = some v ∧ Q v) = _
  simp [L2.atI, L2.ixN]
theorem cmp_fr {p q : Rat} {Q : Bool → Prop} : cmpW .Eq (fr p) (fr q) Q = Q (decide (p = q)) := by
  show (SeqAt.shaped (fr p) = true ∧ SeqAt.shaped (fr q) = true ∧ Q (PyData.eqv (fr p) (fr q))) = _
  rw [fr_sh, fr_sh, fr_eq]
  simp
theorem cmp_frn {p q : Rat} {Q : Bool → Prop} : cmpW .NotEq (fr p) (fr q) Q = Q (!decide (p = q)) := by
  show (SeqAt.shaped (fr p) = true ∧ SeqAt.shaped (fr q) = true ∧ Q (!PyData.eqv (fr p) (fr q))) = _
  rw [fr_sh, fr_sh, fr_eq]
  simp
theorem cmp_fr0 {p : Rat} {Q : Bool → Prop} : cmpW .NotEq (fr p) (.tuple [.int 0, .int 1]) Q = Q (!decide (p = 0)) := cmp_frn (q := 0)
end Rc
namespace Rc
theorem lt_fr {p q : Rat} : decide (p.num * q.den < q.num * p.den) = decide (p < q) := by
  rw [decide_eq_decide]
  exact (Rat.lt_iff p q).symm
end Rc
namespace Rc
theorem s10 : small64 10 = True := eq_true small10
end Rc
namespace Rc
theorem la_2 : ((Int.natAbs 2).log2 < 9000) = True := eq_true (by decide)
theorem la_3 : ((Int.natAbs 3).log2 < 9000) = True := eq_true (by decide)
theorem la_4 : ((Int.natAbs 4).log2 < 9000) = True := eq_true (by decide)
theorem la_5 : ((Int.natAbs 5).log2 < 9000) = True := eq_true (by decide)
theorem la_6 : ((Int.natAbs 6).log2 < 9000) = True := eq_true (by decide)
theorem la_7 : ((Int.natAbs 7).log2 < 9000) = True := eq_true (by decide)
theorem la_8 : ((Int.natAbs 8).log2 < 9000) = True := eq_true (by decide)
theorem la_9 : ((Int.natAbs 9).log2 < 9000) = True := eq_true (by decide)
theorem la_10 : ((Int.natAbs 10).log2 < 9000) = True := eq_true (by decide)
theorem la_11 : ((Int.natAbs 11).log2 < 9000) = True := eq_true (by decide)
theorem la_12 : ((Int.natAbs 12).log2 < 9000) = True := eq_true (by decide)
theorem la_13 : ((Int.natAbs 13).log2 < 9000) = True := eq_true (by decide)
theorem la_14 : ((Int.natAbs 14).log2 < 9000) = True := eq_true (by decide)
theorem la_15 : ((Int.natAbs 15).log2 < 9000) = True := eq_true (by decide)
theorem la_16 : ((Int.natAbs 16).log2 < 9000) = True := eq_true (by decide)
theorem la_18 : ((Int.natAbs 18).log2 < 9000) = True := eq_true (by decide)
theorem la_19 : ((Int.natAbs 19).log2 < 9000) = True := eq_true (by decide)
theorem la_20 : ((Int.natAbs 20).log2 < 9000) = True := eq_true (by decide)
theorem la_21 : ((Int.natAbs 21).log2 < 9000) = True := eq_true (by decide)
theorem la_24 : ((Int.natAbs 24).log2 < 9000) = True := eq_true (by decide)
theorem la_25 : ((Int.natAbs 25).log2 < 9000) = True := eq_true (by decide)
theorem la_28 : ((Int.natAbs 28).log2 < 9000) = True := eq_true (by decide)
theorem la_30 : ((Int.natAbs 30).log2 < 9000) = True := eq_true (by decide)
theorem la_35 : ((Int.natAbs 35).log2 < 9000) = True := eq_true (by decide)
theorem la_36 : ((Int.natAbs 36).log2 < 9000) = True := eq_true (by decide)
theorem la_39 : ((Int.natAbs 39).log2 < 9000) = True := eq_true (by decide)
theorem la_40 : ((Int.natAbs 40).log2 < 9000) = True := eq_true (by decide)
theorem la_41 : ((Int.natAbs 41).log2 < 9000) = True := eq_true (by decide)
theorem la_44 : ((Int.natAbs 44).log2 < 9000) = True := eq_true (by decide)
theorem la_45 : ((Int.natAbs 45).log2 < 9000) = True := eq_true (by decide)
theorem la_49 : ((Int.natAbs 49).log2 < 9000) = True := eq_true (by decide)
theorem la_50 : ((Int.natAbs 50).log2 < 9000) = True := eq_true (by decide)
theorem la_52 : ((Int.natAbs 52).log2 < 9000) = True := eq_true (by decide)
theorem la_54 : ((Int.natAbs 54).log2 < 9000) = True := eq_true (by decide)
theorem la_57 : ((Int.natAbs 57).log2 < 9000) = True := eq_true (by decide)
theorem la_63 : ((Int.natAbs 63).log2 < 9000) = True := eq_true (by decide)
theorem la_64 : ((Int.natAbs 64).log2 < 9000) = True := eq_true (by decide)
theorem la_65 : ((Int.natAbs 65).log2 < 9000) = True := eq_true (by decide)
theorem la_72 : ((Int.natAbs 72).log2 < 9000) = True := eq_true (by decide)
theorem la_78 : ((Int.natAbs 78).log2 < 9000) = True := eq_true (by decide)
theorem la_81 : ((Int.natAbs 81).log2 < 9000) = True := eq_true (by decide)
theorem la_90 : ((Int.natAbs 90).log2 < 9000) = True := eq_true (by decide)
theorem la_100 : ((Int.natAbs 100).log2 < 9000) = True := eq_true (by decide)
theorem la_121 : ((Int.natAbs 121).log2 < 9000) = True := eq_true (by decide)
theorem la_123 : ((Int.natAbs 123).log2 < 9000) = True := eq_true (by decide)
theorem la_125 : ((Int.natAbs 125).log2 < 9000) = True := eq_true (by decide)
theorem la_126 : ((Int.natAbs 126).log2 < 9000) = True := eq_true (by decide)
theorem la_144 : ((Int.natAbs 144).log2 < 9000) = True := eq_true (by decide)
theorem la_162 : ((Int.natAbs 162).log2 < 9000) = True := eq_true (by decide)
theorem la_168 : ((Int.natAbs 168).log2 < 9000) = True := eq_true (by decide)
theorem la_176 : ((Int.natAbs 176).log2 < 9000) = True := eq_true (by decide)
theorem la_196 : ((Int.natAbs 196).log2 < 9000) = True := eq_true (by decide)
theorem la_200 : ((Int.natAbs 200).log2 < 9000) = True := eq_true (by decide)
theorem la_216 : ((Int.natAbs 216).log2 < 9000) = True := eq_true (by decide)
theorem la_240 : ((Int.natAbs 240).log2 < 9000) = True := eq_true (by decide)
theorem la_360 : ((Int.natAbs 360).log2 < 9000) = True := eq_true (by decide)
theorem la_369 : ((Int.natAbs 369).log2 < 9000) = True := eq_true (by decide)
theorem la_400 : ((Int.natAbs 400).log2 < 9000) = True := eq_true (by decide)
theorem la_402 : ((Int.natAbs 402).log2 < 9000) = True := eq_true (by decide)
theorem la_441 : ((Int.natAbs 441).log2 < 9000) = True := eq_true (by decide)
theorem la_540 : ((Int.natAbs 540).log2 < 9000) = True := eq_true (by decide)
theorem la_550 : ((Int.natAbs 550).log2 < 9000) = True := eq_true (by decide)
theorem la_900 : ((Int.natAbs 900).log2 < 9000) = True := eq_true (by decide)
theorem la_907 : ((Int.natAbs 907).log2 < 9000) = True := eq_true (by decide)
theorem la_997 : ((Int.natAbs 997).log2 < 9000) = True := eq_true (by decide)
theorem la_1009 : ((Int.natAbs 1009).log2 < 9000) = True := eq_true (by decide)
theorem la_1100 : ((Int.natAbs 1100).log2 < 9000) = True := eq_true (by decide)
theorem la_1152 : ((Int.natAbs 1152).log2 < 9000) = True := eq_true (by decide)
theorem la_1440 : ((Int.natAbs 1440).log2 < 9000) = True := eq_true (by decide)
theorem la_1764 : ((Int.natAbs 1764).log2 < 9000) = True := eq_true (by decide)
theorem la_2001 : ((Int.natAbs 2001).log2 < 9000) = True := eq_true (by decide)
theorem la_2003 : ((Int.natAbs 2003).log2 < 9000) = True := eq_true (by decide)
theorem la_2200 : ((Int.natAbs 2200).log2 < 9000) = True := eq_true (by decide)
theorem la_3150 : ((Int.natAbs 3150).log2 < 9000) = True := eq_true (by decide)
theorem la_4099 : ((Int.natAbs 4099).log2 < 9000) = True := eq_true (by decide)
theorem la_16807 : ((Int.natAbs 16807).log2 < 9000) = True := eq_true (by decide)
theorem la_22500 : ((Int.natAbs 22500).log2 < 9000) = True := eq_true (by decide)
theorem la_24200 : ((Int.natAbs 24200).log2 < 9000) = True := eq_true (by decide)
theorem la_72600 : ((Int.natAbs 72600).log2 < 9000) = True := eq_true (by decide)
end Rc
namespace Rc
open PySem
theorem cmp_bb {a b : Bool} {Q : Bool → Prop} : cmpW .Eq (.bool a) (.bool b) Q = Q (a == b) := by
  show (SeqAt.shaped (.bool a) = true ∧ SeqAt.shaped (.bool b) = true ∧ Q (a == b)) = _
  exact propext ⟨fun h => h.2.2, fun h => ⟨rfl, rfl, h⟩⟩
theorem cmp_bbn {a b : Bool} {Q : Bool → Prop} : cmpW .NotEq (.bool a) (.bool b) Q = Q (!(a == b)) := by
  show (SeqAt.shaped (.bool a) = true ∧ SeqAt.shaped (.bool b) = true ∧ Q (!(a == b))) = _
  exact propext ⟨fun h => h.2.2, fun h => ⟨rfl, rfl, h⟩⟩
theorem num_pos {p : Rat} : 0 < p.num ↔ 0 < p := by
  rw [Rat.lt_iff]
  simp
theorem num_neg {p : Rat} : p.num < 0 ↔ p < 0 := by
  rw [Rat.lt_iff]
  simp
end Rc
namespace Rc
open PySem
theorem cmp_ll {a b : List D} {Q : Bool → Prop} : cmpW .Eq (.list a) (.list b) Q = (SeqAt.shaped (.list a) = true ∧ SeqAt.shaped (.list b) = true ∧ Q (PyData.eqv (.list a) (.list b))) := rfl
theorem cmp_lln {a b : List D} {Q : Bool → Prop} : cmpW .NotEq (.list a) (.list b) Q = (SeqAt.shaped (.list a) = true ∧ SeqAt.shaped (.list b) = true ∧ Q (!PyData.eqv (.list a) (.list b))) := rfl
theorem cmp_tt {a b : List D} {Q : Bool → Prop} : cmpW .Eq (.tuple a) (.tuple b) Q = (SeqAt.shaped (.tuple a) = true ∧ SeqAt.shaped (.tuple b) = true ∧ Q (PyData.eqv (.tuple a) (.tuple b))) := rfl
theorem cmp_ttn {a b : List D} {Q : Bool → Prop} : cmpW .NotEq (.tuple a) (.tuple b) Q = (SeqAt.shaped (.tuple a) = true ∧ SeqAt.shaped (.tuple b) = true ∧ Q (!PyData.eqv (.tuple a) (.tuple b))) := rfl
end Rc

/-! Whole numbers, polynomials as lists. -/
namespace Rc
open PySem
def isW : D → Bool
  | .int _ => true
  | _ => false
theorem asInts_some : ∀ {xs : List D} {ns : List Int}, asInts xs = some ns → xs = ns.map .int
  | [], ns, h => by cases h; rfl
  | .int i :: r, ns, h => by
    have h2 : (asInts r).map (i :: ·) = some ns := h
    cases e : asInts r with
    | none => rw [e] at h2; cases h2
    | some ms =>
      rw [e] at h2
      cases h2
      rw [asInts_some e]
      rfl
  | .none :: _, _, h => by cases h
  | .bool _ :: _, _, h => by cases h
  | .str _ :: _, _, h => by cases h
  | .list _ :: _, _, h => by cases h
  | .tuple _ :: _, _, h => by cases h
  | .dict _ :: _, _, h => by cases h
theorem all_isW : ∀ xs : List D, (xs.map isW).all id = (asInts xs).isSome
  | [] => rfl
  | x :: r => by
    have ih := all_isW r
    cases x with
    | int i =>
      show (true && (r.map isW).all id) = ((asInts r).map (i :: ·)).isSome
      rw [ih]
      cases asInts r <;> rfl
    | _ => rfl
theorem asBools_map {α : Type} (f : α → Bool) : ∀ xs : List α, asBools (xs.map fun d => PyData.bool (f d)) = some (xs.map f)
  | [] => rfl
  | x :: r => by
    show (asBools (r.map fun d => PyData.bool (f d))).map (f x :: ·) = _
    rw [asBools_map f r]
    rfl
def isPolyV : D → Bool
  | .tuple xs => match asInts xs with
    | some ns => decide (ns = []) || decide (ns.getLast? ≠ some 0)
    | none => false
  | _ => false
theorem atI_last {ns : List Int} (h : ns ≠ []) : L2.atI (ns.map PyData.int) (-1) = some (.int (ns.getLast h)) := by
  have hl : 0 < ns.length := List.length_pos_iff.mpr h
  unfold L2.atI L2.ixN
  rw [List.length_map]
  rw [if_neg (by decide), if_pos (by omega)]
  show (ns.map PyData.int)[((-1 : Int) + ns.length).toNat]? = _
  rw [show ((-1 : Int) + ns.length).toNat = ns.length - 1 by omega, List.getElem?_map, ← List.getLast?_eq_getElem?, List.getLast?_eq_some_getLast h]
  rfl
/-- without the noughts at the end -/
def trim (xs : List Int) : List Int := (xs.reverse.dropWhile (· == 0)).reverse
theorem trim_snoc0 (xs : List Int) : trim (xs ++ [0]) = trim xs := by
  unfold trim
  rw [List.reverse_append]
  simp
theorem trim_snoc {xs : List Int} {x : Int} (h : x ≠ 0) : trim (xs ++ [x]) = xs ++ [x] := by
  unfold trim
  rw [List.reverse_append]
  simp [List.dropWhile_cons, h]
def tz (xs : List Int) : D := .tuple (xs.map .int)
theorem cut_take {α : Type} {xs : List α} {m : Nat} (h : m ≤ xs.length) : cut xs none (some (m : Int)) = xs.take m := by
  unfold cut
  rw [HT.sIx_none, HT.sIx_nat, Nat.min_eq_left h]
  simp
theorem bitAnd_le {i m : Int} (h : 0 < i) (hm : 0 ≤ m := by decide) : 0 ≤ Builtin.bitAnd i m ∧ Builtin.bitAnd i m ≤ m := by
  obtain ⟨a, rfl⟩ := Int.eq_ofNat_of_zero_le (show 0 ≤ i by omega)
  obtain ⟨b, rfl⟩ := Int.eq_ofNat_of_zero_le hm
  show 0 ≤ ((a &&& b : Nat) : Int) ∧ ((a &&& b : Nat) : Int) ≤ b
  have := @Nat.and_le_right a b
  omega
theorem lc_goP {α : Type} {t : Tg} {ε : Ev} {E : Ev → (D → Ev → Prop) → Prop} (g : α → D) (P : D → Prop) : ∀ (as : List α) (acc : List D) (K : List D → Prop),
    (∀ a ∈ as, ∀ k : D → Ev → Prop, (∀ y e, P y → k y e) → tgW t (g a) (wipeE (blind ε) (tgs t)) fun ε1 => E ε1 k) → acc.length + as.length ≤ 16777216 →
    (∀ ys : List D, ys.length = as.length → (∀ y ∈ ys, P y) → K (acc ++ ys)) → lcW t ε (fun ε2 k => k true ε2) E (as.map g) acc K
  | [], acc, K, _, _, hk => by
    have := hk [] rfl (fun y hy => by cases hy)
    rw [List.append_nil] at this
    exact this
  | a :: r, acc, K, h, hl, hk => by
    have hl2 : acc.length + (r.length + 1) ≤ 16777216 := hl
    refine h a (List.mem_cons_self ..) (fun y e => acc.length < 16777216 ∧ lcW t ε (fun ε2 k => k true ε2) E (r.map g) (acc ++ [y]) K) fun y e hy => ⟨by omega, lc_goP g P r (acc ++ [y]) K (fun z hz => h z (List.mem_cons_of_mem _ hz)) ?_ fun ys hys hp => ?_⟩
    · simp only [List.length_append, List.length_cons, List.length_nil]
      omega
    · have := hk (y :: ys) (by simp [hys]) (fun z hz => by
        rcases List.mem_cons.mp hz with rfl | hz
        · exact hy
        · exact hp z hz)
      simpa using this
/-- a comprehension that tells whole numbers, not told which -/
theorem lc_ints {α : Type} {t : Tg} {ε : Ev} {E : Ev → (D → Ev → Prop) → Prop} (g : α → D) (P : Int → Prop) {as : List α} {K : List D → Prop} {q : Tok ((fun ε2 k => k true ε2 : Ev → (Bool → Ev → Prop) → Prop), E, K)}
    (h : ∀ a ∈ as, ∀ k : D → Ev → Prop, (∀ i e, P i → k (.int i) e) → tgW t (g a) (wipeE (blind ε) (tgs t)) fun ε1 => E ε1 k) (hl : as.length ≤ 16777216)
    (hk : ∀ is : List Int, is.length = as.length → (∀ i ∈ is, P i) → K (is.map .int)) : lcF t (fun ε2 k => k true ε2) E K q ε (as.map g) [] := by
  refine lc_goP g (fun y => ∃ i, y = .int i ∧ P i) as [] K (fun a ha k hk => h a ha k fun i e hi => hk _ e ⟨i, rfl, hi⟩) (by simpa using hl) fun ys hys hp => ?_
  have : ∀ ys : List D, (∀ y ∈ ys, ∃ i, y = .int i ∧ P i) → ∃ is : List Int, ys = is.map .int ∧ ∀ i ∈ is, P i := by
    intro ys
    induction ys with
    | nil => exact fun _ => ⟨[], rfl, fun i hi => by cases hi⟩
    | cons y r ih =>
      intro h
      obtain ⟨i, rfl, hi⟩ := h y (List.mem_cons_self ..)
      obtain ⟨is, rfl, hs⟩ := ih fun z hz => h z (List.mem_cons_of_mem _ hz)
      exact ⟨i :: is, rfl, fun j hj => by
        rcases List.mem_cons.mp hj with rfl | hj
        · exact hi
        · exact hs j hj⟩
  obtain ⟨is, rfl, hs⟩ := this ys hp
  exact hk is (by simpa using hys) hs
end Rc
namespace Rc
open PySem
theorem isPolyV_n {xs : List D} (e : asInts xs = none) : isPolyV (.tuple xs) = false := by
  show (match asInts xs with
    | some ns => decide (ns = []) || decide (ns.getLast? ≠ some 0)
    | none => false) = false
  rw [e]
theorem isPolyV_s {xs : List D} {ns : List Int} (e : asInts xs = some ns) : isPolyV (.tuple xs) = (decide (ns = []) || decide (ns.getLast? ≠ some 0)) := by
  show (match asInts xs with
    | some ns => decide (ns = []) || decide (ns.getLast? ≠ some 0)
    | none => false) = _
  rw [e]
theorem asInts_map : ∀ ns : List Int, asInts (ns.map .int) = some ns
  | [] => rfl
  | i :: r => by
    show (asInts (r.map .int)).map (i :: ·) = _
    rw [asInts_map r]
    rfl
end Rc
namespace Rc
open PySem
theorem rep0 (n : Nat) : (List.replicate n [PyData.int 0]).flatten = (List.replicate n (0 : Int)).map .int := by
  simp [List.map_replicate]
theorem trim_len (xs : List Int) : (trim xs).length ≤ xs.length := by
  unfold trim
  rw [List.length_reverse]
  have := (List.dropWhile_suffix (l := xs.reverse) (· == (0 : Int))).length_le
  rw [List.length_reverse] at this
  exact this
theorem trim_last (xs : List Int) : (trim xs).getLast? ≠ some 0 := by
  unfold trim
  rw [List.getLast?_reverse]
  intro h
  have := List.head?_dropWhile_not (· == (0 : Int)) xs.reverse
  rw [h] at this
  simp at this
theorem isPolyV_tz {xs : List Int} : isPolyV (.tuple ((trim xs).map .int)) = true := by
  rw [isPolyV_s (asInts_map _)]
  simp [trim_last]
theorem shapedB {α : Type} (f : α → Bool) (xs : List α) : SeqAt.shaped (.list (xs.map fun x => .bool (f x))) = true := shaped_of (shLst (n := 0) fun x h => by
  obtain ⟨i, _, rfl⟩ := List.mem_map.mp h
  exact ⟨rfl, Nat.zero_le _⟩) (by decide)
theorem eqvB {α : Type} (f : α → Bool) : ∀ xs : List α, PyData.eqv (.list (xs.map fun x => .bool (f x))) (.list (xs.map fun x => .bool (f x))) = true
  | [] => rfl
  | x :: r => by
    have ih : PyData.eqvAll (r.map fun x => PyData.bool (f x)) (r.map fun x => PyData.bool (f x)) = true := eqvB f r
    show ((f x == f x) && PyData.eqvAll (r.map fun x => PyData.bool (f x)) (r.map fun x => PyData.bool (f x))) = true
    rw [ih]
    simp
end Rc
namespace Rc
open PySem
theorem bi_list_any {xs : List D} {d : D} {Q : Val → Prop} (hd : d = .list xs ∨ d = .tuple xs) : biW .list [d] Q = Q (.own xs) := by
  rcases hd with rfl | rfl <;> rfl
end Rc
namespace Rc
open PySem
/-- in lowest terms, with a bottom above 0 -/
def fracV : D → Bool
  | .tuple [.int a, .int b] => decide (0 < b) && decide (Int.gcd a b = 1)
  | _ => false
theorem fracV_len {xs : List D} (h : xs.length ≠ 2) : fracV (.tuple xs) = false := by
  unfold fracV
  split
  · rename_i a b e
    cases e
    exact absurd rfl h
  · rfl
theorem fracV_l {x y : D} (h : isW x = false) : fracV (.tuple [x, y]) = false := by
  cases x <;> first | rfl | cases h
theorem fracV_r {x : Int} {y : D} (h : isW y = false) : fracV (.tuple [.int x, y]) = false := by
  cases y <;> first | rfl | cases h
end Rc
namespace Rc
theorem cut_takeAny {α : Type} {xs : List α} {m : Nat} : cut xs none (some (m : Int)) = xs.take m := by
  unfold cut
  rw [HT.sIx_none, HT.sIx_nat]
  by_cases h : m ≤ xs.length
  · rw [Nat.min_eq_left h]
    simp
  · rw [Nat.min_eq_right (by omega)]
    simp
    rw [List.take_of_length_le (by omega)]
end Rc

/-! Polynomials: lists of weights by what they have at each place. -/
namespace Rc
open PySem
def cf (xs : List Int) (n : Nat) : Int := xs.getD n 0
theorem cf_nil (n : Nat) : cf [] n = 0 := rfl
theorem cf_0 (x : Int) (r : List Int) : cf (x :: r) 0 = x := rfl
theorem cf_s (x : Int) (r : List Int) (n : Nat) : cf (x :: r) (n + 1) = cf r n := rfl
def trimR : List Int → List Int
  | [] => []
  | x :: r => match trimR r with
    | [] => if x = 0 then [] else [x]
    | y :: t => x :: y :: t
theorem trim_cons (x : Int) (r : List Int) : trim (x :: r) = match trim r with
    | [] => if x = 0 then [] else [x]
    | y :: t => x :: y :: t := by
  unfold trim
  rw [List.reverse_cons, List.dropWhile_append]
  cases h : r.reverse.dropWhile (· == (0 : Int)) with
  | nil =>
    simp only [List.isEmpty_nil, if_true, List.reverse_nil]
    by_cases hx : x = 0
    · subst hx
      rfl
    · have : ((x == (0 : Int)) = false) := by simpa using hx
      simp [List.dropWhile_cons, this, hx]
  | cons a l =>
    simp only [List.isEmpty_cons, Bool.false_eq_true, if_false, List.reverse_append, List.reverse_cons, List.reverse_nil, List.nil_append, List.singleton_append]
    cases e : l.reverse ++ [a] with
    | nil => simp at e
    | cons y t => rfl
theorem trim_eq : ∀ xs : List Int, trim xs = trimR xs
  | [] => rfl
  | x :: r => by
    rw [trim_cons, trim_eq r]
    rfl
theorem trimR_nil : ∀ {xs : List Int}, (∀ n, cf xs n = 0) → trimR xs = []
  | [], _ => rfl
  | x :: r, h => by
    have h0 : x = 0 := h 0
    have h1 := trimR_nil (xs := r) fun n => h (n + 1)
    unfold trimR
    rw [h1, if_pos h0]
theorem cf_trimR : ∀ (xs : List Int) (n : Nat), cf (trimR xs) n = cf xs n
  | [], _ => rfl
  | x :: r, n => by
    have ih := cf_trimR r
    unfold trimR
    cases e : trimR r with
    | nil =>
      rw [e] at ih
      cases n with
      | zero =>
        by_cases hx : x = 0
        · rw [if_pos hx, cf_0, hx]
          rfl
        · rw [if_neg hx, cf_0, cf_0]
      | succ n =>
        rw [cf_s, ← ih n]
        by_cases hx : x = 0
        · rw [if_pos hx]
          rfl
        · rw [if_neg hx]
          rfl
    | cons y t =>
      rw [e] at ih
      cases n with
      | zero => rfl
      | succ n => exact ih n
theorem trimR_ext : ∀ {xs ys : List Int}, (∀ n, cf xs n = cf ys n) → trimR xs = trimR ys
  | [], ys, h => by rw [trimR_nil (xs := ys) fun n => (h n).symm.trans (cf_nil n)]; rfl
  | x :: r, [], h => by rw [trimR_nil (xs := x :: r) fun n => h n]; rfl
  | x :: r, y :: t, h => by
    have e : x = y := h 0
    have ih := trimR_ext (xs := r) (ys := t) fun n => h (n + 1)
    subst e
    unfold trimR
    rw [ih]
theorem trim_ext {xs ys : List Int} (h : ∀ n, cf xs n = cf ys n) : trim xs = trim ys := by
  rw [trim_eq, trim_eq, trimR_ext h]
theorem cf_trim (xs : List Int) (n : Nat) : cf (trim xs) n = cf xs n := by rw [trim_eq, cf_trimR]
theorem trim_trim (xs : List Int) : trim (trim xs) = trim xs := trim_ext (cf_trim xs)
/-- in plain form -/
def Pn (xs : List Int) : Prop := trim xs = xs
theorem pn_trim (xs : List Int) : Pn (trim xs) := trim_trim xs
theorem pn_ext {xs ys : List Int} (hx : Pn xs) (hy : Pn ys) (h : ∀ n, cf xs n = cf ys n) : xs = ys := by
  rw [← hx, ← hy, trim_ext h]
theorem cf_ge {xs : List Int} {n : Nat} (h : xs.length ≤ n) : cf xs n = 0 := by
  unfold cf
  rw [List.getD_eq_getElem?_getD, List.getElem?_eq_none h]
  rfl
theorem cf_lt {xs : List Int} {n : Nat} (h : n < xs.length) : cf xs n = xs[n] := by
  unfold cf
  rw [List.getD_eq_getElem?_getD, List.getElem?_eq_getElem h]
  rfl
/-! ### sums, multiples, products by places -/
def pS (f g : Nat → Int) : Nat → Int := fun n => f n + g n
def pK (x : Int) (f : Nat → Int) : Nat → Int := fun n => x * f n
def sh (k : Nat) (f : Nat → Int) : Nat → Int := fun n => if k ≤ n then f (n - k) else 0
def mulF : List Int → (Nat → Int) → Nat → Int
  | [], _ => fun _ => 0
  | x :: r, g => fun n => x * g n + sh 1 (mulF r g) n
def mulL (a b : List Int) : List Int := (List.range (a.length + b.length)).map (mulF a (cf b))
def addL (a b : List Int) : List Int := (List.range (max a.length b.length)).map fun n => cf a n + cf b n
theorem cf_range {m : Nat} {f : Nat → Int} (h : ∀ n, m ≤ n → f n = 0) (n : Nat) : cf ((List.range m).map f) n = f n := by
  by_cases hn : n < m
  · rw [cf_lt (by simpa using hn)]
    simp
  · rw [cf_ge (by simpa using hn), h n (by omega)]
theorem cf_addL (a b : List Int) (n : Nat) : cf (addL a b) n = cf a n + cf b n := cf_range (fun n hn => by rw [cf_ge (by omega), cf_ge (by omega)]; rfl) n
theorem mulF_ge : ∀ (a : List Int) {g : Nat → Int} {m : Nat}, (∀ n, m ≤ n → g n = 0) → ∀ n, a.length + m ≤ n → mulF a g n = 0
  | [], _, _, _, _, _ => rfl
  | x :: r, g, m, h, n, hn => by
    have hn2 : r.length + 1 + m ≤ n := hn
    show x * g n + sh 1 (mulF r g) n = 0
    unfold sh
    rw [h n (by omega), if_pos (by omega), mulF_ge r h (n - 1) (by omega)]
    simp
theorem cf_mulL (a b : List Int) (n : Nat) : cf (mulL a b) n = mulF a (cf b) n := cf_range (fun n hn => mulF_ge a (fun k hk => cf_ge hk) n hn) n
theorem sh_add (k : Nat) (f g : Nat → Int) (n : Nat) : sh k (fun i => f i + g i) n = sh k f n + sh k g n := by
  unfold sh
  split <;> rfl
theorem sh_mul (k : Nat) (x : Int) (f : Nat → Int) (n : Nat) : sh k (fun i => x * f i) n = x * sh k f n := by
  unfold sh
  split
  · rfl
  · simp
theorem sh_congr {k : Nat} {f g : Nat → Int} (h : ∀ n, f n = g n) (n : Nat) : sh k f n = sh k g n := by
  unfold sh
  split
  · exact h _
  · rfl
theorem mulF_congr : ∀ (a : List Int) {f g : Nat → Int}, (∀ n, f n = g n) → ∀ n, mulF a f n = mulF a g n
  | [], _, _, _, _ => rfl
  | x :: r, f, g, h, n => by
    show x * f n + sh 1 (mulF r f) n = x * g n + sh 1 (mulF r g) n
    rw [h n, sh_congr (mulF_congr r h)]
theorem mulF_add : ∀ (a : List Int) (f g : Nat → Int) (n : Nat), mulF a (fun i => f i + g i) n = mulF a f n + mulF a g n
  | [], _, _, _ => rfl
  | x :: r, f, g, n => by
    show x * (f n + g n) + sh 1 (mulF r fun i => f i + g i) n = (x * f n + sh 1 (mulF r f) n) + (x * g n + sh 1 (mulF r g) n)
    rw [sh_congr (mulF_add r f g), sh_add, Int.mul_add]
    omega
theorem mulF_k : ∀ (a : List Int) (x : Int) (f : Nat → Int) (n : Nat), mulF a (fun i => x * f i) n = x * mulF a f n
  | [], x, _, _ => (Int.mul_zero x).symm
  | y :: r, x, f, n => by
    show y * (x * f n) + sh 1 (mulF r fun i => x * f i) n = x * (y * f n + sh 1 (mulF r f) n)
    rw [sh_congr (mulF_k r x f), sh_mul, Int.mul_add, Int.mul_left_comm]
theorem sh_sh (j k : Nat) (f : Nat → Int) (n : Nat) : sh j (sh k f) n = sh (j + k) f n := by
  unfold sh
  by_cases h : j + k ≤ n
  · rw [if_pos (by omega), if_pos (by omega), if_pos h, Nat.sub_sub]
  · rw [if_neg h]
    split
    · rw [if_neg (by omega)]
    · rfl
theorem mulF_sh : ∀ (a : List Int) (f : Nat → Int) (n : Nat), mulF a (sh 1 f) n = sh 1 (mulF a f) n
  | [], f, n => by
    show (0 : Int) = sh 1 (fun _ => 0) n
    unfold sh
    split <;> rfl
  | y :: r, f, n => by
    show y * sh 1 f n + sh 1 (mulF r (sh 1 f)) n = sh 1 (fun i => y * f i + sh 1 (mulF r f) i) n
    rw [sh_add, sh_mul, sh_congr (mulF_sh r f)]
/-- the place 0 and what is behind -/
theorem cf_cons (y : Int) (t : List Int) (n : Nat) : cf (y :: t) n = (if n = 0 then y else 0) + sh 1 (cf t) n := by
  unfold sh
  cases n with
  | zero => rw [if_pos rfl, if_neg (by decide), cf_0]; omega
  | succ n => rw [if_neg (by omega), if_pos (by omega), cf_s]; simp
theorem mulF_one : ∀ (a : List Int) (y : Int) (n : Nat), mulF a (fun i => if i = 0 then y else 0) n = cf a n * y
  | [], y, n => (Int.zero_mul y).symm
  | x :: r, y, n => by
    show x * (if n = 0 then y else 0) + sh 1 (mulF r fun i => if i = 0 then y else 0) n = cf (x :: r) n * y
    rw [sh_congr (mulF_one r y), cf_cons]
    unfold sh
    cases n with
    | zero => simp
    | succ n => simp
theorem mulF_comm : ∀ (a b : List Int) (n : Nat), mulF a (cf b) n = mulF b (cf a) n
  | a, [], n => by
    show mulF a (fun _ => 0) n = 0
    have := mulF_k a 0 (fun _ => 0) n
    simpa using this
  | a, y :: t, n => by
    rw [mulF_congr a (cf_cons y t) n, mulF_add, mulF_one, mulF_sh, sh_congr (mulF_comm a t)]
    show _ = y * cf a n + sh 1 (mulF t (cf a)) n
    rw [Int.mul_comm]
theorem mulF_assoc : ∀ (a : List Int) (b : List Int) (g : Nat → Int) (n : Nat), mulF a (mulF b g) n = mulF (mulL a b) g n := by
  have key : ∀ (xs : List Int) (f : Nat → Int), (∀ n, cf xs n = f n) → ∀ (ys : List Int) (g : Nat → Int), (∀ n, cf ys n = f n) → ∀ n, mulF xs g n = mulF ys g n := by
    intro xs
    induction xs with
    | nil =>
      intro f hf ys
      induction ys generalizing f with
      | nil => exact fun g _ n => rfl
      | cons y t ih =>
        intro g hy n
        have h0 : y = 0 := (hy 0).trans (hf 0).symm
        have := ih (fun n => cf t n) (fun n => by have a := hf (n + 1); have b := hy (n + 1); rw [cf_s] at b; rw [cf_nil] at *; omega) g (fun _ => rfl)
        show 0 = y * g n + sh 1 (mulF t g) n
        rw [h0, sh_congr (fun n => (this n).symm)]
        unfold sh
        show 0 = 0 * g n + if 1 ≤ n then 0 else 0
        simp
    | cons x r ih =>
      intro f hf ys g hy n
      cases ys with
      | nil =>
        have h0 : x = 0 := (hf 0).trans (hy 0).symm
        have := ih (fun n => cf r n) (fun _ => rfl) [] g (fun n => by have a := hf (n + 1); have b := hy (n + 1); rw [cf_s] at a; rw [cf_nil] at *; omega)
        show x * g n + sh 1 (mulF r g) n = 0
        rw [h0, sh_congr this]
        unfold sh
        show 0 * g n + (if 1 ≤ n then 0 else 0) = 0
        simp
      | cons y t =>
        have h0 : x = y := (hf 0).trans (hy 0).symm
        have := ih (fun n => cf r n) (fun _ => rfl) t g (fun n => ((hy (n + 1)).trans (hf (n + 1)).symm))
        show x * g n + sh 1 (mulF r g) n = y * g n + sh 1 (mulF t g) n
        rw [h0, sh_congr this]
  have add : ∀ (xs ys : List Int) (g : Nat → Int) (n : Nat), mulF (addL xs ys) g n = mulF xs g n + mulF ys g n := by
    intro xs
    induction xs with
    | nil =>
      intro ys g n
      rw [key (addL [] ys) (cf ys) (fun n => by rw [cf_addL, cf_nil]; omega) ys g (fun _ => rfl) n]
      show _ = 0 + _
      omega
    | cons x r ih =>
      intro ys g n
      cases ys with
      | nil =>
        rw [key (addL (x :: r) []) (cf (x :: r)) (fun n => by rw [cf_addL, cf_nil]; omega) (x :: r) g (fun _ => rfl) n]
        show _ = _ + 0
        omega
      | cons y t =>
        rw [key (addL (x :: r) (y :: t)) (cf ((x + y) :: addL r t)) (fun n => by
          cases n with
          | zero => rw [cf_addL]; rfl
          | succ n => rw [cf_addL, cf_s, cf_s, cf_s, cf_addL]) ((x + y) :: addL r t) g (fun _ => rfl) n]
        show (x + y) * g n + sh 1 (mulF (addL r t) g) n = (x * g n + sh 1 (mulF r g) n) + (y * g n + sh 1 (mulF t g) n)
        rw [sh_congr (ih t g), sh_add, Int.add_mul]
        omega
  have scl : ∀ (xs : List Int) (c : Int) (g : Nat → Int) (n : Nat), mulF (xs.map (c * ·)) g n = c * mulF xs g n := by
    intro xs
    induction xs with
    | nil => exact fun c g n => (Int.mul_zero c).symm
    | cons x r ih =>
      intro c g n
      show c * x * g n + sh 1 (mulF (r.map (c * ·)) g) n = c * (x * g n + sh 1 (mulF r g) n)
      rw [sh_congr (ih c g), sh_mul, Int.mul_add, Int.mul_assoc]
  have cfm : ∀ (xs : List Int) (c : Int) (n : Nat), cf (xs.map (c * ·)) n = c * cf xs n := by
    intro xs c n
    by_cases h : n < xs.length
    · rw [cf_lt (by simpa using h), cf_lt h]
      simp
    · rw [cf_ge (by simpa using h), cf_ge (by omega)]
      simp
  intro a
  induction a with
  | nil =>
    intro b g n
    rw [key (mulL [] b) (fun _ => 0) (fun n => by rw [cf_mulL]; rfl) [] g (fun _ => rfl) n]
    rfl
  | cons x r ih =>
    intro b g n
    rw [key (mulL (x :: r) b) (cf (addL (b.map (x * ·)) (0 :: mulL r b))) (fun n => by
      rw [cf_mulL, cf_addL, cfm, cf_cons]
      show x * cf b n + sh 1 (mulF r (cf b)) n = _
      rw [sh_congr (cf_mulL r b)]
      simp) _ g (fun _ => rfl) n, add, scl]
    show x * mulF b g n + sh 1 (mulF r (mulF b g)) n = x * mulF b g n + (0 * g n + sh 1 (mulF (mulL r b) g) n)
    rw [sh_congr (ih b g)]
    omega
end Rc

/-! Polynomials alike; how great their weights are. -/
namespace Rc
open PySem
def E (a b : List Int) : Prop := ∀ n, cf a n = cf b n
theorem E.rfl {a : List Int} : E a a := fun _ => Eq.refl _
theorem E.symm {a b : List Int} (h : E a b) : E b a := fun n => (h n).symm
theorem E.trans {a b c : List Int} (h : E a b) (g : E b c) : E a c := fun n => (h n).trans (g n)
theorem E.trim {a b : List Int} (h : E a b) : Rc.trim a = Rc.trim b := trim_ext h
theorem e_trim (a : List Int) : E (trim a) a := cf_trim a
theorem e_add {a a' b b' : List Int} (h : E a a') (g : E b b') : E (addL a b) (addL a' b') := fun n => by rw [cf_addL, cf_addL, h n, g n]
theorem e_mul {a a' b b' : List Int} (h : E a a') (g : E b b') : E (mulL a b) (mulL a' b') := fun n => by
  rw [cf_mulL, cf_mulL, mulF_congr a g n, mulF_comm, mulF_congr b' h n, mulF_comm]
theorem e_addC (a b : List Int) : E (addL a b) (addL b a) := fun n => by rw [cf_addL, cf_addL]; omega
theorem e_addA (a b c : List Int) : E (addL (addL a b) c) (addL a (addL b c)) := fun n => by simp only [cf_addL]; omega
theorem e_mulC (a b : List Int) : E (mulL a b) (mulL b a) := fun n => by rw [cf_mulL, cf_mulL, mulF_comm]
theorem e_mulA (a b c : List Int) : E (mulL (mulL a b) c) (mulL a (mulL b c)) := fun n => by
  rw [cf_mulL, ← mulF_assoc, cf_mulL, mulF_congr a (cf_mulL b c) n]
theorem e_dist (a b c : List Int) : E (mulL a (addL b c)) (addL (mulL a b) (mulL a c)) := fun n => by
  rw [cf_mulL, cf_addL, cf_mulL, cf_mulL, mulF_congr a (cf_addL b c) n, mulF_add]
theorem e_one (a : List Int) : E (mulL a [1]) a := fun n => by
  rw [cf_mulL, mulF_congr a (g := fun i => if i = 0 then 1 else 0) (fun i => by cases i <;> simp [cf]) n, mulF_one, Int.mul_one]
theorem e_nil (a : List Int) : E (mulL a []) [] := fun n => by
  rw [cf_mulL, mulF_comm]
  rfl
def sclL (a : List Int) (c : Int) : List Int := a.map (· * c)
theorem cf_sclL (a : List Int) (c : Int) (n : Nat) : cf (sclL a c) n = cf a n * c := by
  unfold sclL
  by_cases h : n < a.length
  · rw [cf_lt (by simpa using h), cf_lt h]
    simp
  · rw [cf_ge (by simpa using h), cf_ge (by omega)]
    simp
/-- so many weights, so great -/
def Bl (n p : Nat) (a : List Int) : Prop := a.length ≤ n ∧ ∀ x ∈ a, Bt p x
theorem Bl.mono {n m p q : Nat} {a : List Int} (h : Bl n p a) (l : n ≤ m) (k : p ≤ q) : Bl m q a := ⟨Nat.le_trans h.1 l, fun x hx => (h.2 x hx).mono k⟩
theorem bt0 {p : Nat} : Bt p 0 := by
  unfold Bt
  exact Nat.two_pow_pos p
theorem bl_cf {n p : Nat} {a : List Int} (h : Bl n p a) (i : Nat) : Bt p (cf a i) := by
  by_cases hi : i < a.length
  · rw [cf_lt hi]
    exact h.2 _ (List.getElem_mem hi)
  · rw [cf_ge (by omega)]
    exact bt0
theorem bl_trim {n p : Nat} {a : List Int} (h : Bl n p a) : Bl n p (trim a) := by
  refine ⟨Nat.le_trans (trim_len a) h.1, fun x hx => ?_⟩
  unfold trim at hx
  rw [List.mem_reverse] at hx
  exact h.2 x (List.mem_reverse.mp ((List.dropWhile_sublist _).subset hx))
theorem bl_add {n m p : Nat} {a b : List Int} (h : Bl n p a) (g : Bl m p b) : Bl (n + m) (p + 1) (addL a b) := by
  refine ⟨?_, fun x hx => ?_⟩
  · have h1 := h.1
    have g1 := g.1
    unfold addL
    rw [List.length_map, List.length_range]
    omega
  · obtain ⟨i, _, rfl⟩ := List.mem_map.mp hx
    exact Bt.add (bl_cf h i) (bl_cf g i)
theorem bt_sh {p : Nat} {f : Nat → Int} (h : ∀ n, Bt p (f n)) (k n : Nat) : Bt p (sh k f n) := by
  unfold sh
  split
  · exact h _
  · exact bt0
theorem bt_mulF {p q : Nat} : ∀ (a : List Int) {f : Nat → Int}, (∀ x ∈ a, Bt p x) → (∀ n, Bt q (f n)) → ∀ n, Bt (p + q + a.length) (mulF a f n)
  | [], _, _, _, _ => bt0
  | x :: r, f, h, g, n => by
    have ih := bt_mulF r (fun y hy => h y (List.mem_cons_of_mem _ hy)) g
    have h1 := (Bt.mul (h x (List.mem_cons_self ..)) (g n)).mono (show p + q ≤ p + q + r.length by omega)
    exact Bt.add h1 (bt_sh ih 1 n)
theorem bl_mul {n m p q : Nat} {a b : List Int} (h : Bl n p a) (g : Bl m q b) : Bl (n + m) (p + q + n) (mulL a b) := by
  refine ⟨?_, fun x hx => ?_⟩
  · have h1 := h.1
    have g1 := g.1
    unfold mulL
    rw [List.length_map, List.length_range]
    omega
  · obtain ⟨i, _, rfl⟩ := List.mem_map.mp hx
    exact (bt_mulF a h.2 (bl_cf g) i).mono (by have := h.1; omega)
theorem bl_scl {n p q : Nat} {a : List Int} {c : Int} (h : Bl n p a) (g : Bt q c) : Bl n (p + q) (sclL a c) := by
  refine ⟨by unfold sclL; rw [List.length_map]; exact h.1, fun x hx => ?_⟩
  obtain ⟨y, hy, rfl⟩ := List.mem_map.mp hx
  exact Bt.mul (h.2 y hy) g
theorem blOne : Bl 1 1 [1] := ⟨by decide, fun x hx => by
  rw [List.mem_singleton] at hx
  subst hx
  exact bt_c (by decide)⟩
theorem bl0 {n p : Nat} : Bl n p [] := ⟨Nat.zero_le _, fun x hx => by cases hx⟩
def powL (a : List Int) : Nat → List Int
  | 0 => [1]
  | m + 1 => trim (mulL (powL a m) a)
theorem e_pow (a : List Int) (m : Nat) : ∀ j, E (mulL (powL a m) (powL a j)) (powL a (m + j))
  | 0 => e_one _
  | j + 1 => by
    refine (e_mul E.rfl (e_trim _)).trans (((e_mulA _ _ _).symm).trans ((e_mul (e_pow a m j) E.rfl).trans ?_))
    exact (e_trim _).symm
theorem pn_pow (a : List Int) : ∀ m, Pn (powL a m)
  | 0 => by
    show trim [1] = [1]
    decide
  | m + 1 => pn_trim _
theorem bl_pow {n p : Nat} {a : List Int} (h : Bl n p a) : ∀ m, Bl (1 + m * n) (1 + m * (p + 1 + 100)) (powL a m) ∨ 100 < 1 + m * n
  | 0 => .inl (by rw [Nat.zero_mul, Nat.zero_mul]; exact blOne)
  | m + 1 => by
    have e1 : (m + 1) * n = m * n + n := Nat.succ_mul m n
    have e2 : (m + 1) * (p + 1 + 100) = m * (p + 1 + 100) + (p + 1 + 100) := Nat.succ_mul m _
    rw [e1, e2]
    rcases bl_pow h m with g | g
    · by_cases hb : 100 < 1 + m * n
      · right; omega
      · left
        exact (bl_trim (bl_mul g h)).mono (by omega) (by omega)
    · right; omega
/-! ### as data -/
theorem items_tz (a : List Int) : items (tz a) = some (a.map .int) := rfl
theorem len_tz {a : List Int} {Q : Int → Prop} : lenW (tz a) Q = Q a.length := by
  show Q ((a.map PyData.int).length : Int) = _
  rw [List.length_map]
theorem cmp_tz {a b : List Int} {Q : Bool → Prop} : cmpW .Eq (tz a) (tz b) Q = Q (decide (a = b)) := by
  show (SeqAt.shaped (tz a) = true ∧ SeqAt.shaped (tz b) = true ∧ Q (PyData.eqv (tz a) (tz b))) = _
  rw [show PyData.eqv (tz a) (tz b) = decide (a = b) from eqvT a b]
  exact propext ⟨fun h => h.2.2, fun h => ⟨shapedT a, shapedT b, h⟩⟩
theorem cmp_tzn {a b : List Int} {Q : Bool → Prop} : cmpW .NotEq (tz a) (tz b) Q = Q (!decide (a = b)) := by
  show (SeqAt.shaped (tz a) = true ∧ SeqAt.shaped (tz b) = true ∧ Q (!PyData.eqv (tz a) (tz b))) = _
  rw [show PyData.eqv (tz a) (tz b) = decide (a = b) from eqvT a b]
  exact propext ⟨fun h => h.2.2, fun h => ⟨shapedT a, shapedT b, h⟩⟩
theorem cmp_tz0 {a : List Int} {Q : Bool → Prop} : cmpW .Eq (tz a) (.tuple []) Q = Q (decide (a = [])) := cmp_tz (b := [])
theorem cmp_tzn0 {a : List Int} {Q : Bool → Prop} : cmpW .NotEq (tz a) (.tuple []) Q = Q (!decide (a = [])) := cmp_tzn (b := [])
theorem enums_map (n : Nat) : ∀ a : List Int, enums n (a.map .int) = (a.zipIdx n).map fun q => .tuple [.int q.2, .int q.1]
  | [] => rfl
  | x :: r => by
    show PyData.tuple [.int n, .int x] :: enums (n + 1) (r.map .int) = _
    rw [enums_map (n + 1) r]
    rfl
end Rc
namespace Rc
open PySem
theorem len_trim {xs : List Int} {d : Nat} (h : cf xs d ≠ 0) (g : ∀ n, d < n → cf xs n = 0) : (trim xs).length = d + 1 := by
  have h1 : d < (trim xs).length := by
    refine Nat.lt_of_not_le fun hl => h ?_
    rw [← cf_trim, cf_ge hl]
  refine Nat.le_antisymm ?_ h1
  refine Nat.le_of_not_lt fun hl => ?_
  have hne : trim xs ≠ [] := fun e => by rw [e] at hl; cases hl
  have e := trim_last xs
  rw [List.getLast?_eq_some_getLast hne] at e
  have : (trim xs).getLast hne = 0 := by
    rw [List.getLast_eq_getElem, ← cf_lt, cf_trim]
    exact g _ (by omega)
  rw [this] at e
  exact e rfl
theorem pn_lead {a : List Int} (h : Pn a) (h0 : a ≠ []) : cf a (a.length - 1) ≠ 0 := by
  have e := trim_last a
  have hl := List.length_pos_iff.mpr h0
  rw [h, List.getLast?_eq_some_getLast h0, List.getLast_eq_getElem] at e
  rw [cf_lt (by omega)]
  exact fun z => e (congrArg some z)
theorem mulF_top : ∀ (a : List Int) {g : Nat → Int} {m : Nat}, a ≠ [] → (∀ n, m < n → g n = 0) → mulF a g (a.length - 1 + m) = cf a (a.length - 1) * g m
  | [], _, _, h, _ => absurd rfl h
  | [x], g, m, _, h => by
    show x * g (1 - 1 + m) + sh 1 (fun _ => 0) (1 - 1 + m) = x * g m
    have : sh 1 (fun _ => (0 : Int)) (1 - 1 + m) = 0 := by
      unfold sh
      split <;> rfl
    rw [this, show 1 - 1 + m = m by omega]
    omega
  | x :: y :: r, g, m, _, h => by
    have ih := mulF_top (y :: r) (by simp) h
    have l1 : (x :: y :: r).length - 1 = (y :: r).length - 1 + 1 := by simp
    show x * g ((x :: y :: r).length - 1 + m) + sh 1 (mulF (y :: r) g) ((x :: y :: r).length - 1 + m) = _
    rw [l1, cf_s, h _ (by omega)]
    unfold sh
    rw [if_pos (by omega), show (y :: r).length - 1 + 1 + m - 1 = (y :: r).length - 1 + m by omega, ih]
    omega
theorem mulF_gt : ∀ (a : List Int) {g : Nat → Int} {m : Nat}, (∀ n, m ≤ n → g n = 0) → ∀ n, a.length + m ≤ n + 1 → mulF a g n = 0
  | [], _, _, _, _, _ => rfl
  | x :: r, g, m, h, n, hn => by
    have hn2 : r.length + 1 + m ≤ n + 1 := hn
    show x * g n + sh 1 (mulF r g) n = 0
    unfold sh
    rw [h n (by omega)]
    split
    · rw [mulF_gt r h (n - 1) (by omega)]
      simp
    · simp
theorem len_mul {a b : List Int} (ha : Pn a) (hb : Pn b) (a0 : a ≠ []) (b0 : b ≠ []) : (trim (mulL a b)).length = a.length + b.length - 1 := by
  have la := List.length_pos_iff.mpr a0
  have lb := List.length_pos_iff.mpr b0
  rw [len_trim (d := a.length - 1 + (b.length - 1))]
  · omega
  · rw [cf_mulL, mulF_top a a0 (fun n hn => cf_ge (by omega))]
    exact Int.mul_ne_zero (pn_lead ha a0) (pn_lead hb b0)
  · intro n hn
    rw [cf_mulL]
    exact mulF_gt a (m := b.length) (fun k hk => cf_ge hk) n (by omega)
theorem len_addL (a b : List Int) : (addL a b).length = max a.length b.length := by
  unfold addL
  rw [List.length_map, List.length_range]
end Rc
namespace Rc
open PySem
theorem bi_list_tz {a : List Int} {Q : Val → Prop} : biW .list [tz a] Q = Q (.own (a.map .int)) := rfl
theorem add_tz {x : List D} {a : List Int} {Q : Val → Prop} : opW .Add (.tuple x) (tz a) Q = (x.length + a.length ≤ 16777216 ∧ Q (.d (.tuple (x ++ a.map .int)))) := by
  show (x.length + (a.map PyData.int).length ≤ 16777216 ∧ Q (.d (.tuple (x ++ a.map .int)))) = _
  rw [List.length_map]
theorem rng'_cons (K m : Nat) : (List.range' K (m + 1)).map (fun (i : Nat) => PyData.int i) = .int K :: (List.range' (K + 1) m).map (fun (i : Nat) => PyData.int i) := by
  rw [List.range'_succ]
  rfl
theorem drop_cons {a : List Int} {K : Nat} (h : K < a.length) : a.drop K = a[K] :: a.drop (K + 1) := List.drop_eq_getElem_cons h
theorem cf_set {gs : List Int} {j : Nat} (h : j < gs.length) (v : Int) (i : Nat) : cf (gs.set j (gs[j] + v)) i = cf gs i + (if i = j then v else 0) := by
  unfold cf
  rw [List.getD_eq_getElem?_getD, List.getD_eq_getElem?_getD, List.getElem?_set]
  by_cases hi : j = i
  · subst hi
    simp [h]
  · rw [if_neg hi, if_neg (fun h => hi h.symm)]
    simp
theorem sh_head (y z : Int) (zs : List Int) (k i : Nat) : sh k (fun n => y * cf (z :: zs) n) i = (if i = k then y * z else 0) + sh (k + 1) (fun n => y * cf zs n) i := by
  unfold sh
  by_cases h1 : i = k
  · subst h1
    rw [if_pos (by omega), if_pos rfl, if_neg (by omega), Nat.sub_self]
    show y * z = y * z + 0
    omega
  · by_cases h2 : k ≤ i
    · rw [if_pos h2, if_neg h1, if_pos (by omega), show i - k = (i - (k + 1)) + 1 by omega]
      show y * cf zs _ = 0 + y * cf zs _
      omega
    · rw [if_neg h2, if_neg h1, if_neg (by omega)]
      rfl
theorem cf_rep0 (N i : Nat) : cf (List.replicate N 0) i = 0 := by
  by_cases hi : i < N
  · rw [cf_lt (by simpa using hi)]
    simp
  · exact cf_ge (by simpa using hi)
end Rc

/-! Values at fractions. -/
namespace Rc
open PySem
def hT (x y : Int) : List Int → Int
  | [] => 0
  | w :: r => hT x y r * x + w * y ^ r.length
def ev (q : Rat) : List Int → Rat
  | [] => 0
  | w :: r => (w : Rat) + q * ev q r
theorem num_eq (q : Rat) : (q.num : Rat) = q * (q.den : Rat) := by
  have h := Rat.num_divInt_den q
  rw [Rat.divInt_eq_div] at h
  have y0 : ((q.den : Int) : Rat) ≠ 0 := by
    intro e
    have := q.den_nz
    exact this (by exact_mod_cast e)
  have := Rat.div_mul_cancel (a := (q.num : Rat)) y0
  rw [h] at this
  exact this.symm
theorem rpow_ne {y : Rat} (h : y ≠ 0) : ∀ n : Nat, y ^ n ≠ 0
  | 0 => by rw [Rat.pow_zero]; decide
  | n + 1 => by
    rw [Rat.pow_succ]
    have := rpow_ne h n
    intro e
    rcases Rat.mul_eq_zero.mp e with g | g
    · exact this g
    · exact h g
theorem hT_ev (q : Rat) : ∀ a : List Int, (hT q.num q.den a : Rat) * (q.den : Rat) = ev q a * (q.den : Rat) ^ a.length
  | [] => by
    show ((0 : Int) : Rat) * _ = 0 * _
    simp
  | w :: r => by
    have ih := hT_ev q r
    show ((hT q.num q.den r * q.num + w * (q.den : Int) ^ r.length : Int) : Rat) * (q.den : Rat) = ((w : Rat) + q * ev q r) * (q.den : Rat) ^ (r.length + 1)
    rw [Rat.intCast_add, Rat.intCast_mul, Rat.intCast_mul, num_eq, Rat.intCast_pow, Rat.intCast_natCast, Rat.pow_succ]
    generalize (hT q.num q.den r : Rat) = t at *
    generalize (q.den : Rat) ^ r.length = z at *
    generalize (q.den : Rat) = y at *
    grind
theorem ev_trimR (q : Rat) : ∀ a : List Int, ev q (trimR a) = ev q a
  | [] => rfl
  | x :: r => by
    have ih := ev_trimR q r
    unfold trimR
    cases e : trimR r with
    | nil =>
      rw [e] at ih
      have ih2 : (0 : Rat) = ev q r := ih
      show ev q (if x = 0 then [] else [x]) = (x : Rat) + q * ev q r
      rw [← ih2]
      by_cases hx : x = 0
      · rw [if_pos hx, hx]
        show (0 : Rat) = ((0 : Int) : Rat) + q * 0
        simp [Rat.add_zero]
      · rw [if_neg hx]
        rfl
    | cons y t =>
      rw [e] at ih
      show (x : Rat) + q * ev q (y :: t) = (x : Rat) + q * ev q r
      rw [ih]
theorem ev_E {q : Rat} {a b : List Int} (h : E a b) : ev q a = ev q b := by
  rw [← ev_trimR q a, ← ev_trimR q b, trimR_ext h]
theorem ev_trim (q : Rat) (a : List Int) : ev q (trim a) = ev q a := ev_E (e_trim a)
theorem ev_add (q : Rat) : ∀ a b : List Int, ev q (addL a b) = ev q a + ev q b
  | [], b => by
    rw [ev_E (b := b) fun n => by rw [cf_addL, cf_nil]; omega]
    show _ = 0 + _
    rw [Rat.zero_add]
  | x :: r, [] => by
    rw [ev_E (b := x :: r) fun n => by rw [cf_addL, cf_nil]; omega]
    show _ = _ + 0
    rw [Rat.add_zero]
  | x :: r, y :: t => by
    rw [ev_E (b := (x + y) :: addL r t) fun n => by
      cases n with
      | zero => rw [cf_addL]; rfl
      | succ n => rw [cf_addL, cf_s, cf_s, cf_s, cf_addL]]
    show ((x + y : Int) : Rat) + q * ev q (addL r t) = ((x : Rat) + q * ev q r) + ((y : Rat) + q * ev q t)
    rw [ev_add q r t, Rat.intCast_add]
    grind
theorem ev_scl (q : Rat) (c : Int) : ∀ a : List Int, ev q (sclL a c) = ev q a * (c : Rat)
  | [] => by
    show (0 : Rat) = 0 * _
    rw [Rat.zero_mul]
  | x :: r => by
    have ih := ev_scl q c r
    show ((x * c : Int) : Rat) + q * ev q (sclL r c) = ((x : Rat) + q * ev q r) * (c : Rat)
    rw [ih, Rat.intCast_mul]
    grind
theorem ev_mul (q : Rat) : ∀ a b : List Int, ev q (mulL a b) = ev q a * ev q b
  | [], b => by
    rw [ev_E (b := []) fun n => by rw [cf_mulL]; rfl]
    show (0 : Rat) = 0 * _
    rw [Rat.zero_mul]
  | x :: r, b => by
    rw [ev_E (b := addL (sclL b x) (0 :: mulL r b)) fun n => by
      rw [cf_mulL, cf_addL, cf_sclL, cf_cons]
      show x * cf b n + sh 1 (mulF r (cf b)) n = _
      rw [sh_congr (cf_mulL r b), Int.mul_comm]
      simp, ev_add, ev_scl]
    show ev q b * (x : Rat) + (((0 : Int) : Rat) + q * ev q (mulL r b)) = ((x : Rat) + q * ev q r) * ev q b
    rw [ev_mul q r b]
    simp
    grind
theorem pow_ne (q : Rat) (n : Nat) : (q.den : Int) ^ n ≠ 0 := by
  have := Int.pow_pos (m := n) (denP q)
  omega
theorem ev_div (q : Rat) (a : List Int) : Rat.divInt (hT q.num q.den a) ((q.den : Int) ^ (a.length - 1)) = ev q a := by
  have h := hT_ev q a
  have y0 : (q.den : Rat) ≠ 0 := by
    intro e
    have := q.den_nz
    exact this (by exact_mod_cast e)
  cases a with
  | nil => exact Rat.zero_divInt _
  | cons w r =>
    rw [Rat.divInt_eq_div, Rat.intCast_pow, Rat.intCast_natCast]
    show _ / (q.den : Rat) ^ (r.length + 1 - 1) = _
    rw [Nat.add_sub_cancel]
    have h2 : (hT q.num q.den (w :: r) : Rat) * (q.den : Rat) = ev q (w :: r) * (q.den : Rat) ^ (r.length + 1) := h
    rw [Rat.pow_succ] at h2
    have z0 : (q.den : Rat) ^ r.length ≠ 0 := rpow_ne y0 _
    generalize (hT q.num q.den (w :: r) : Rat) = t at *
    generalize (q.den : Rat) ^ r.length = z at *
    generalize (q.den : Rat) = y at *
    generalize ev q (w :: r) = e at *
    grind
end Rc
namespace Rc
open PySem
theorem sgn_ite (n : Int) : ((if 0 < n then 1 else 0) - (if n < 0 then 1 else 0) : Int) = n.sign := by
  by_cases h1 : 0 < n
  · rw [Int.sign_eq_one_of_pos h1]
    simp [h1, show ¬ n < 0 by omega]
  · by_cases h2 : n < 0
    · rw [Int.sign_eq_neg_one_of_neg h2]
      simp [h1, h2]
    · rw [show n = 0 by omega]
      decide
theorem bt_pow {s : Nat} {y : Int} (h : Bt s y) : ∀ n : Nat, Bt (s * n + 1) (y ^ n)
  | 0 => by
    rw [Nat.mul_zero, Int.pow_zero]
    exact bt_c (by decide)
  | n + 1 => by
    rw [Int.pow_succ]
    exact (Bt.mul (bt_pow h n) h).mono (by rw [Nat.mul_succ]; omega)
theorem bt_hT {p s : Nat} {x y : Int} (hx : Bt s x) (hy : Bt s y) : ∀ a : List Int, (∀ w ∈ a, Bt p w) → Bt (p + 1 + (s + 1) * a.length) (hT x y a)
  | [], _ => bt0
  | w :: r, h => by
    have ih := bt_hT hx hy r fun z hz => h z (List.mem_cons_of_mem _ hz)
    have h1 := Bt.mul ih hx
    have h2 := Bt.mul (h w (List.mem_cons_self ..)) (bt_pow hy r.length)
    have e : (s + 1) * (r.length + 1) = (s + 1) * r.length + (s + 1) := Nat.mul_succ _ _
    have e2 : (s + 1) * r.length = s * r.length + r.length := Nat.succ_mul _ _
    show Bt (p + 1 + (s + 1) * (r.length + 1)) (hT x y r * x + w * y ^ r.length)
    rw [e]
    exact (Bt.add (h1.mono (show _ ≤ p + 1 + (s + 1) * r.length + s by omega)) (h2.mono (by omega))).mono (by omega)
theorem len_fr {q : Rat} {Q : Int → Prop} : lenW (fr q) Q = Q 2 := rfl
theorem isT_fr {q : Rat} : isT .tuple (fr q) = true := rfl
theorem fr_gcd (q : Rat) : Int.gcd q.num q.den = 1 := q.reduced
theorem ev_den {s : Nat} {q : Rat} (hy : Bt s q.den) (a : List Int) : Bt (s * (a.length - 1) + 1) (ev q a).den := by
  rw [← ev_div, Rat.den_divInt, if_neg (pow_ne q _)]
  exact (bt_pow hy (a.length - 1)).le (Nat.div_le_self _ _)
theorem ev_num {p s : Nat} {q : Rat} (h : Sz s q) {a : List Int} (ha : ∀ w ∈ a, Bt p w) : Bt (p + 1 + (s + 1) * a.length) (ev q a).num := by
  rw [← ev_div, Rat.num_divInt]
  refine bt_div ((bt_hT h.1 h.2 a ha).le ?_)
  rw [Int.natAbs_mul, Int.natAbs_sign_of_ne_zero (pow_ne q _), Nat.one_mul]
  exact Nat.le_refl _
theorem ev_cross (q : Rat) (a : List Int) : (ev q a).num * (q.den : Int) ^ a.length = ((ev q a).den : Int) * (hT q.num q.den a * q.den) := by
  have h := hT_ev q a
  have e := num_eq (ev q a)
  have key : (((ev q a).num * (q.den : Int) ^ a.length : Int) : Rat) = ((((ev q a).den : Int) * (hT q.num q.den a * q.den) : Int) : Rat) := by
    rw [Rat.intCast_mul, Rat.intCast_mul, Rat.intCast_mul, Rat.intCast_pow, Rat.intCast_natCast, Rat.intCast_natCast, h, e]
    generalize (q.den : Rat) ^ a.length = z
    generalize ((ev q a).den : Rat) = d
    grind
  exact Rat.intCast_inj.mp key
theorem sign_y (q : Rat) (t : Int) : (t * (q.den : Int)).sign = t.sign := by
  rw [Int.sign_mul, Int.sign_eq_one_of_pos (denP q), Int.mul_one]
end Rc
namespace Rc
open PySem
theorem trim_rep {a : List Int} (h : Pn a) (h0 : a ≠ []) : ∀ m : Nat, trim (List.replicate m 0 ++ a) = List.replicate m 0 ++ a
  | 0 => h
  | m + 1 => by
    have ih := trim_rep h h0 m
    show trim (0 :: (List.replicate m 0 ++ a)) = 0 :: (List.replicate m 0 ++ a)
    rw [trim_cons, ih]
    cases e : List.replicate m (0 : Int) ++ a with
    | nil =>
      have := (List.append_eq_nil_iff.mp e).2
      exact absurd this h0
    | cons y t => rfl
theorem trim_rep0 (m : Nat) : trim (List.replicate m 0 ++ ([] : List Int)) = [] := by
  rw [List.append_nil]
  exact trim_ext (ys := []) fun n => by rw [cf_rep0]; rfl
theorem eqvTz : ∀ ls : List (List Int), PyData.eqvAll (ls.map tz) (ls.map tz) = true
  | [] => rfl
  | a :: r => by
    have h1 : PyData.eqv (tz a) (tz a) = true := (eqvT a a).trans (decide_eq_true rfl)
    show (PyData.eqv (tz a) (tz a) && PyData.eqvAll (r.map tz) (r.map tz)) = true
    rw [h1, eqvTz r]
    rfl
theorem shapedTz (ls : List (List Int)) : SeqAt.shaped (.list (ls.map tz)) = true := shaped_of (shLst (n := 1) fun x h => by
  obtain ⟨a, _, rfl⟩ := List.mem_map.mp h
  exact shTup (shInts a)) (by decide)
theorem neg_scl (b : List Int) (n : Nat) : cf (b.map (- ·)) n = cf b n * (-1) := by
  rw [← cf_sclL]
  congr 1
  unfold sclL
  exact List.map_congr_left fun x _ => by omega
end Rc
namespace Rc
open PySem
theorem isPolyV_tq {a : List Int} (h : Pn a) : isPolyV (tz a) = true := by
  rw [← h]
  exact isPolyV_tz
end Rc
namespace Rc
open PySem
theorem isN_non : isNone .none = true := rfl
theorem isN_tup {xs : List D} : isNone (.tuple xs) = false := rfl
theorem isN_lst {xs : List D} : isNone (.list xs) = false := rfl
theorem isN_int {i : Int} : isNone (.int i) = false := rfl
theorem isN_str {x : Str} : isNone (.str x) = false := rfl
theorem isN_bl {b : Bool} : isNone (.bool b) = false := rfl
theorem isN_fr {q : Rat} : isNone (fr q) = false := rfl
theorem isN_tz {a : List Int} : isNone (tz a) = false := rfl
end Rc
namespace Rc
open PySem
theorem add_ttz {a b : List Int} {Q : Val → Prop} : opW .Add (tz a) (tz b) Q = (a.length + b.length ≤ 16777216 ∧ Q (.d (tz (a ++ b)))) := by
  show ((a.map PyData.int).length + (b.map PyData.int).length ≤ 16777216 ∧ Q (.d (.tuple (a.map .int ++ b.map .int)))) = _
  rw [List.length_map, List.length_map, ← List.map_append]
  rfl
theorem isT_tz {a : List Int} : isT .tuple (tz a) = true := rfl
theorem sl_tz {a : List Int} {lo hi : Option Int} {Q : Val → Prop} : slW (tz a) lo hi Q = Q (.d (tz (cut a lo hi))) := by
  show Q (.d (.tuple (cut (a.map PyData.int) lo hi))) = _
  rw [cut_map]
  rfl
end Rc
namespace Rc
open PySem
theorem ix_go {xs : List D} {n : Nat} {x : D} {Q : D → Prop} (h : xs[n]? = some x) : (∃ v, L2.atI xs (n : Int) = some v ∧ Q v) = Q x := by
  have e := atI_nat h
  refine propext ⟨fun ⟨v, h1, h2⟩ => ?_, fun q => ⟨x, e, q⟩⟩
  rw [e] at h1
  cases h1
  exact h2
theorem ix_t0 {x0 : D} {xs : List D} {Q : D → Prop} {t : Tok Q} : ixF Q t (.tuple (x0 :: xs)) (.int 0) = Q x0 := ix_go (n := 0) rfl
theorem ix_t1 {x0 x1 : D} {xs : List D} {Q : D → Prop} {t : Tok Q} : ixF Q t (.tuple (x0 :: x1 :: xs)) (.int 1) = Q x1 := ix_go (n := 1) rfl
theorem ix_t2 {x0 x1 x2 : D} {xs : List D} {Q : D → Prop} {t : Tok Q} : ixF Q t (.tuple (x0 :: x1 :: x2 :: xs)) (.int 2) = Q x2 := ix_go (n := 2) rfl
theorem ix_t3 {x0 x1 x2 x3 : D} {xs : List D} {Q : D → Prop} {t : Tok Q} : ixF Q t (.tuple (x0 :: x1 :: x2 :: x3 :: xs)) (.int 3) = Q x3 := ix_go (n := 3) rfl
theorem ix_t4 {x0 x1 x2 x3 x4 : D} {xs : List D} {Q : D → Prop} {t : Tok Q} : ixF Q t (.tuple (x0 :: x1 :: x2 :: x3 :: x4 :: xs)) (.int 4) = Q x4 := ix_go (n := 4) rfl
theorem ix_t5 {x0 x1 x2 x3 x4 x5 : D} {xs : List D} {Q : D → Prop} {t : Tok Q} : ixF Q t (.tuple (x0 :: x1 :: x2 :: x3 :: x4 :: x5 :: xs)) (.int 5) = Q x5 := ix_go (n := 5) rfl
theorem ix_t6 {x0 x1 x2 x3 x4 x5 x6 : D} {xs : List D} {Q : D → Prop} {t : Tok Q} : ixF Q t (.tuple (x0 :: x1 :: x2 :: x3 :: x4 :: x5 :: x6 :: xs)) (.int 6) = Q x6 := ix_go (n := 6) rfl
theorem ix_l0 {x0 : D} {xs : List D} {Q : D → Prop} {t : Tok Q} : ixF Q t (.list (x0 :: xs)) (.int 0) = Q x0 := ix_go (n := 0) rfl
theorem ix_l1 {x0 x1 : D} {xs : List D} {Q : D → Prop} {t : Tok Q} : ixF Q t (.list (x0 :: x1 :: xs)) (.int 1) = Q x1 := ix_go (n := 1) rfl
theorem ix_l2 {x0 x1 x2 : D} {xs : List D} {Q : D → Prop} {t : Tok Q} : ixF Q t (.list (x0 :: x1 :: x2 :: xs)) (.int 2) = Q x2 := ix_go (n := 2) rfl
theorem ix_l3 {x0 x1 x2 x3 : D} {xs : List D} {Q : D → Prop} {t : Tok Q} : ixF Q t (.list (x0 :: x1 :: x2 :: x3 :: xs)) (.int 3) = Q x3 := ix_go (n := 3) rfl
theorem ix_l4 {x0 x1 x2 x3 x4 : D} {xs : List D} {Q : D → Prop} {t : Tok Q} : ixF Q t (.list (x0 :: x1 :: x2 :: x3 :: x4 :: xs)) (.int 4) = Q x4 := ix_go (n := 4) rfl
theorem ix_l5 {x0 x1 x2 x3 x4 x5 : D} {xs : List D} {Q : D → Prop} {t : Tok Q} : ixF Q t (.list (x0 :: x1 :: x2 :: x3 :: x4 :: x5 :: xs)) (.int 5) = Q x5 := ix_go (n := 5) rfl
theorem ix_l6 {x0 x1 x2 x3 x4 x5 x6 : D} {xs : List D} {Q : D → Prop} {t : Tok Q} : ixF Q t (.list (x0 :: x1 :: x2 :: x3 :: x4 :: x5 :: x6 :: xs)) (.int 6) = Q x6 := ix_go (n := 6) rfl
end Rc

/-! The long list, used once: its equations have their names from here on. -/
namespace Rc
open PySem
theorem zAll {P : Prop} (h : P) : P := by
  have h2 : True ∧ P := ⟨True.intro, h⟩
  simp only [↓wE.eq_1, ↓wE.eq_2, ↓wE.eq_3, ↓wE.eq_4, ↓wE.eq_5, ↓wE.eq_6, ↓wE.eq_7, ↓wE.eq_8, ↓wE.eq_9, ↓wE.eq_10, ↓wE.eq_11, ↓wE.eq_12, ↓wE.eq_13, ↓wE.eq_14, ↓wE.eq_15, ↓wE.eq_16, ↓wE.eq_18, ↓wE.eq_19, ↓wE.eq_22, ↓wE.eq_23, ↓wE.eq_24, ↓wE.eq_25, ↓wE.eq_26, ↓wE.eq_27, ↓wE.eq_28, ↓wE.eq_29, ↓wE.eq_30, ↓wE.eq_31, ↓wE.eq_32, ↓wE.eq_34, ↓wE.eq_35, ↓wE.eq_36, ↓wE.eq_37, ↓wE.eq_38, ↓wE.eq_39, ↓wE.eq_40, ↓wE_call, ↓wE_callP, ↓wE_lc, ↓wE_lcg, ↓wE_isv, ↓wE_ix, ↓ix_fr0, ↓ix_fr1, ↓cmp_fr, ↓cmp_frn, ↓cmp_fr0, ↓cmp_tz, ↓cmp_tzn, ↓cmp_tz0, ↓cmp_tzn0, ↓bi_list_tz, ↓add_tz,  ↓len_tz, ↓len_fr, ↓isT_fr, items_tz, ↓cmp_bb, ↓cmp_bbn, ↓wS_whl, ↓wS_for, ↓wS_forP, ↓wS_asg, ↓wS_par, ↓wS_setIx, ↓wS_app, ↓tgW_one, ↓tgW_tup, pvF_eq, ↓wS.eq_1, ↓wS.eq_2, ↓wS.eq_3, ↓wS.eq_5, ↓wS.eq_7, ↓wS.eq_10, ↓wS.eq_11, ↓wS.eq_12, ↓wS.eq_13, ↓wS.eq_14, ↓wS.eq_15, ↓wS.eq_16, ↓wS.eq_17, ↓wS.eq_20, ↓wS.eq_21, ↓wS.eq_22, ↓wS.eq_23, ↓wS.eq_24, ↓wS.eq_25, ↓wS.eq_26, ↓wS.eq_27, ↓wS.eq_28, ↓wS.eq_29, ↓wS.eq_30, ↓augW.eq_1, ↓augW.eq_2, ↓augW.eq_3, ↓augW.eq_4, ↓inW.eq_1, ↓inW.eq_2, ↓inW.eq_3, ↓zipW.eq_1, ↓zipW.eq_2, ↓cntW.eq_1, ↓dspW.eq_1, ↓opW.eq_1, ↓opW.eq_2, ↓opW.eq_3, ↓opW.eq_4, ↓opW.eq_5, ↓opW.eq_6, ↓opW.eq_7, ↓opW.eq_8, ↓opW.eq_9, ↓opW.eq_10, ↓opW.eq_11, ↓opW.eq_12, ↓opW.eq_13, ↓opW.eq_14, ↓cmpW.eq_1, ↓cmpW.eq_2, ↓cmpW.eq_5, ↓cmpW.eq_6, ↓cmpW.eq_7, ↓cmpW.eq_8, ↓cmpW.eq_9, ↓cmpW.eq_10, ↓cmpW.eq_11, ↓cmpW.eq_12, ↓cmp_ll, ↓cmp_lln, ↓cmp_tt, ↓cmp_ttn, ↓biW.eq_1, ↓biW.eq_2, ↓biW.eq_3, ↓biW.eq_4, ↓biW.eq_5, ↓biW.eq_6, ↓biW.eq_7, ↓biW.eq_8, ↓biW.eq_9, ↓biW.eq_10, ↓biW.eq_11, ↓biW.eq_12, ↓biW.eq_13, ↓biW.eq_14, ↓biW.eq_15, ↓biW.eq_16, ↓biW.eq_17, ↓lenW.eq_1, ↓lenW.eq_2, ↓slW.eq_1, ↓slW.eq_2, ↓revW.eq_1, ↓revW.eq_2, ↓pkW_var, ↓ptW_nil, ↓ptK_i, ↓pkW_cst, ↓pkW_tup, ↓pkW_lst, ↓pkW_bin, ↓pkW_neg, ↓pkW_ix, ↓pkW_sl, ↓pkW_rev, ↓pkW_call, ↓pkW_callP, ↓pkW_bi, ↓pkW_len, ↓pkW_lc, ↓pkW_ite, ↓pkW_gc, ↓pkW_mov, ↓pkW_dsp, ↓pkW_bone, ↓pkW_cmp, ↓pkW_cnt, ↓ptW_cst, ↓ptW_tup, ↓ptW_lst, ↓ptW_bin, ↓ptW_neg, ↓ptW_ix, ↓ptW_sl, ↓ptW_rev, ↓ptW_call, ↓ptW_callP, ↓ptW_bi, ↓ptW_len, ↓ptW_lc, ↓ptW_ite, ↓ptW_gc, ↓ptW_mov, ↓ptW_dsp, ↓ptW_bone, ↓ptW_cmp, ↓ptW_cnt, ↓ptW_var, ↓peek, ↓ownAt, ↓kD.eq_1, ↓kD.eq_2, ↓kM.eq_1, ↓kB.eq_1, ↓kV.eq_1, ↓kV.eq_2, ↓setW, ↓rngW1.eq_1, ↓rngW2.eq_1, ↓rngWd.eq_1, isVar, isNil, isT, gv, pv, setAll, ev0, items.eq_1, items.eq_2, tgs, wipeE, blind_cons, blind_nil, bl1, runB, List.map_cons, List.map_nil, List.replicate, List.cons_append, List.nil_append, if_true, if_false, ite_true, ite_false, reduceCtorEq, Bool.true_and, Bool.and_true, Bool.not_true, Bool.not_false, Bool.false_eq_true, ↓reduceIte, Nat.reduceSub, Nat.reduceAdd, List.length_cons, List.length_nil, decide_eq_true_eq, Bool.not_eq_true', decide_eq_false_iff_not, Bool.and_false, Bool.false_and, true_and, and_true, Nat.sub_self, Nat.succ_eq_add_one, flat, Nat.reduceLeDiff, Int.reduceLE, Int.reduceLT, Int.reduceEq, ne_eq, not_false_eq_true, s10, la_2, la_3, la_4, la_5, la_6, la_7, la_8, la_9, la_10, la_11, la_12, la_13, la_14, la_15, la_16, la_18, la_19, la_20, la_21, la_24, la_25, la_28, la_30, la_35, la_36, la_39, la_40, la_41, la_44, la_45, la_49, la_50, la_52, la_54, la_57, la_63, la_64, la_65, la_72, la_78, la_81, la_90, la_100, la_121, la_123, la_125, la_126, la_144, la_162, la_168, la_176, la_196, la_200, la_216, la_240, la_360, la_369, la_400, la_402, la_441, la_540, la_550, la_900, la_907, la_997, la_1009, la_1100, la_1152, la_1440, la_1764, la_2001, la_2003, la_2200, la_3150, la_4099, la_16807, la_22500, la_24200, la_72600, Nat.reduceLT, ↓ix_t0, ↓ix_t1, ↓ix_t2, ↓ix_t3, ↓ix_t4, ↓ix_t5, ↓ix_t6, ↓ix_l0, ↓ix_l1, ↓ix_l2, ↓ix_l3, ↓ix_l4, ↓ix_l5, ↓ix_l6, ↓add_ttz, ↓isT_tz, ↓sl_tz, isN_non, isN_tup, isN_lst, isN_int, isN_str, isN_bl, isN_fr, isN_tz, ↓hS.eq_1, ↓hS.eq_2, ↓hS.eq_3, ↓hS.eq_4, hE, hB, ↓hide.eq_1, ↓hide.eq_2, isS, Nat.reduceBEq, Bool.or_true, Bool.or_false, Bool.true_or, Bool.false_or, beq_self_eq_true, not_true_eq_false, Int.cast_ofNat_Int] at h2
  exact h2
end Rc

namespace K20
open PySem PySem.Spec PyProof.Rows L2 Rc
def b_is_whole : IS :=
  (.seq (.ret (.band (.isi .int (.var 0)) (.bone (.bnot (.isi .bool (.var 0)))))) <|
  .nil)
abbrev f_is_whole : FnI := ⟨"is_whole", ["thing"], ["thing"], 1, 1, b_is_whole, none⟩

def c_divisor_1 : IE :=
  (.cmp .Gt (.var 1) (.cst (.int 0)))
def b_divisor_2 : IS :=
  (.seq (.par 0 1 (.var 1) (.bin .Mod (.var 0) (.var 1))) <|
  .nil)
def b_divisor_3 : IS :=
  (.seq (.ret (.mov 0)) <|
  .nil)
def b_divisor : IS :=
  (.seq (.asg 0 (.bi .abs (.cons (.var 0) .nil))) <|
  (.seq (.asg 1 (.bi .abs (.cons (.var 1) .nil))) <|
  (.seq (.whl c_divisor_1 b_divisor_2) <|
  b_divisor_3)))
abbrev f_divisor : FnI := ⟨"divisor", ["one", "other"], ["one", "other"], 2, 2, b_divisor, none⟩

def b_divisor_of_1 : IS :=
  (.seq (.asg 1 (.call 1 (.cons (.var 1) (.cons (.var 2) .nil)))) <|
  .nil)
def b_divisor_of_2 : IS :=
  (.seq (.ret (.mov 1)) <|
  .nil)
def b_divisor_of : IS :=
  (.seq (.asg 1 (.cst (.int 0))) <|
  (.seq (.forr (.one 2) (.itv (.var 0)) b_divisor_of_1) <|
  b_divisor_of_2))
abbrev f_divisor_of : FnI := ⟨"divisor_of", ["some"], ["some", "found", "one"], 1, 3, b_divisor_of, none⟩

def b_is_fraction : IS :=
  (.seq (.ite (.bor (.bnot (.isi .tuple (.var 0))) (.bone (.cmp .NotEq (.len (.var 0)) (.cst (.int 2)))))
    (.seq (.ret (.cst (.bool false))) <|
    .nil)
    .nil) <|
  (.seq (.ite (.bor (.bnot (.call 0 (.cons (.ix (.var 0) (.cst (.int 0))) .nil))) (.bone (.bnot (.call 0 (.cons (.ix (.var 0) (.cst (.int 1))) .nil)))))
    (.seq (.ret (.cst (.bool false))) <|
    .nil)
    .nil) <|
  (.seq (.ret (.band (.cmp .Gt (.ix (.var 0) (.cst (.int 1))) (.cst (.int 0))) (.bone (.cmp .Eq (.call 1 (.cons (.ix (.var 0) (.cst (.int 0))) (.cons (.ix (.var 0) (.cst (.int 1))) .nil))) (.cst (.int 1)))))) <|
  .nil)))
abbrev f_is_fraction : FnI := ⟨"is_fraction", ["thing"], ["thing"], 1, 1, b_is_fraction, none⟩

def b_fraction_1 : IS :=
  (.seq (.ret (.tup (.cons (.bin .FloorDiv (.var 0) (.var 2)) (.cons (.bin .FloorDiv (.var 1) (.var 2)) .nil)))) <|
  .nil)
def b_fraction : IS :=
  (.seq (.ite (.cmp .Eq (.var 1) (.cst (.int 0)))
    (.seq (.raise 1) <|
    .nil)
    .nil) <|
  (.seq (.asg 2 (.call 1 (.cons (.var 0) (.cons (.var 1) .nil)))) <|
  (.seq (.ite (.cmp .Lt (.var 1) (.cst (.int 0)))
    (.seq (.asg 2 (.bin .Sub (.cst (.int 0)) (.var 2))) <|
    .nil)
    .nil) <|
  b_fraction_1)))
abbrev f_fraction : FnI := ⟨"fraction", ["top", "bottom"], ["top", "bottom", "shared_part"], 2, 3, b_fraction, none⟩

def b_plus : IS :=
  (.seq (.ret (.call 4 (.cons (.bin .Add (.bin .Mult (.ix (.var 0) (.cst (.int 0))) (.ix (.var 1) (.cst (.int 1)))) (.bin .Mult (.ix (.var 1) (.cst (.int 0))) (.ix (.var 0) (.cst (.int 1))))) (.cons (.bin .Mult (.ix (.var 0) (.cst (.int 1))) (.ix (.var 1) (.cst (.int 1)))) .nil)))) <|
  .nil)
abbrev f_plus : FnI := ⟨"plus", ["one", "other"], ["one", "other"], 2, 2, b_plus, none⟩

def b_less : IS :=
  (.seq (.ret (.cmp .Lt (.bin .Mult (.ix (.var 0) (.cst (.int 0))) (.ix (.var 1) (.cst (.int 1)))) (.bin .Mult (.ix (.var 1) (.cst (.int 0))) (.ix (.var 0) (.cst (.int 1)))))) <|
  .nil)
abbrev f_less : FnI := ⟨"less", ["one", "other"], ["one", "other"], 2, 2, b_less, none⟩

def e_is_poly_1 : IE :=
  (.call 0 (.cons (.var 1) .nil))
def b_is_poly : IS :=
  (.seq (.ite (.bor (.bnot (.isi .tuple (.var 0))) (.bone (.bnot (.bi .all (.cons (.lc (.one 1) (.itv (.var 0)) .nil e_is_poly_1) .nil)))))
    (.seq (.ret (.cst (.bool false))) <|
    .nil)
    .nil) <|
  (.seq (.ret (.bor (.cmp .Eq (.var 0) (.tup .nil)) (.bone (.cmp .NotEq (.ix (.var 0) (.neg (.cst (.int 1)))) (.cst (.int 0)))))) <|
  .nil))
abbrev f_is_poly : FnI := ⟨"is_poly", ["thing"], ["thing", "weight"], 1, 2, b_is_poly, none⟩

def c_poly_1 : IE :=
  (.band (.cmp .Gt (.var 1) (.cst (.int 0))) (.bone (.cmp .Eq (.ix (.var 0) (.bin .Sub (.var 1) (.cst (.int 1)))) (.cst (.int 0)))))
def b_poly_2 : IS :=
  (.seq (.asg 1 (.bin .Sub (.var 1) (.cst (.int 1)))) <|
  .nil)
def b_poly_3 : IS :=
  (.seq (.ret (.bi .tuple (.cons (.sl (.var 0) .nil (.var 1)) .nil))) <|
  .nil)
def b_poly : IS :=
  (.seq (.asg 1 (.len (.var 0))) <|
  (.seq (.whl c_poly_1 b_poly_2) <|
  b_poly_3))
abbrev f_poly : FnI := ⟨"poly", ["weights"], ["weights", "many"], 1, 2, b_poly, none⟩

def b_degree : IS :=
  (.seq (.ret (.bin .Sub (.len (.var 0)) (.cst (.int 1)))) <|
  .nil)
abbrev f_degree : FnI := ⟨"degree", ["one"], ["one"], 1, 1, b_degree, none⟩

def b_weight_of : IS :=
  (.seq (.ite (.cmp .Lt (.var 1) (.len (.var 0)))
    (.seq (.ret (.ix (.var 0) (.var 1))) <|
    .nil)
    .nil) <|
  (.seq (.ret (.cst (.int 0))) <|
  .nil))
abbrev f_weight_of : FnI := ⟨"weight_of", ["one", "place"], ["one", "place"], 2, 2, b_weight_of, none⟩

def e_p_plus_1 : IE :=
  (.bin .Add (.call 10 (.cons (.var 0) (.cons (.var 3) .nil))) (.call 10 (.cons (.var 1) (.cons (.var 3) .nil))))
def b_p_plus : IS :=
  (.seq (.asg 2 (.bi .max (.cons (.len (.var 0)) (.cons (.len (.var 1)) .nil)))) <|
  (.seq (.ret (.call 8 (.cons (.lc (.one 3) (.rng1 (.var 2)) .nil e_p_plus_1) .nil))) <|
  .nil))
abbrev f_p_plus : FnI := ⟨"p_plus", ["one", "other"], ["one", "other", "many", "k"], 2, 4, b_p_plus, none⟩

def e_scaled_1 : IE :=
  (.bin .Mult (.var 2) (.var 1))
def b_scaled : IS :=
  (.seq (.ret (.call 8 (.cons (.lc (.one 2) (.itv (.var 0)) .nil e_scaled_1) .nil))) <|
  .nil)
abbrev f_scaled : FnI := ⟨"scaled", ["one", "factor"], ["one", "factor", "weight"], 2, 3, b_scaled, none⟩

def b_p_minus : IS :=
  (.seq (.ret (.call 11 (.cons (.var 0) (.cons (.call 12 (.cons (.var 1) (.cons (.neg (.cst (.int 1))) .nil))) .nil)))) <|
  .nil)
abbrev f_p_minus : FnI := ⟨"p_minus", ["one", "other"], ["one", "other"], 2, 2, b_p_minus, none⟩

def b_p_times_1 : IS :=
  (.seq (.setIx 2 (.bin .Add (.var 3) (.var 5)) (.bin .Add (.ix (.var 2) (.bin .Add (.var 3) (.var 5))) (.bin .Mult (.var 4) (.var 6)))) <|
  .nil)
def b_p_times_2 : IS :=
  (.seq (.forr (.tup [5, 6]) (.enm (.var 1)) b_p_times_1) <|
  .nil)
def b_p_times_3 : IS :=
  (.seq (.ret (.call 8 (.cons (.var 2) .nil))) <|
  .nil)
def b_p_times : IS :=
  (.seq (.asg 2 (.bin .Mult (.lst (.cons (.cst (.int 0)) .nil)) (.bin .Add (.len (.var 0)) (.len (.var 1))))) <|
  (.seq (.forr (.tup [3, 4]) (.enm (.var 0)) b_p_times_2) <|
  b_p_times_3))
abbrev f_p_times : FnI := ⟨"p_times", ["one", "other"], ["one", "other", "found", "k", "weight", "j", "part"], 2, 7, b_p_times, none⟩

def b_raised : IS :=
  (.seq (.ite (.cmp .Eq (.var 0) (.tup .nil))
    (.seq (.ret (.tup .nil)) <|
    .nil)
    .nil) <|
  (.seq (.ret (.bin .Add (.bin .Mult (.tup (.cons (.cst (.int 0)) .nil)) (.var 1)) (.var 0))) <|
  .nil))
abbrev f_raised : FnI := ⟨"raised", ["one", "many"], ["one", "many"], 2, 2, b_raised, none⟩

def e_derived_1 : IE :=
  (.bin .Mult (.var 1) (.ix (.var 0) (.var 1)))
def b_derived : IS :=
  (.seq (.ret (.call 8 (.cons (.lc (.one 1) (.rng2 (.cst (.int 1)) (.len (.var 0))) .nil e_derived_1) .nil))) <|
  .nil)
abbrev f_derived : FnI := ⟨"derived", ["one"], ["one", "k"], 1, 2, b_derived, none⟩

def b_changes_1 : IS :=
  (.seq (.ite (.cmp .NotEq (.var 3) (.cst (.int 0)))
    (.seq (.asg 2 (.var 3)) <|
    .nil)
    .nil) <|
  .nil)
def b_changes_2 : IS :=
  (.seq (.ite (.cmp .Lt (.bin .Mult (.var 3) (.var 2)) (.cst (.int 0)))
    (.seq (.asg 1 (.bin .Add (.var 1) (.cst (.int 1)))) <|
    .nil)
    .nil) <|
  b_changes_1)
def b_changes_3 : IS :=
  (.seq (.ret (.mov 1)) <|
  .nil)
def b_changes : IS :=
  (.seq (.asg 1 (.cst (.int 0))) <|
  (.seq (.asg 2 (.cst (.int 0))) <|
  (.seq (.forr (.one 3) (.itv (.var 0)) b_changes_2) <|
  b_changes_3)))
abbrev f_changes : FnI := ⟨"changes", ["p"], ["p", "many", "last", "weight"], 1, 4, b_changes, none⟩

def b_pushed_1 : IS :=
  (.seq (.setIx 2 (.var 4) (.bin .Add (.ix (.var 2) (.var 4)) (.bin .Mult (.var 1) (.ix (.var 2) (.bin .Add (.var 4) (.cst (.int 1))))))) <|
  .nil)
def b_pushed_2 : IS :=
  (.seq (.forr (.one 4) (.rngd (.bin .Sub (.len (.var 2)) (.cst (.int 2))) (.bin .Sub (.var 3) (.cst (.int 1)))) b_pushed_1) <|
  .nil)
def b_pushed_3 : IS :=
  (.seq (.ret (.mov 2)) <|
  .nil)
def b_pushed : IS :=
  (.seq (.asg 2 (.bi .list (.cons (.var 0) .nil))) <|
  (.seq (.forr (.one 3) (.rng1 (.len (.var 2))) b_pushed_2) <|
  b_pushed_3))
abbrev f_pushed : FnI := ⟨"pushed", ["weights", "by"], ["weights", "by", "found", "k", "j"], 2, 5, b_pushed, none⟩

def b_spread_1 : IS :=
  (.seq (.app 2 (.bin .Mult (.var 4) (.var 3))) <|
  (.seq (.asg 3 (.bin .Mult (.var 3) (.var 1))) <|
  .nil))
def b_spread_2 : IS :=
  (.seq (.ret (.rev (.var 2))) <|
  .nil)
def b_spread : IS :=
  (.seq (.asg 2 (.lst .nil)) <|
  (.seq (.asg 3 (.cst (.int 1))) <|
  (.seq (.forr (.one 4) (.rvd (.var 0)) b_spread_1) <|
  b_spread_2)))
abbrev f_spread : FnI := ⟨"spread", ["p", "bottom"], ["p", "bottom", "found", "share", "weight"], 2, 5, b_spread, none⟩

def b_stretched_1 : IS :=
  (.seq (.app 2 (.bin .Mult (.var 4) (.var 3))) <|
  (.seq (.asg 3 (.bin .Mult (.var 3) (.var 1))) <|
  .nil))
def b_stretched_2 : IS :=
  (.seq (.ret (.mov 2)) <|
  .nil)
def b_stretched : IS :=
  (.seq (.asg 2 (.lst .nil)) <|
  (.seq (.asg 3 (.cst (.int 1))) <|
  (.seq (.forr (.one 4) (.itv (.var 0)) b_stretched_1) <|
  b_stretched_2)))
abbrev f_stretched : FnI := ⟨"stretched", ["weights", "by"], ["weights", "by", "found", "share", "weight"], 2, 5, b_stretched, none⟩

def b_above : IS :=
  (.seq (.ret (.call 8 (.cons (.call 20 (.cons (.call 18 (.cons (.call 19 (.cons (.var 0) (.cons (.ix (.var 1) (.cst (.int 1))) .nil))) (.cons (.ix (.var 1) (.cst (.int 0))) .nil))) (.cons (.ix (.var 1) (.cst (.int 1))) .nil))) .nil))) <|
  .nil)
abbrev f_above : FnI := ⟨"above", ["p", "c"], ["p", "c"], 2, 2, b_above, none⟩

def b_below : IS :=
  (.seq (.ret (.call 8 (.cons (.call 20 (.cons (.call 18 (.cons (.call 19 (.cons (.var 0) (.cons (.ix (.var 1) (.cst (.int 1))) .nil))) (.cons (.ix (.var 1) (.cst (.int 0))) .nil))) (.cons (.neg (.ix (.var 1) (.cst (.int 1)))) .nil))) .nil))) <|
  .nil)
abbrev f_below : FnI := ⟨"below", ["p", "c"], ["p", "c"], 2, 2, b_below, none⟩

def b_between : IS :=
  (.seq (.asg 3 (.bin .Mult (.bin .FloorDiv (.ix (.var 1) (.cst (.int 1))) (.call 1 (.cons (.ix (.var 1) (.cst (.int 1))) (.cons (.ix (.var 2) (.cst (.int 1))) .nil)))) (.ix (.var 2) (.cst (.int 1))))) <|
  (.seq (.asg 4 (.bin .Mult (.ix (.var 1) (.cst (.int 0))) (.bin .FloorDiv (.var 3) (.ix (.var 1) (.cst (.int 1)))))) <|
  (.seq (.asg 5 (.bin .Sub (.bin .Mult (.ix (.var 2) (.cst (.int 0))) (.bin .FloorDiv (.var 3) (.ix (.var 2) (.cst (.int 1))))) (.var 4))) <|
  (.seq (.asg 6 (.call 20 (.cons (.call 18 (.cons (.call 19 (.cons (.var 0) (.cons (.var 3) .nil))) (.cons (.var 4) .nil))) (.cons (.var 5) .nil)))) <|
  (.seq (.ret (.call 8 (.cons (.rev (.call 18 (.cons (.rev (.var 6)) (.cons (.cst (.int 1)) .nil)))) .nil))) <|
  .nil)))))
abbrev f_between : FnI := ⟨"between", ["p", "lo", "hi"], ["p", "lo", "hi", "bottom", "first", "wide", "weights"], 3, 7, b_between, none⟩

def b_content : IS :=
  (.seq (.ret (.call 2 (.cons (.var 0) .nil))) <|
  .nil)
abbrev f_content : FnI := ⟨"content", ["one"], ["one"], 1, 1, b_content, none⟩

def e_divided_1 : IE :=
  (.bin .FloorDiv (.var 2) (.var 1))
def b_divided : IS :=
  (.seq (.ret (.bi .tuple (.cons (.lc (.one 2) (.itv (.var 0)) .nil e_divided_1) .nil))) <|
  .nil)
abbrev f_divided : FnI := ⟨"divided", ["one", "number"], ["one", "number", "weight"], 2, 3, b_divided, none⟩

def b_plain : IS :=
  (.seq (.ite (.cmp .Eq (.var 0) (.tup .nil))
    (.seq (.ret (.tup .nil)) <|
    .nil)
    .nil) <|
  (.seq (.ite (.cmp .Lt (.ix (.var 0) (.neg (.cst (.int 1)))) (.cst (.int 0)))
    (.seq (.ret (.call 25 (.cons (.var 0) (.cons (.bin .Sub (.cst (.int 0)) (.call 24 (.cons (.var 0) .nil))) .nil)))) <|
    .nil)
    .nil) <|
  (.seq (.ret (.call 25 (.cons (.var 0) (.cons (.call 24 (.cons (.var 0) .nil)) .nil)))) <|
  .nil)))
abbrev f_plain : FnI := ⟨"plain", ["one"], ["one"], 1, 1, b_plain, none⟩

def b_least_parted : IS :=
  (.seq (.asg 3 (.call 2 (.cons (.lst (.cons (.var 0) (.cons (.call 24 (.cons (.var 1) .nil)) (.cons (.call 24 (.cons (.var 2) .nil)) .nil)))) .nil))) <|
  (.seq (.ret (.tup (.cons (.bin .FloorDiv (.var 0) (.var 3)) (.cons (.call 25 (.cons (.var 1) (.cons (.var 3) .nil))) (.cons (.call 25 (.cons (.var 2) (.cons (.var 3) .nil))) .nil))))) <|
  .nil))
abbrev f_least_parted : FnI := ⟨"least_parted", ["scale", "quotient", "rest"], ["scale", "quotient", "rest", "shared_part"], 3, 4, b_least_parted, none⟩

def c_parted_1 : IE :=
  (.cmp .GtE (.call 9 (.cons (.var 4) .nil)) (.call 9 (.cons (.var 1) .nil)))
def b_parted_2 : IS :=
  (.seq (.asg 5 (.call 1 (.cons (.ix (.var 4) (.neg (.cst (.int 1)))) (.cons (.ix (.var 1) (.neg (.cst (.int 1)))) .nil)))) <|
  (.seq (.asg 6 (.bi .abs (.cons (.bin .FloorDiv (.ix (.var 1) (.neg (.cst (.int 1)))) (.var 5)) .nil))) <|
  (.seq (.asg 7 (.call 15 (.cons (.call 8 (.cons (.lst (.cons (.bin .FloorDiv (.bin .Mult (.var 6) (.ix (.var 4) (.neg (.cst (.int 1))))) (.ix (.var 1) (.neg (.cst (.int 1))))) .nil)) .nil)) (.cons (.bin .Sub (.call 9 (.cons (.var 4) .nil)) (.call 9 (.cons (.var 1) .nil))) .nil)))) <|
  (.seq (.asg 2 (.bin .Mult (.var 2) (.var 6))) <|
  (.seq (.asg 3 (.call 11 (.cons (.call 12 (.cons (.var 3) (.cons (.var 6) .nil))) (.cons (.var 7) .nil)))) <|
  (.seq (.asg 4 (.call 13 (.cons (.call 12 (.cons (.var 4) (.cons (.var 6) .nil))) (.cons (.call 14 (.cons (.var 7) (.cons (.var 1) .nil))) .nil)))) <|
  .nil))))))
def b_parted_3 : IS :=
  (.seq (.ret (.call 27 (.cons (.var 2) (.cons (.var 3) (.cons (.var 4) .nil))))) <|
  .nil)
def b_parted : IS :=
  (.seq (.ite (.cmp .Eq (.var 1) (.tup .nil))
    (.seq (.raise 1) <|
    .nil)
    .nil) <|
  (.seq (.asg 2 (.cst (.int 1))) <|
  (.seq (.asg 3 (.tup .nil)) <|
  (.seq (.asg 4 (.var 0)) <|
  (.seq (.whl c_parted_1 b_parted_2) <|
  b_parted_3)))))
abbrev f_parted : FnI := ⟨"parted", ["one", "other"], ["one", "other", "scale", "quotient", "rest", "shared_part", "factor", "step"], 2, 8, b_parted, none⟩

def e_lightened_1 : IE :=
  (.call 24 (.cons (.var 2) .nil))
def b_lightened : IS :=
  (.seq (.asg 1 (.call 2 (.cons (.lc (.one 2) (.itv (.var 0)) .nil e_lightened_1) .nil))) <|
  (.seq (.ite (.cmp .Eq (.var 1) (.cst (.int 0)))
    (.seq (.ret (.mov 0)) <|
    .nil)
    .nil) <|
  (.seq (.ret (.tup (.cons (.call 25 (.cons (.ix (.var 0) (.cst (.int 0))) (.cons (.var 1) .nil))) (.cons (.call 25 (.cons (.ix (.var 0) (.cst (.int 1))) (.cons (.var 1) .nil))) (.cons (.call 25 (.cons (.ix (.var 0) (.cst (.int 2))) (.cons (.var 1) .nil))) .nil))))) <|
  .nil)))
abbrev f_lightened : FnI := ⟨"lightened", ["row"], ["row", "shared_part", "one"], 1, 3, b_lightened, none⟩

def c_shared_rows_1 : IE :=
  (.cmp .NotEq (.ix (.var 3) (.cst (.int 0))) (.tup .nil))
def b_shared_rows_2 : IS :=
  (.seq (.asgT [4, 5, 6] (.call 28 (.cons (.ix (.var 2) (.cst (.int 0))) (.cons (.ix (.var 3) (.cst (.int 0))) .nil)))) <|
  (.seq (.asg 7 (.call 13 (.cons (.call 12 (.cons (.ix (.var 2) (.cst (.int 1))) (.cons (.var 4) .nil))) (.cons (.call 14 (.cons (.var 5) (.cons (.ix (.var 3) (.cst (.int 1))) .nil))) .nil)))) <|
  (.seq (.asg 8 (.call 13 (.cons (.call 12 (.cons (.ix (.var 2) (.cst (.int 2))) (.cons (.var 4) .nil))) (.cons (.call 14 (.cons (.var 5) (.cons (.ix (.var 3) (.cst (.int 2))) .nil))) .nil)))) <|
  (.seq (.par 2 3 (.var 3) (.call 29 (.cons (.tup (.cons (.var 6) (.cons (.var 7) (.cons (.var 8) .nil)))) .nil))) <|
  .nil))))
def b_shared_rows_3 : IS :=
  (.seq (.ret (.mov 2)) <|
  .nil)
def b_shared_rows : IS :=
  (.seq (.asg 2 (.tup (.cons (.var 0) (.cons (.tup (.cons (.cst (.int 1)) .nil)) (.cons (.tup .nil) .nil))))) <|
  (.seq (.asg 3 (.tup (.cons (.var 1) (.cons (.tup .nil) (.cons (.tup (.cons (.cst (.int 1)) .nil)) .nil))))) <|
  (.seq (.whl c_shared_rows_1 b_shared_rows_2) <|
  b_shared_rows_3)))
abbrev f_shared_rows : FnI := ⟨"shared_rows", ["one", "other"], ["one", "other", "first_row", "second_row", "scale", "quotient", "rest", "left", "right"], 2, 9, b_shared_rows, none⟩

def b_shared : IS :=
  (.seq (.ret (.call 26 (.cons (.ix (.call 30 (.cons (.var 0) (.cons (.var 1) .nil))) (.cst (.int 0))) .nil))) <|
  .nil)
abbrev f_shared : FnI := ⟨"shared", ["one", "other"], ["one", "other"], 2, 2, b_shared, none⟩

def b_is_free : IS :=
  (.seq (.ret (.band (.cmp .NotEq (.var 0) (.tup .nil)) (.bone (.cmp .Lt (.call 9 (.cons (.call 31 (.cons (.var 0) (.cons (.call 16 (.cons (.var 0) .nil)) .nil))) .nil)) (.cst (.int 1)))))) <|
  .nil)
abbrev f_is_free : FnI := ⟨"is_free", ["one"], ["one"], 1, 1, b_is_free, none⟩

def e_rise_1 : IE :=
  (.call 3 (.cons (.var 1) .nil))
def b_rise_2 : IS :=
  (.seq (.ite (.bnot (.call 6 (.cons (.ix (.var 0) (.bin .Sub (.var 2) (.cst (.int 1)))) (.cons (.ix (.var 0) (.var 2)) .nil))))
    (.seq (.ret (.cst (.bool false))) <|
    .nil)
    .nil) <|
  .nil)
def b_rise_3 : IS :=
  (.seq (.ret (.cst (.bool true))) <|
  .nil)
def b_rise : IS :=
  (.seq (.ite (.bor (.bnot (.isi .list (.var 0))) (.bone (.bnot (.bi .all (.cons (.lc (.one 1) (.itv (.var 0)) .nil e_rise_1) .nil)))))
    (.seq (.ret (.cst (.bool false))) <|
    .nil)
    .nil) <|
  (.seq (.forr (.one 2) (.rng2 (.cst (.int 1)) (.len (.var 0))) b_rise_2) <|
  b_rise_3))
abbrev f_rise : FnI := ⟨"rise", ["cuts"], ["cuts", "cut", "k"], 1, 3, b_rise, none⟩

def b_roots_right_1 : IS :=
  (.seq (.ite (.cmp .Gt (.call 17 (.cons (.call 23 (.cons (.var 0) (.cons (.ix (.var 1) (.bin .Sub (.var 2) (.cst (.int 1)))) (.cons (.ix (.var 1) (.var 2)) .nil)))) .nil)) (.cst (.int 1)))
    (.seq (.ret (.cst (.bool false))) <|
    .nil)
    .nil) <|
  .nil)
def b_roots_right_2 : IS :=
  (.seq (.ret (.cst (.bool true))) <|
  .nil)
def b_roots_right : IS :=
  (.seq (.ite (.bor (.bnot (.call 7 (.cons (.var 0) .nil))) (.bor (.cmp .Eq (.var 0) (.tup .nil)) (.bor (.bnot (.call 33 (.cons (.var 1) .nil))) (.bone (.cmp .Eq (.var 1) (.lst .nil))))))
    (.seq (.ret (.cst (.bool false))) <|
    .nil)
    .nil) <|
  (.seq (.ite (.bor (.cmp .NotEq (.call 17 (.cons (.call 22 (.cons (.var 0) (.cons (.ix (.var 1) (.cst (.int 0))) .nil))) .nil)) (.cst (.int 0))) (.bone (.cmp .NotEq (.call 17 (.cons (.call 21 (.cons (.var 0) (.cons (.ix (.var 1) (.neg (.cst (.int 1)))) .nil))) .nil)) (.cst (.int 0)))))
    (.seq (.ret (.cst (.bool false))) <|
    .nil)
    .nil) <|
  (.seq (.forr (.one 2) (.rng2 (.cst (.int 1)) (.len (.var 1))) b_roots_right_1) <|
  b_roots_right_2)))
abbrev f_roots_right : FnI := ⟨"roots_right", ["p", "cuts"], ["p", "cuts", "k"], 2, 3, b_roots_right, none⟩

def e_bound_1 : IE :=
  (.bi .abs (.cons (.var 2) .nil))
def c_bound_2 : IE :=
  (.cmp .LtE (.bin .Mult (.var 3) (.bi .abs (.cons (.ix (.var 0) (.neg (.cst (.int 1)))) .nil))) (.bin .Add (.var 1) (.bi .abs (.cons (.ix (.var 0) (.neg (.cst (.int 1)))) .nil))))
def b_bound_3 : IS :=
  (.seq (.asg 3 (.bin .Add (.var 3) (.var 3))) <|
  .nil)
def b_bound_4 : IS :=
  (.seq (.ret (.mov 3)) <|
  .nil)
def b_bound : IS :=
  (.seq (.asg 1 (.bi .max (.cons (.lc (.one 2) (.itv (.var 0)) .nil e_bound_1) .nil))) <|
  (.seq (.asg 3 (.cst (.int 1))) <|
  (.seq (.whl c_bound_2 b_bound_3) <|
  b_bound_4)))
abbrev f_bound : FnI := ⟨"bound", ["p"], ["p", "most", "weight", "found"], 1, 4, b_bound, none⟩

def b_amid : IS :=
  (.seq (.asg 2 (.call 5 (.cons (.var 0) (.cons (.var 1) .nil)))) <|
  (.seq (.ret (.call 4 (.cons (.ix (.var 2) (.cst (.int 0))) (.cons (.bin .Mult (.ix (.var 2) (.cst (.int 1))) (.cst (.int 2))) .nil)))) <|
  .nil))
abbrev f_amid : FnI := ⟨"amid", ["lo", "hi"], ["lo", "hi", "both"], 2, 3, b_amid, none⟩

def c_cuts_of_1 : IE :=
  (.cmp .NotEq (.var 3) (.lst .nil))
def b_cuts_of_2 : IS :=
  (.seq (.popT (.tup [4, 5]) 3) <|
  (.seq (.ite (.cmp .LtE (.call 17 (.cons (.call 23 (.cons (.var 0) (.cons (.var 4) (.cons (.var 5) .nil)))) .nil)) (.cst (.int 1)))
    (.seq (.app 2 (.var 5)) <|
    .nil)
    (.seq (.asg 6 (.call 36 (.cons (.var 4) (.cons (.var 5) .nil)))) <|
    (.seq (.app 3 (.tup (.cons (.var 6) (.cons (.var 5) .nil)))) <|
    (.seq (.app 3 (.tup (.cons (.var 4) (.cons (.var 6) .nil)))) <|
    .nil)))) <|
  .nil))
def b_cuts_of_3 : IS :=
  (.seq (.ret (.mov 2)) <|
  .nil)
def b_cuts_of : IS :=
  (.seq (.ite (.bnot (.call 32 (.cons (.var 0) .nil)))
    (.seq (.raise 2) <|
    .nil)
    .nil) <|
  (.seq (.ite (.cmp .Eq (.call 9 (.cons (.var 0) .nil)) (.cst (.int 0)))
    (.seq (.ret (.lst (.cons (.tup (.cons (.cst (.int 0)) (.cons (.cst (.int 1)) .nil))) .nil))) <|
    .nil)
    .nil) <|
  (.seq (.asg 1 (.call 35 (.cons (.var 0) .nil))) <|
  (.seq (.asg 2 (.lst (.cons (.tup (.cons (.neg (.var 1)) (.cons (.cst (.int 1)) .nil))) .nil))) <|
  (.seq (.asg 3 (.lst (.cons (.tup (.cons (.tup (.cons (.neg (.var 1)) (.cons (.cst (.int 1)) .nil))) (.cons (.tup (.cons (.var 1) (.cons (.cst (.int 1)) .nil))) .nil))) .nil))) <|
  (.seq (.whl c_cuts_of_1 b_cuts_of_2) <|
  b_cuts_of_3))))))
abbrev f_cuts_of : FnI := ⟨"cuts_of", ["p"], ["p", "far", "found", "todo", "lo", "hi", "middle"], 1, 7, b_cuts_of, none⟩

def b__law_cell_at : IS :=
  (.seq (.ite (.cmp .Lt (.var 1) (.len (.var 0)))
    (.seq (.ret (.ix (.var 0) (.var 1))) <|
    .nil)
    .nil) <|
  (.seq (.ret (.cst (.int 0))) <|
  .nil))
abbrev f__law_cell_at : FnI := ⟨"_law_cell_at", ["_law_script", "_law_k"], ["_law_script", "_law_k"], 2, 2, b__law_cell_at, none⟩

def b__law_stirred : IS :=
  (.seq (.asg 2 (.bin .Mod (.bin .Mult (.bin .Add (.bin .Add (.var 0) (.bin .Mult (.cst (.int 7919)) (.var 1))) (.cst (.int 1))) (.cst (.int 48271))) (.cst (.int 2147483647)))) <|
  (.seq (.asg 2 (.bin .Mod (.bin .Mult (.var 2) (.bin .Add (.bin .FloorDiv (.var 2) (.cst (.int 1009))) (.cst (.int 69621)))) (.cst (.int 2147483647)))) <|
  (.seq (.ret (.bin .Add (.bin .Mult (.bin .Mod (.bin .Mult (.var 2) (.bin .Add (.bin .FloorDiv (.var 2) (.cst (.int 2003))) (.cst (.int 40692)))) (.cst (.int 2147483629))) (.cst (.int 2147483647))) (.var 2))) <|
  .nil)))
abbrev f__law_stirred : FnI := ⟨"_law_stirred", ["_law_cell", "_law_k"], ["_law_cell", "_law_k", "_law_some"], 2, 3, b__law_stirred, none⟩

def b__law_poly_1 : IS :=
  (.seq (.ite (.band (.cmp .Gt (.var 4) (.cst (.int 0))) (.bone (.cmp .Eq (.bin .Mod (.bin .FloorDiv (.var 0) (.cst (.int 5))) (.cst (.int 2))) (.cst (.int 0)))))
    (.seq (.app 5 (.bin .Sub (.bin .Mod (.var 4) (.var 3)) (.bin .FloorDiv (.var 3) (.cst (.int 2))))) <|
    (.seq (.asg 4 (.bin .FloorDiv (.var 4) (.var 3))) <|
    .nil))
    (.seq (.app 5 (.bin .Sub (.bin .Mod (.call 39 (.cons (.var 0) (.cons (.var 6) .nil))) (.var 3)) (.bin .FloorDiv (.var 3) (.cst (.int 2))))) <|
    .nil)) <|
  .nil)
def b__law_poly_2 : IS :=
  (.seq (.ret (.bi .tuple (.cons (.var 5) .nil))) <|
  .nil)
def b__law_poly_3 : IS :=
  (.seq (.ite (.cmp .Eq (.ix (.var 5) (.neg (.cst (.int 1)))) (.cst (.int 0)))
    (.seq (.setIx 5 (.neg (.cst (.int 1))) (.cst (.int 1))) <|
    .nil)
    .nil) <|
  b__law_poly_2)
def b__law_poly : IS :=
  (.seq (.asg 2 (.bin .Mod (.var 0) (.bin .Add (.var 1) (.cst (.int 1))))) <|
  (.seq (.asg 3 (.ix (.lst (.cons (.cst (.int 25)) (.cons (.cst (.int 25)) (.cons (.cst (.int 7)) (.cons (.bin .Add (.bin .Mult (.cst (.int 2)) (.bin .Pow (.cst (.int 10)) (.cst (.int 12)))) (.cst (.int 1))) .nil))))) (.bin .Mod (.bin .FloorDiv (.var 0) (.cst (.int 11))) (.cst (.int 4))))) <|
  (.seq (.asg 4 (.bin .FloorDiv (.var 0) (.cst (.int 44)))) <|
  (.seq (.asg 5 (.lst .nil)) <|
  (.seq (.forr (.one 6) (.rng1 (.bin .Add (.var 2) (.cst (.int 1)))) b__law_poly_1) <|
  b__law_poly_3)))))
abbrev f__law_poly : FnI := ⟨"_law_poly", ["_law_cell", "_law_most"], ["_law_cell", "_law_most", "_law_many", "_law_broad", "_law_part", "_law_weights", "_law_k"], 2, 7, b__law_poly, none⟩

def c__law_gcd_1 : IE :=
  (.cmp .NotEq (.var 1) (.cst (.int 0)))
def b__law_gcd_2 : IS :=
  (.seq (.par 0 1 (.var 1) (.bin .Mod (.var 0) (.var 1))) <|
  .nil)
def b__law_gcd_3 : IS :=
  (.seq (.ret (.bi .abs (.cons (.var 0) .nil))) <|
  .nil)
def b__law_gcd : IS :=
  (.seq (.whl c__law_gcd_1 b__law_gcd_2) <|
  b__law_gcd_3)
abbrev f__law_gcd : FnI := ⟨"_law_gcd", ["_law_one", "_law_other"], ["_law_one", "_law_other"], 2, 2, b__law_gcd, none⟩

def b__law_fraction : IS :=
  (.seq (.asg 2 (.call 41 (.cons (.var 0) (.cons (.var 1) .nil)))) <|
  (.seq (.ret (.tup (.cons (.bin .FloorDiv (.var 0) (.var 2)) (.cons (.bin .FloorDiv (.var 1) (.var 2)) .nil)))) <|
  .nil))
abbrev f__law_fraction : FnI := ⟨"_law_fraction", ["_law_top", "_law_bottom"], ["_law_top", "_law_bottom", "_law_part"], 2, 3, b__law_fraction, none⟩

def e__law_product_1 : IE :=
  (.bin .Mult (.var 6) (.ix (.var 4) (.cst (.int 1))))
def b__law_product_2 : IS :=
  (.seq (.setIx 5 (.var 7) (.bin .Sub (.ix (.var 5) (.var 7)) (.bin .Mult (.ix (.var 1) (.var 7)) (.ix (.var 4) (.cst (.int 0)))))) <|
  .nil)
def b__law_product_3 : IS :=
  (.seq (.asg 1 (.bi .tuple (.cons (.var 5) .nil))) <|
  .nil)
def b__law_product_4 : IS :=
  (.seq (.asg 4 (.call 42 (.cons (.bin .Sub (.bin .Mod (.bin .FloorDiv (.var 2) (.cst (.int 5))) (.cst (.int 13))) (.cst (.int 6))) (.cons (.bin .Add (.cst (.int 1)) (.bin .Mod (.bin .FloorDiv (.var 2) (.cst (.int 65))) (.cst (.int 3)))) .nil)))) <|
  (.seq (.asg 2 (.bin .FloorDiv (.bin .FloorDiv (.var 2) (.cst (.int 5))) (.cst (.int 39)))) <|
  (.still 4 <| (.seq (.asg 5 (.bin .Add (.lst (.cons (.cst (.int 0)) .nil)) (.lc (.one 6) (.itv (.var 1)) .nil e__law_product_1))) <|
  (.seq (.forr (.one 7) (.rng1 (.len (.var 1))) b__law_product_2) <|
  b__law_product_3)))))
def b__law_product_5 : IS :=
  (.seq (.ret (.mov 1)) <|
  .nil)
def b__law_product : IS :=
  (.seq (.asg 1 (.tup (.cons (.bin .Add (.cst (.int 1)) (.bin .Mod (.var 0) (.cst (.int 5)))) .nil))) <|
  (.seq (.asg 2 (.bin .FloorDiv (.var 0) (.cst (.int 5)))) <|
  (.seq (.forr (.one 3) (.rng1 (.bin .Mod (.var 2) (.cst (.int 5)))) b__law_product_4) <|
  b__law_product_5)))
abbrev f__law_product : FnI := ⟨"_law_product", ["_law_cell"], ["_law_cell", "_law_found", "_law_part", "_law_k", "_law_root", "_law_longer", "_law_weight", "_law_j"], 1, 8, b__law_product, none⟩

def c__law_rest_1 : IE :=
  (.cmp .GtE (.len (.var 0)) (.len (.var 1)))
def e__law_rest_2 : IE :=
  (.bin .Mult (.var 3) (.ix (.var 1) (.neg (.cst (.int 1)))))
def b__law_rest_3 : IS :=
  (.seq (.asg 5 (.bin .Add (.bin .Sub (.len (.var 0)) (.len (.var 1))) (.var 4))) <|
  (.seq (.setIx 0 (.var 5) (.bin .Sub (.ix (.var 0) (.var 5)) (.bin .Mult (.var 2) (.ix (.var 1) (.var 4))))) <|
  .nil))
def c__law_rest_4 : IE :=
  (.band (.cmp .NotEq (.var 0) (.lst .nil)) (.bone (.cmp .Eq (.ix (.var 0) (.neg (.cst (.int 1)))) (.cst (.int 0)))))
def b__law_rest_5 : IS :=
  (.seq (.pop 0) <|
  .nil)
def b__law_rest_6 : IS :=
  (.seq (.ite (.cmp .Eq (.var 0) (.lst .nil))
    (.seq (.ret (.mov 0)) <|
    .nil)
    .nil) <|
  .nil)
def b__law_rest_7 : IS :=
  (.seq (.whl c__law_rest_4 b__law_rest_5) <|
  b__law_rest_6)
def b__law_rest_8 : IS :=
  (.seq (.asg 2 (.ix (.var 0) (.neg (.cst (.int 1))))) <|
  (.seq (.asg 0 (.lc (.one 3) (.itv (.var 0)) .nil e__law_rest_2)) <|
  (.seq (.forr (.one 4) (.rng1 (.len (.var 1))) b__law_rest_3) <|
  b__law_rest_7)))
def b__law_rest_9 : IS :=
  (.seq (.asg 6 (.call 41 (.cons (.var 6) (.cons (.var 3) .nil)))) <|
  .nil)
def e__law_rest_10 : IE :=
  (.bin .FloorDiv (.var 3) (.var 6))
def b__law_rest_11 : IS :=
  (.still 6 <| (.seq (.ret (.lc (.one 3) (.itv (.var 0)) .nil e__law_rest_10)) <|
  .nil))
def b__law_rest_12 : IS :=
  (.seq (.asg 6 (.cst (.int 0))) <|
  (.seq (.forr (.one 3) (.itv (.var 0)) b__law_rest_9) <|
  b__law_rest_11))
def b__law_rest : IS :=
  (.seq (.asg 0 (.bi .list (.cons (.var 0) .nil))) <|
  (.seq (.whl c__law_rest_1 b__law_rest_8) <|
  b__law_rest_12))
abbrev f__law_rest : FnI := ⟨"_law_rest", ["_law_p", "_law_q"], ["_law_p", "_law_q", "_law_lead", "_law_weight", "_law_j", "_law_at", "_law_part"], 2, 7, b__law_rest, none⟩

def e__law_free_1 : IE :=
  (.bin .Mult (.var 3) (.ix (.var 0) (.var 3)))
def c__law_free_2 : IE :=
  (.cmp .NotEq (.var 2) (.lst .nil))
def b__law_free_3 : IS :=
  (.seq (.par 1 2 (.var 2) (.call 44 (.cons (.var 1) (.cons (.var 2) .nil)))) <|
  .nil)
def b__law_free_4 : IS :=
  (.seq (.ret (.cmp .Eq (.len (.var 1)) (.cst (.int 1)))) <|
  .nil)
def b__law_free : IS :=
  (.seq (.ite (.cmp .Eq (.var 0) (.tup .nil))
    (.seq (.ret (.cst (.bool false))) <|
    .nil)
    .nil) <|
  (.seq (.asg 1 (.bi .list (.cons (.var 0) .nil))) <|
  (.seq (.asg 2 (.lc (.one 3) (.rng2 (.cst (.int 1)) (.len (.var 0))) .nil e__law_free_1)) <|
  (.seq (.whl c__law_free_2 b__law_free_3) <|
  b__law_free_4))))
abbrev f__law_free : FnI := ⟨"_law_free", ["_law_p"], ["_law_p", "_law_one", "_law_other", "_law_k"], 1, 4, b__law_free, none⟩

def b__law_told_1 : IS :=
  (.seq (.ite (.var 2)
    (.seq (.ret (.cst (.str "refused"))) <|
    .nil)
    .nil) <|
  (.seq (.ret (.mov 1)) <|
  .nil))
def b__law_told : IS :=
  (.seq (.asg 1 (.cst .none)) <|
  (.seq (.asg 2 (.cst (.bool false))) <|
  (.seq (.try1
    (.seq (.asg 1 (.call 37 (.cons (.var 0) .nil))) <|
    .nil) 2 (some 3)
    (.asg 2 (.isx 0) .nil)) <|
  b__law_told_1)))
abbrev f__law_told : FnI := ⟨"_law_told", ["_law_p"], ["_law_p", "_law_found", "_law_refused", "e"], 1, 4, b__law_told, none⟩

def c_law_1 : IE :=
  (.bor (.bnot (.isi .tuple (.var 3))) (.bor (.cmp .NotEq (.len (.var 3)) (.cst (.int 2))) (.bor (.cmp .Lt (.ix (.var 3) (.cst (.int 1))) (.cst (.int 1))) (.bone (.cmp .NotEq (.call 41 (.cons (.ix (.var 3) (.cst (.int 0))) (.cons (.ix (.var 3) (.cst (.int 1))) .nil))) (.cst (.int 1)))))))
def b_law_2 : IS :=
  (.seq (.ite (.cmp .IsNot (.call 34 (.cons (.var 1) (.cons (.lsc (.var 2)) .nil))) (.cst (.bool true)))
    (.seq (.ret (.cst (.bool false))) <|
    .nil)
    .nil) <|
  (.seq (.clr 2) <|
  (.seq (.ret (.cmp .Is (.call 34 (.cons (.var 1) (.cons (.call 37 (.cons (.var 1) .nil)) .nil))) (.cst (.bool true)))) <|
  .nil)))
def b_law_3 : IS :=
  (.seq (.asg 2 (.call 46 (.cons (.var 1) .nil))) <|
  (.seq (.ite (.bnot (.call 45 (.cons (.var 1) .nil)))
    (.seq (.ret (.cmp .Eq (.var 2) (.cst (.str "refused")))) <|
    .nil)
    .nil) <|
  (.seq (.ite (.bnot (.isi .list (.var 2)))
    (.seq (.ret (.cst (.bool false))) <|
    .nil)
    .nil) <|
  (.seq (.forP (.one 3) 2 c_law_1 (.cst (.bool false))) <|
  b_law_2))))
def b_law_4 : IS :=
  (.seq (.ite (.cmp .Eq (.bin .Mod (.call 38 (.cons (.var 0) (.cons (.cst (.int 1)) .nil))) (.cst (.int 19))) (.cst (.int 0)))
    (.seq (.asg 1 (.tup .nil)) <|
    .nil)
    .nil) <|
  b_law_3)
def b_law : IS :=
  (.seq (.asg 1 (.call 40 (.cons (.bin .FloorDiv (.call 38 (.cons (.var 0) (.cons (.cst (.int 0)) .nil))) (.cst (.int 2))) (.cons (.cst (.int 5)) .nil)))) <|
  (.seq (.ite (.cmp .Eq (.bin .Mod (.call 38 (.cons (.var 0) (.cons (.cst (.int 0)) .nil))) (.cst (.int 2))) (.cst (.int 1)))
    (.seq (.asg 1 (.call 43 (.cons (.bin .FloorDiv (.call 38 (.cons (.var 0) (.cons (.cst (.int 0)) .nil))) (.cst (.int 2))) .nil))) <|
    .nil)
    .nil) <|
  b_law_4))
abbrev f_law : FnI := ⟨"law", ["_law_script"], ["_law_script", "_law_p", "_law_found", "_law_one"], 1, 4, b_law, none⟩

abbrev fns : List FnI := [f_is_whole, f_divisor, f_divisor_of, f_is_fraction, f_fraction, f_plus, f_less, f_is_poly, f_poly, f_degree, f_weight_of, f_p_plus, f_scaled, f_p_minus, f_p_times, f_raised, f_derived, f_changes, f_pushed, f_spread, f_stretched, f_above, f_below, f_between, f_content, f_divided, f_plain, f_least_parted, f_parted, f_lightened, f_shared_rows, f_shared, f_is_free, f_rise, f_roots_right, f_bound, f_amid, f_cuts_of, f__law_cell_at, f__law_stirred, f__law_poly, f__law_gcd, f__law_fraction, f__law_product, f__law_rest, f__law_free, f__law_told, f_law]
abbrev cls : List Str := ["CourtError", "NoPart", "NoFree"]
def tops (i : Nat) : Stmt := PySem.Challenge.pw_rootcourt_k20_cuts_told.main.body.getD i (.Pass ⟨0, 0, 0, 0⟩)
abbrev sts : List Stmt := [tops 5, tops 6, tops 7, tops 9, tops 10, tops 11, tops 12, tops 14, tops 15, tops 16, tops 17, tops 18, tops 19, tops 20, tops 21, tops 22, tops 23, tops 25, tops 26, tops 27, tops 28, tops 29, tops 30, tops 31, tops 33, tops 34, tops 35, tops 36, tops 37, tops 38, tops 39, tops 40, tops 42, tops 44, tops 45, tops 46, tops 47, tops 48, tops 50, tops 51, tops 52, tops 53, tops 54, tops 59, tops 60, tops 61, tops 62, tops 63]
theorem d_is_whole : DefOk fns cls f_is_whole (tops 5) := ⟨fun F => ⟨F.bindsN fun _ _ _ _ _ _ us hl => match us, hl with | [_], _ => rfl, F.bindsA fun _ _ _ _ _ _ us hl => match us, hl with | [_], _ => rfl⟩, ⟨rfl, rfl, rfl, by decide +kernel, rfl, by decide +kernel, by decide +kernel⟩, by decide +kernel⟩
theorem d_divisor : DefOk fns cls f_divisor (tops 6) := ⟨fun F => ⟨F.bindsN fun _ _ _ _ _ _ us hl => match us, hl with | [_, _], _ => rfl, F.bindsA fun _ _ _ _ _ _ us hl => match us, hl with | [_, _], _ => rfl⟩, ⟨rfl, rfl, rfl, by decide +kernel, rfl, by decide +kernel, by decide +kernel⟩, by decide +kernel⟩
theorem d_divisor_of : DefOk fns cls f_divisor_of (tops 7) := ⟨fun F => ⟨F.bindsN fun _ _ _ _ _ _ us hl => match us, hl with | [_], _ => rfl, F.bindsA fun _ _ _ _ _ _ us hl => match us, hl with | [_], _ => rfl⟩, ⟨rfl, rfl, rfl, by decide +kernel, rfl, by decide +kernel, by decide +kernel⟩, by decide +kernel⟩
theorem d_is_fraction : DefOk fns cls f_is_fraction (tops 9) := ⟨fun F => ⟨F.bindsN fun _ _ _ _ _ _ us hl => match us, hl with | [_], _ => rfl, F.bindsA fun _ _ _ _ _ _ us hl => match us, hl with | [_], _ => rfl⟩, ⟨rfl, rfl, rfl, by decide +kernel, rfl, by decide +kernel, by decide +kernel⟩, by decide +kernel⟩
theorem d_fraction : DefOk fns cls f_fraction (tops 10) := ⟨fun F => ⟨F.bindsN fun _ _ _ _ _ _ us hl => match us, hl with | [_, _], _ => rfl, F.bindsA fun _ _ _ _ _ _ us hl => match us, hl with | [_, _], _ => rfl⟩, ⟨rfl, rfl, rfl, by decide +kernel, rfl, by decide +kernel, by decide +kernel⟩, by decide +kernel⟩
theorem d_plus : DefOk fns cls f_plus (tops 11) := ⟨fun F => ⟨F.bindsN fun _ _ _ _ _ _ us hl => match us, hl with | [_, _], _ => rfl, F.bindsA fun _ _ _ _ _ _ us hl => match us, hl with | [_, _], _ => rfl⟩, ⟨rfl, rfl, rfl, by decide +kernel, rfl, by decide +kernel, by decide +kernel⟩, by decide +kernel⟩
theorem d_less : DefOk fns cls f_less (tops 12) := ⟨fun F => ⟨F.bindsN fun _ _ _ _ _ _ us hl => match us, hl with | [_, _], _ => rfl, F.bindsA fun _ _ _ _ _ _ us hl => match us, hl with | [_, _], _ => rfl⟩, ⟨rfl, rfl, rfl, by decide +kernel, rfl, by decide +kernel, by decide +kernel⟩, by decide +kernel⟩
theorem d_is_poly : DefOk fns cls f_is_poly (tops 14) := ⟨fun F => ⟨F.bindsN fun _ _ _ _ _ _ us hl => match us, hl with | [_], _ => rfl, F.bindsA fun _ _ _ _ _ _ us hl => match us, hl with | [_], _ => rfl⟩, ⟨rfl, rfl, rfl, by decide +kernel, rfl, by decide +kernel, by decide +kernel⟩, by decide +kernel⟩
theorem d_poly : DefOk fns cls f_poly (tops 15) := ⟨fun F => ⟨F.bindsN fun _ _ _ _ _ _ us hl => match us, hl with | [_], _ => rfl, F.bindsA fun _ _ _ _ _ _ us hl => match us, hl with | [_], _ => rfl⟩, ⟨rfl, rfl, rfl, by decide +kernel, rfl, by decide +kernel, by decide +kernel⟩, by decide +kernel⟩
theorem d_degree : DefOk fns cls f_degree (tops 16) := ⟨fun F => ⟨F.bindsN fun _ _ _ _ _ _ us hl => match us, hl with | [_], _ => rfl, F.bindsA fun _ _ _ _ _ _ us hl => match us, hl with | [_], _ => rfl⟩, ⟨rfl, rfl, rfl, by decide +kernel, rfl, by decide +kernel, by decide +kernel⟩, by decide +kernel⟩
theorem d_weight_of : DefOk fns cls f_weight_of (tops 17) := ⟨fun F => ⟨F.bindsN fun _ _ _ _ _ _ us hl => match us, hl with | [_, _], _ => rfl, F.bindsA fun _ _ _ _ _ _ us hl => match us, hl with | [_, _], _ => rfl⟩, ⟨rfl, rfl, rfl, by decide +kernel, rfl, by decide +kernel, by decide +kernel⟩, by decide +kernel⟩
theorem d_p_plus : DefOk fns cls f_p_plus (tops 18) := ⟨fun F => ⟨F.bindsN fun _ _ _ _ _ _ us hl => match us, hl with | [_, _], _ => rfl, F.bindsA fun _ _ _ _ _ _ us hl => match us, hl with | [_, _], _ => rfl⟩, ⟨rfl, rfl, rfl, by decide +kernel, rfl, by decide +kernel, by decide +kernel⟩, by decide +kernel⟩
theorem d_scaled : DefOk fns cls f_scaled (tops 19) := ⟨fun F => ⟨F.bindsN fun _ _ _ _ _ _ us hl => match us, hl with | [_, _], _ => rfl, F.bindsA fun _ _ _ _ _ _ us hl => match us, hl with | [_, _], _ => rfl⟩, ⟨rfl, rfl, rfl, by decide +kernel, rfl, by decide +kernel, by decide +kernel⟩, by decide +kernel⟩
theorem d_p_minus : DefOk fns cls f_p_minus (tops 20) := ⟨fun F => ⟨F.bindsN fun _ _ _ _ _ _ us hl => match us, hl with | [_, _], _ => rfl, F.bindsA fun _ _ _ _ _ _ us hl => match us, hl with | [_, _], _ => rfl⟩, ⟨rfl, rfl, rfl, by decide +kernel, rfl, by decide +kernel, by decide +kernel⟩, by decide +kernel⟩
theorem d_p_times : DefOk fns cls f_p_times (tops 21) := ⟨fun F => ⟨F.bindsN fun _ _ _ _ _ _ us hl => match us, hl with | [_, _], _ => rfl, F.bindsA fun _ _ _ _ _ _ us hl => match us, hl with | [_, _], _ => rfl⟩, ⟨rfl, rfl, rfl, by decide +kernel, rfl, by decide +kernel, by decide +kernel⟩, by decide +kernel⟩
theorem d_raised : DefOk fns cls f_raised (tops 22) := ⟨fun F => ⟨F.bindsN fun _ _ _ _ _ _ us hl => match us, hl with | [_, _], _ => rfl, F.bindsA fun _ _ _ _ _ _ us hl => match us, hl with | [_, _], _ => rfl⟩, ⟨rfl, rfl, rfl, by decide +kernel, rfl, by decide +kernel, by decide +kernel⟩, by decide +kernel⟩
theorem d_derived : DefOk fns cls f_derived (tops 23) := ⟨fun F => ⟨F.bindsN fun _ _ _ _ _ _ us hl => match us, hl with | [_], _ => rfl, F.bindsA fun _ _ _ _ _ _ us hl => match us, hl with | [_], _ => rfl⟩, ⟨rfl, rfl, rfl, by decide +kernel, rfl, by decide +kernel, by decide +kernel⟩, by decide +kernel⟩
theorem d_changes : DefOk fns cls f_changes (tops 25) := ⟨fun F => ⟨F.bindsN fun _ _ _ _ _ _ us hl => match us, hl with | [_], _ => rfl, F.bindsA fun _ _ _ _ _ _ us hl => match us, hl with | [_], _ => rfl⟩, ⟨rfl, rfl, rfl, by decide +kernel, rfl, by decide +kernel, by decide +kernel⟩, by decide +kernel⟩
theorem d_pushed : DefOk fns cls f_pushed (tops 26) := ⟨fun F => ⟨F.bindsN fun _ _ _ _ _ _ us hl => match us, hl with | [_, _], _ => rfl, F.bindsA fun _ _ _ _ _ _ us hl => match us, hl with | [_, _], _ => rfl⟩, ⟨rfl, rfl, rfl, by decide +kernel, rfl, by decide +kernel, by decide +kernel⟩, by decide +kernel⟩
theorem d_spread : DefOk fns cls f_spread (tops 27) := ⟨fun F => ⟨F.bindsN fun _ _ _ _ _ _ us hl => match us, hl with | [_, _], _ => rfl, F.bindsA fun _ _ _ _ _ _ us hl => match us, hl with | [_, _], _ => rfl⟩, ⟨rfl, rfl, rfl, by decide +kernel, rfl, by decide +kernel, by decide +kernel⟩, by decide +kernel⟩
theorem d_stretched : DefOk fns cls f_stretched (tops 28) := ⟨fun F => ⟨F.bindsN fun _ _ _ _ _ _ us hl => match us, hl with | [_, _], _ => rfl, F.bindsA fun _ _ _ _ _ _ us hl => match us, hl with | [_, _], _ => rfl⟩, ⟨rfl, rfl, rfl, by decide +kernel, rfl, by decide +kernel, by decide +kernel⟩, by decide +kernel⟩
theorem d_above : DefOk fns cls f_above (tops 29) := ⟨fun F => ⟨F.bindsN fun _ _ _ _ _ _ us hl => match us, hl with | [_, _], _ => rfl, F.bindsA fun _ _ _ _ _ _ us hl => match us, hl with | [_, _], _ => rfl⟩, ⟨rfl, rfl, rfl, by decide +kernel, rfl, by decide +kernel, by decide +kernel⟩, by decide +kernel⟩
theorem d_below : DefOk fns cls f_below (tops 30) := ⟨fun F => ⟨F.bindsN fun _ _ _ _ _ _ us hl => match us, hl with | [_, _], _ => rfl, F.bindsA fun _ _ _ _ _ _ us hl => match us, hl with | [_, _], _ => rfl⟩, ⟨rfl, rfl, rfl, by decide +kernel, rfl, by decide +kernel, by decide +kernel⟩, by decide +kernel⟩
theorem d_between : DefOk fns cls f_between (tops 31) := ⟨fun F => ⟨F.bindsN fun _ _ _ _ _ _ us hl => match us, hl with | [_, _, _], _ => rfl, F.bindsA fun _ _ _ _ _ _ us hl => match us, hl with | [_, _, _], _ => rfl⟩, ⟨rfl, rfl, rfl, by decide +kernel, rfl, by decide +kernel, by decide +kernel⟩, by decide +kernel⟩
theorem d_content : DefOk fns cls f_content (tops 33) := ⟨fun F => ⟨F.bindsN fun _ _ _ _ _ _ us hl => match us, hl with | [_], _ => rfl, F.bindsA fun _ _ _ _ _ _ us hl => match us, hl with | [_], _ => rfl⟩, ⟨rfl, rfl, rfl, by decide +kernel, rfl, by decide +kernel, by decide +kernel⟩, by decide +kernel⟩
theorem d_divided : DefOk fns cls f_divided (tops 34) := ⟨fun F => ⟨F.bindsN fun _ _ _ _ _ _ us hl => match us, hl with | [_, _], _ => rfl, F.bindsA fun _ _ _ _ _ _ us hl => match us, hl with | [_, _], _ => rfl⟩, ⟨rfl, rfl, rfl, by decide +kernel, rfl, by decide +kernel, by decide +kernel⟩, by decide +kernel⟩
theorem d_plain : DefOk fns cls f_plain (tops 35) := ⟨fun F => ⟨F.bindsN fun _ _ _ _ _ _ us hl => match us, hl with | [_], _ => rfl, F.bindsA fun _ _ _ _ _ _ us hl => match us, hl with | [_], _ => rfl⟩, ⟨rfl, rfl, rfl, by decide +kernel, rfl, by decide +kernel, by decide +kernel⟩, by decide +kernel⟩
theorem d_least_parted : DefOk fns cls f_least_parted (tops 36) := ⟨fun F => ⟨F.bindsN fun _ _ _ _ _ _ us hl => match us, hl with | [_, _, _], _ => rfl, F.bindsA fun _ _ _ _ _ _ us hl => match us, hl with | [_, _, _], _ => rfl⟩, ⟨rfl, rfl, rfl, by decide +kernel, rfl, by decide +kernel, by decide +kernel⟩, by decide +kernel⟩
theorem d_parted : DefOk fns cls f_parted (tops 37) := ⟨fun F => ⟨F.bindsN fun _ _ _ _ _ _ us hl => match us, hl with | [_, _], _ => rfl, F.bindsA fun _ _ _ _ _ _ us hl => match us, hl with | [_, _], _ => rfl⟩, ⟨rfl, rfl, rfl, by decide +kernel, rfl, by decide +kernel, by decide +kernel⟩, by decide +kernel⟩
theorem d_lightened : DefOk fns cls f_lightened (tops 38) := ⟨fun F => ⟨F.bindsN fun _ _ _ _ _ _ us hl => match us, hl with | [_], _ => rfl, F.bindsA fun _ _ _ _ _ _ us hl => match us, hl with | [_], _ => rfl⟩, ⟨rfl, rfl, rfl, by decide +kernel, rfl, by decide +kernel, by decide +kernel⟩, by decide +kernel⟩
theorem d_shared_rows : DefOk fns cls f_shared_rows (tops 39) := ⟨fun F => ⟨F.bindsN fun _ _ _ _ _ _ us hl => match us, hl with | [_, _], _ => rfl, F.bindsA fun _ _ _ _ _ _ us hl => match us, hl with | [_, _], _ => rfl⟩, ⟨rfl, rfl, rfl, by decide +kernel, rfl, by decide +kernel, by decide +kernel⟩, by decide +kernel⟩
theorem d_shared : DefOk fns cls f_shared (tops 40) := ⟨fun F => ⟨F.bindsN fun _ _ _ _ _ _ us hl => match us, hl with | [_, _], _ => rfl, F.bindsA fun _ _ _ _ _ _ us hl => match us, hl with | [_, _], _ => rfl⟩, ⟨rfl, rfl, rfl, by decide +kernel, rfl, by decide +kernel, by decide +kernel⟩, by decide +kernel⟩
theorem d_is_free : DefOk fns cls f_is_free (tops 42) := ⟨fun F => ⟨F.bindsN fun _ _ _ _ _ _ us hl => match us, hl with | [_], _ => rfl, F.bindsA fun _ _ _ _ _ _ us hl => match us, hl with | [_], _ => rfl⟩, ⟨rfl, rfl, rfl, by decide +kernel, rfl, by decide +kernel, by decide +kernel⟩, by decide +kernel⟩
theorem d_rise : DefOk fns cls f_rise (tops 44) := ⟨fun F => ⟨F.bindsN fun _ _ _ _ _ _ us hl => match us, hl with | [_], _ => rfl, F.bindsA fun _ _ _ _ _ _ us hl => match us, hl with | [_], _ => rfl⟩, ⟨rfl, rfl, rfl, by decide +kernel, rfl, by decide +kernel, by decide +kernel⟩, by decide +kernel⟩
theorem d_roots_right : DefOk fns cls f_roots_right (tops 45) := ⟨fun F => ⟨F.bindsN fun _ _ _ _ _ _ us hl => match us, hl with | [_, _], _ => rfl, F.bindsA fun _ _ _ _ _ _ us hl => match us, hl with | [_, _], _ => rfl⟩, ⟨rfl, rfl, rfl, by decide +kernel, rfl, by decide +kernel, by decide +kernel⟩, by decide +kernel⟩
theorem d_bound : DefOk fns cls f_bound (tops 46) := ⟨fun F => ⟨F.bindsN fun _ _ _ _ _ _ us hl => match us, hl with | [_], _ => rfl, F.bindsA fun _ _ _ _ _ _ us hl => match us, hl with | [_], _ => rfl⟩, ⟨rfl, rfl, rfl, by decide +kernel, rfl, by decide +kernel, by decide +kernel⟩, by decide +kernel⟩
theorem d_amid : DefOk fns cls f_amid (tops 47) := ⟨fun F => ⟨F.bindsN fun _ _ _ _ _ _ us hl => match us, hl with | [_, _], _ => rfl, F.bindsA fun _ _ _ _ _ _ us hl => match us, hl with | [_, _], _ => rfl⟩, ⟨rfl, rfl, rfl, by decide +kernel, rfl, by decide +kernel, by decide +kernel⟩, by decide +kernel⟩
theorem d_cuts_of : DefOk fns cls f_cuts_of (tops 48) := ⟨fun F => ⟨F.bindsN fun _ _ _ _ _ _ us hl => match us, hl with | [_], _ => rfl, F.bindsA fun _ _ _ _ _ _ us hl => match us, hl with | [_], _ => rfl⟩, ⟨rfl, rfl, rfl, by decide +kernel, rfl, by decide +kernel, by decide +kernel⟩, by decide +kernel⟩
theorem d__law_cell_at : DefOk fns cls f__law_cell_at (tops 50) := ⟨fun F => ⟨F.bindsN fun _ _ _ _ _ _ us hl => match us, hl with | [_, _], _ => rfl, F.bindsA fun _ _ _ _ _ _ us hl => match us, hl with | [_, _], _ => rfl⟩, ⟨rfl, rfl, rfl, by decide +kernel, rfl, by decide +kernel, by decide +kernel⟩, by decide +kernel⟩
theorem d__law_stirred : DefOk fns cls f__law_stirred (tops 51) := ⟨fun F => ⟨F.bindsN fun _ _ _ _ _ _ us hl => match us, hl with | [_, _], _ => rfl, F.bindsA fun _ _ _ _ _ _ us hl => match us, hl with | [_, _], _ => rfl⟩, ⟨rfl, rfl, rfl, by decide +kernel, rfl, by decide +kernel, by decide +kernel⟩, by decide +kernel⟩
theorem d__law_poly : DefOk fns cls f__law_poly (tops 52) := ⟨fun F => ⟨F.bindsN fun _ _ _ _ _ _ us hl => match us, hl with | [_, _], _ => rfl, F.bindsA fun _ _ _ _ _ _ us hl => match us, hl with | [_, _], _ => rfl⟩, ⟨rfl, rfl, rfl, by decide +kernel, rfl, by decide +kernel, by decide +kernel⟩, by decide +kernel⟩
theorem d__law_gcd : DefOk fns cls f__law_gcd (tops 53) := ⟨fun F => ⟨F.bindsN fun _ _ _ _ _ _ us hl => match us, hl with | [_, _], _ => rfl, F.bindsA fun _ _ _ _ _ _ us hl => match us, hl with | [_, _], _ => rfl⟩, ⟨rfl, rfl, rfl, by decide +kernel, rfl, by decide +kernel, by decide +kernel⟩, by decide +kernel⟩
theorem d__law_fraction : DefOk fns cls f__law_fraction (tops 54) := ⟨fun F => ⟨F.bindsN fun _ _ _ _ _ _ us hl => match us, hl with | [_, _], _ => rfl, F.bindsA fun _ _ _ _ _ _ us hl => match us, hl with | [_, _], _ => rfl⟩, ⟨rfl, rfl, rfl, by decide +kernel, rfl, by decide +kernel, by decide +kernel⟩, by decide +kernel⟩
theorem d__law_product : DefOk fns cls f__law_product (tops 59) := ⟨fun F => ⟨F.bindsN fun _ _ _ _ _ _ us hl => match us, hl with | [_], _ => rfl, F.bindsA fun _ _ _ _ _ _ us hl => match us, hl with | [_], _ => rfl⟩, ⟨rfl, rfl, rfl, by decide +kernel, rfl, by decide +kernel, by decide +kernel⟩, by decide +kernel⟩
theorem d__law_rest : DefOk fns cls f__law_rest (tops 60) := ⟨fun F => ⟨F.bindsN fun _ _ _ _ _ _ us hl => match us, hl with | [_, _], _ => rfl, F.bindsA fun _ _ _ _ _ _ us hl => match us, hl with | [_, _], _ => rfl⟩, ⟨rfl, rfl, rfl, by decide +kernel, rfl, by decide +kernel, by decide +kernel⟩, by decide +kernel⟩
theorem d__law_free : DefOk fns cls f__law_free (tops 61) := ⟨fun F => ⟨F.bindsN fun _ _ _ _ _ _ us hl => match us, hl with | [_], _ => rfl, F.bindsA fun _ _ _ _ _ _ us hl => match us, hl with | [_], _ => rfl⟩, ⟨rfl, rfl, rfl, by decide +kernel, rfl, by decide +kernel, by decide +kernel⟩, by decide +kernel⟩
theorem d__law_told : DefOk fns cls f__law_told (tops 62) := ⟨fun F => ⟨F.bindsN fun _ _ _ _ _ _ us hl => match us, hl with | [_], _ => rfl, F.bindsA fun _ _ _ _ _ _ us hl => match us, hl with | [_], _ => rfl⟩, ⟨rfl, rfl, rfl, by decide +kernel, rfl, by decide +kernel, by decide +kernel⟩, by decide +kernel⟩
theorem d_law : DefOk fns cls f_law (tops 63) := ⟨fun F => ⟨F.bindsN fun _ _ _ _ _ _ us hl => match us, hl with | [_], _ => rfl, F.bindsA fun _ _ _ _ _ _ us hl => match us, hl with | [_], _ => rfl⟩, ⟨rfl, rfl, rfl, by decide +kernel, rfl, by decide +kernel, by decide +kernel⟩, by decide +kernel⟩
theorem allOk : AllOk fns cls fns sts := .cons d_is_whole <| .cons d_divisor <| .cons d_divisor_of <| .cons d_is_fraction <| .cons d_fraction <| .cons d_plus <| .cons d_less <| .cons d_is_poly <| .cons d_poly <| .cons d_degree <| .cons d_weight_of <| .cons d_p_plus <| .cons d_scaled <| .cons d_p_minus <| .cons d_p_times <| .cons d_raised <| .cons d_derived <| .cons d_changes <| .cons d_pushed <| .cons d_spread <| .cons d_stretched <| .cons d_above <| .cons d_below <| .cons d_between <| .cons d_content <| .cons d_divided <| .cons d_plain <| .cons d_least_parted <| .cons d_parted <| .cons d_lightened <| .cons d_shared_rows <| .cons d_shared <| .cons d_is_free <| .cons d_rise <| .cons d_roots_right <| .cons d_bound <| .cons d_amid <| .cons d_cuts_of <| .cons d__law_cell_at <| .cons d__law_stirred <| .cons d__law_poly <| .cons d__law_gcd <| .cons d__law_fraction <| .cons d__law_product <| .cons d__law_rest <| .cons d__law_free <| .cons d__law_told <| .cons d_law <| .nil rfl
def loose : List Str := [("CourtError" : Str), ("NoPart" : Str), ("NoFree" : Str), ("is_whole" : Str), ("divisor" : Str), ("divisor_of" : Str), ("is_fraction" : Str), ("fraction" : Str), ("plus" : Str), ("less" : Str), ("is_poly" : Str), ("poly" : Str), ("degree" : Str), ("weight_of" : Str), ("p_plus" : Str), ("scaled" : Str), ("p_minus" : Str), ("p_times" : Str), ("raised" : Str), ("derived" : Str), ("changes" : Str), ("pushed" : Str), ("spread" : Str), ("stretched" : Str), ("above" : Str), ("below" : Str), ("between" : Str), ("content" : Str), ("divided" : Str), ("plain" : Str), ("least_parted" : Str), ("parted" : Str), ("lightened" : Str), ("shared_rows" : Str), ("shared" : Str), ("is_free" : Str), ("rise" : Str), ("roots_right" : Str), ("bound" : Str), ("amid" : Str), ("cuts_of" : Str), ("_law_cell_at" : Str), ("_law_stirred" : Str), ("_law_poly" : Str), ("_law_gcd" : Str), ("_law_fraction" : Str), ("_law_drawn" : Str), ("_law_less" : Str), ("_law_homog" : Str), ("_law_sign" : Str), ("_law_product" : Str), ("_law_rest" : Str), ("_law_free" : Str), ("_law_told" : Str)]
abbrev R : PySem.W.OpenRow := PySem.W.OpenLaw.row PySem.Challenge.rw_rootcourt_k20_cuts_told
abbrev hk : PySem.W.Hook := He.hookX 4 (mkFa fns cls) (List.zipWith mkD fns sts) [] [] (xG fns cls)
def ob (s : PySem.W.SharedT) : He.AlX := He.obsX 4 (mkFa fns cls) (List.zipWith mkD fns sts) [] [] (xG fns cls) (HandSHeadRun.getT s)
theorem ob_eq (s : PySem.W.SharedT) : ob s = hk.obs s.abs := He.obsX_eq (HandSHeadRun.getT_eq s)
theorem run (w : World) : HandSHeadRun.RunEq R (PySem.W.view R.prog [63]) hk ob 4000 [("CourtError" : Str), ("NoPart" : Str), ("NoFree" : Str), ("is_whole" : Str), ("divisor" : Str), ("divisor_of" : Str), ("is_fraction" : Str), ("fraction" : Str), ("plus" : Str), ("less" : Str), ("is_poly" : Str), ("poly" : Str), ("degree" : Str), ("weight_of" : Str), ("p_plus" : Str), ("scaled" : Str), ("p_minus" : Str), ("p_times" : Str), ("raised" : Str), ("derived" : Str), ("changes" : Str), ("pushed" : Str), ("spread" : Str), ("stretched" : Str), ("above" : Str), ("below" : Str), ("between" : Str), ("content" : Str), ("divided" : Str), ("plain" : Str), ("least_parted" : Str), ("parted" : Str), ("lightened" : Str), ("shared_rows" : Str), ("shared" : Str), ("is_free" : Str), ("rise" : Str), ("roots_right" : Str), ("bound" : Str), ("amid" : Str), ("cuts_of" : Str), ("_law_cell_at" : Str), ("_law_stirred" : Str), ("_law_poly" : Str), ("_law_gcd" : Str), ("_law_fraction" : Str), ("_law_drawn" : Str), ("_law_less" : Str), ("_law_homog" : Str), ("_law_sign" : Str), ("_law_product" : Str), ("_law_rest" : Str), ("_law_free" : Str), ("_law_told" : Str)] w := by
  intro os
  kernel_rfl
section
open PySem PySem.W PySem.Calls PyProof.Rows
theorem holds_of (k : Nat) (hr : L2.Room (k + 33) callerA)
    (hp : ∀ ns : List Int, ns.length ≤ 63 → (∀ z ∈ ns, Builtin.Int.intBits z ≤ 1048576) → sem fns (k + 1) 47 [.list (ns.map .int)] (fun _ => False) (fun v => v = Val.d (.bool true))) : PySem.Challenge.rw_rootcourt_k20_cuts_told.Holds := by
  w_on; o_law
  refine HandSHeadRun.head_any (r := OpenLaw.row PySem.Challenge.rw_rootcourt_k20_cuts_told) (q := view (OpenLaw.row PySem.Challenge.rw_rootcourt_k20_cuts_told).prog [63]) (H := hk) (ob := ob) (M := 4000) (loose := [("CourtError" : Str), ("NoPart" : Str), ("NoFree" : Str), ("is_whole" : Str), ("divisor" : Str), ("divisor_of" : Str), ("is_fraction" : Str), ("fraction" : Str), ("plus" : Str), ("less" : Str), ("is_poly" : Str), ("poly" : Str), ("degree" : Str), ("weight_of" : Str), ("p_plus" : Str), ("scaled" : Str), ("p_minus" : Str), ("p_times" : Str), ("raised" : Str), ("derived" : Str), ("changes" : Str), ("pushed" : Str), ("spread" : Str), ("stretched" : Str), ("above" : Str), ("below" : Str), ("between" : Str), ("content" : Str), ("divided" : Str), ("plain" : Str), ("least_parted" : Str), ("parted" : Str), ("lightened" : Str), ("shared_rows" : Str), ("shared" : Str), ("is_free" : Str), ("rise" : Str), ("roots_right" : Str), ("bound" : Str), ("amid" : Str), ("cuts_of" : Str), ("_law_cell_at" : Str), ("_law_stirred" : Str), ("_law_poly" : Str), ("_law_gcd" : Str), ("_law_fraction" : Str), ("_law_drawn" : Str), ("_law_less" : Str), ("_law_homog" : Str), ("_law_sign" : Str), ("_law_product" : Str), ("_law_rest" : Str), ("_law_free" : Str), ("_law_told" : Str)]) (d := HandSHeadRun.topDef (OpenLaw.row PySem.Challenge.rw_rootcourt_k20_cuts_told).prog 63) (kwd := []) ob_eq
    (by kernel_rfl) (fun s => by kernel_rfl) run (by kernel_rfl) (by kernel_rfl) (by kernel_rfl) (by rfl) (by first | assumption | decide +kernel) (by decide +kernel) ⟨rfl, rfl, rfl, rfl, rfl, by decide +kernel⟩ ?hw ?hc
  case hw => w_witness2
  case hc => exact walk_rc (l := PySem.Challenge.rw_rootcourt_k20_cuts_told) (n := 63) (k := k) (x := "_law_script") rfl (by decide) (by kernel_rfl) hr (by kernel_rfl) (by kernel_rfl) allOk (li := 47) rfl (by kernel_rfl) rfl rfl rfl hp
end
end K20

/-! Changes of sign. -/
namespace Rc
open PySem
def cg : Int → List Int → Nat
  | _, [] => 0
  | l, w :: r => (if w * l < 0 then 1 else 0) + cg (if w = 0 then l else w) r
/-- the first that isn't nought against l -/
def fz : Int → List Int → Nat
  | _, [] => 0
  | l, w :: r => if w = 0 then fz l r else if w * l < 0 then 1 else 0
theorem cg_fz : ∀ (xs : List Int) (l : Int), cg l xs = fz l xs + cg 0 xs
  | [], _ => rfl
  | w :: r, l => by
    show (if w * l < 0 then 1 else 0) + cg (if w = 0 then l else w) r = (if w = 0 then fz l r else if w * l < 0 then 1 else 0) + ((if w * 0 < 0 then 1 else 0) + cg (if w = 0 then 0 else w) r)
    by_cases h : w = 0
    · subst h
      rw [if_pos rfl, if_pos rfl, if_pos rfl, cg_fz r l]
      simp
    · rw [if_neg h, if_neg h, if_neg h]
      simp
/-- as many as pairs -/
def prs : List Int → Nat
  | [] => 0
  | w :: r => fz w r + prs r
theorem fz0 : ∀ xs : List Int, fz 0 xs = 0
  | [] => rfl
  | w :: r => by
    show (if w = 0 then fz 0 r else if w * 0 < 0 then 1 else 0) = 0
    rw [fz0 r]
    split
    · rfl
    · simp
theorem cg_prs : ∀ xs : List Int, cg 0 xs = prs xs
  | [] => rfl
  | w :: r => by
    show (if w * 0 < 0 then 1 else 0) + cg (if w = 0 then 0 else w) r = fz w r + prs r
    rw [← cg_prs r]
    by_cases h : w = 0
    · subst h
      rw [if_pos rfl, fz0]
      simp
    · rw [if_neg h, cg_fz r w]
      simp
theorem neg_sc {x l c : Int} (hc : c ≠ 0) : (x * c * (l * c) < 0) = (x * l < 0) := by
  have e : x * c * (l * c) = (x * l) * (c * c) := by
    rw [Int.mul_assoc, Int.mul_left_comm c l c, ← Int.mul_assoc]
  have p : 0 < c * c := by
    rcases Int.lt_or_gt_of_ne hc with h | h
    · exact Int.mul_pos_of_neg_of_neg h h
    · exact Int.mul_pos h h
  rw [e]
  apply propext
  constructor
  · intro h
    refine Int.lt_of_not_ge fun g => ?_
    have := Int.mul_nonneg g (Int.le_of_lt p)
    omega
  · intro h
    exact Int.mul_neg_of_neg_of_pos h p
theorem cg_scl {c : Int} (hc : c ≠ 0) : ∀ (xs : List Int) (l : Int), cg (l * c) (xs.map (· * c)) = cg l xs
  | [], _ => rfl
  | w :: r, l => by
    show (if w * c * (l * c) < 0 then 1 else 0) + cg (if w * c = 0 then l * c else w * c) (r.map (· * c)) = (if w * l < 0 then 1 else 0) + cg (if w = 0 then l else w) r
    rw [← cg_scl hc r]
    congr 1
    · simp only [neg_sc hc]
    · congr 1
      by_cases h : w = 0
      · subst h
        simp
      · rw [if_neg h, if_neg (Int.mul_ne_zero h hc)]
/-- the last that isn't nought, else l -/
def lz : Int → List Int → Int
  | l, [] => l
  | l, w :: r => lz (if w = 0 then l else w) r
theorem cg_app : ∀ (xs : List Int) (l : Int) (ys : List Int), cg l (xs ++ ys) = cg l xs + cg (lz l xs) ys
  | [], l, ys => (Nat.zero_add _).symm
  | w :: r, l, ys => by
    show (if w * l < 0 then 1 else 0) + cg (if w = 0 then l else w) (r ++ ys) = ((if w * l < 0 then 1 else 0) + cg (if w = 0 then l else w) r) + cg (lz (if w = 0 then l else w) r) ys
    rw [cg_app r]
    omega
theorem lz_last : ∀ (xs : List Int) (l : Int) (h : xs ≠ []), xs.getLast h ≠ 0 → lz l xs = xs.getLast h
  | [w], l, _, hw => by
    show lz (if w = 0 then l else w) [] = w
    have hw2 : w ≠ 0 := hw
    rw [if_neg hw2]
    rfl
  | w :: y :: r, l, _, hw => by
    show lz (if w = 0 then l else w) (y :: r) = _
    rw [lz_last (y :: r) _ (by simp) (by simpa using hw)]
    simp
/-- turned end to end: the changes of those that aren't nought -/
def ad : List Int → Nat
  | [] => 0
  | [_] => 0
  | x :: y :: r => (if y * x < 0 then 1 else 0) + ad (y :: r)
theorem cg_nz : ∀ (xs : List Int) (l : Int), cg l xs = cg l (xs.filter (· ≠ 0))
  | [], _ => rfl
  | w :: r, l => by
    by_cases h : w = 0
    · subst h
      rw [List.filter_cons_of_neg (by simp), ← cg_nz r l]
      show (if 0 * l < 0 then 1 else 0) + cg (if (0 : Int) = 0 then l else 0) r = _
      simp
    · rw [List.filter_cons_of_pos (by simpa using h)]
      show (if w * l < 0 then 1 else 0) + cg (if w = 0 then l else w) r = (if w * l < 0 then 1 else 0) + cg (if w = 0 then l else w) (r.filter (· ≠ 0))
      rw [if_neg h, ← cg_nz r w]
theorem cg_ad : ∀ (xs : List Int) (l : Int), (∀ x ∈ xs, x ≠ 0) → cg l xs = ad (l :: xs)
  | [], _, _ => rfl
  | w :: r, l, h => by
    have hw := h w (List.mem_cons_self ..)
    show (if w * l < 0 then 1 else 0) + cg (if w = 0 then l else w) r = (if w * l < 0 then 1 else 0) + ad (w :: r)
    rw [if_neg hw, cg_ad r w fun x hx => h x (List.mem_cons_of_mem _ hx)]
theorem ad_snoc : ∀ (xs : List Int) (x y : Int), ad (xs ++ [x, y]) = ad (xs ++ [x]) + (if y * x < 0 then 1 else 0)
  | [], x, y => by
    show (if y * x < 0 then 1 else 0) + 0 = 0 + _
    omega
  | [z], x, y => by
    show (if x * z < 0 then 1 else 0) + ((if y * x < 0 then 1 else 0) + 0) = ((if x * z < 0 then 1 else 0) + 0) + _
    omega
  | z :: w :: r, x, y => by
    have ih := ad_snoc (w :: r) x y
    show (if w * z < 0 then 1 else 0) + ad (w :: r ++ [x, y]) = ((if w * z < 0 then 1 else 0) + ad (w :: r ++ [x])) + _
    rw [ih]
    omega
theorem ad_rev : ∀ xs : List Int, ad xs.reverse = ad xs
  | [] => rfl
  | [_] => rfl
  | x :: y :: r => by
    have ih := ad_rev (y :: r)
    have e : (x :: y :: r).reverse = r.reverse ++ [y, x] := by simp
    rw [e, ad_snoc]
    have e2 : r.reverse ++ [y] = (y :: r).reverse := by simp
    rw [e2, ih]
    show _ = (if y * x < 0 then 1 else 0) + ad (y :: r)
    rw [Int.mul_comm x y]
    omega
theorem ad0 (xs : List Int) : ad (0 :: xs) = ad xs := by
  cases xs with
  | nil => rfl
  | cons y r =>
    show (if y * 0 < 0 then 1 else 0) + ad (y :: r) = _
    simp
theorem cg_rev (xs : List Int) : cg 0 xs.reverse = cg 0 xs := by
  have nz : ∀ ys : List Int, ∀ x ∈ ys.filter (· ≠ 0), x ≠ 0 := fun ys x hx => by simpa using (List.mem_filter.mp hx).2
  rw [cg_nz, cg_nz xs, cg_ad _ _ (nz _), cg_ad _ _ (nz _), ad0, ad0, List.filter_reverse, ad_rev]
end Rc
namespace Rc
open PySem
theorem add_tzl {a : List Int} {y : List D} {Q : Val → Prop} : opW .Add (tz a) (.tuple y) Q = (a.length + y.length ≤ 16777216 ∧ Q (.d (.tuple (a.map .int ++ y)))) := by
  show ((a.map PyData.int).length + y.length ≤ 16777216 ∧ Q (.d (.tuple (a.map .int ++ y)))) = _
  rw [List.length_map]
theorem rev_tz {a : List Int} {Q : Val → Prop} : revW (tz a) Q = Q (.d (.tuple (a.map PyData.int).reverse)) := rfl
theorem cg_scl0 {c : Int} (hc : c ≠ 0) (xs : List Int) : cg 0 (xs.map (· * c)) = cg 0 xs := by
  have := cg_scl hc xs 0
  rwa [Int.zero_mul] at this
theorem cg_cons0 (xs : List Int) : cg 0 (0 :: xs) = cg 0 xs := by
  show (if (0 : Int) * 0 < 0 then 1 else 0) + cg (if (0 : Int) = 0 then 0 else 0) xs = _
  simp
theorem cg_same {xs : List Int} {L : Int} (h : xs ≠ []) (h0 : xs.getLast h ≠ 0) (hs : ¬ L * xs.getLast h < 0) : cg 0 (xs ++ [L]) = cg 0 xs := by
  rw [cg_app, lz_last xs 0 h h0]
  show _ + ((if L * xs.getLast h < 0 then 1 else 0) + 0) = _
  rw [if_neg hs]
  rfl
theorem cg_other {xs : List Int} {L : Int} (h : xs ≠ []) (h0 : xs.getLast h ≠ 0) (hs : L * xs.getLast h < 0) : cg 0 (xs ++ [0, L]) = cg 0 xs + 1 := by
  rw [cg_app, lz_last xs 0 h h0]
  show _ + ((if 0 * xs.getLast h < 0 then 1 else 0) + ((if L * (if (0 : Int) = 0 then xs.getLast h else 0) < 0 then 1 else 0) + 0)) = _
  rw [if_pos rfl, if_pos hs]
  simp
end Rc

/-! Derived polynomials, one put into another. -/
namespace Rc
open PySem
def dL (a : List Int) : List Int := (List.range (a.length - 1)).map fun (n : Nat) => ((n : Int) + 1) * cf a (n + 1)
def Df (g : Nat → Int) : Nat → Int := fun n => ((n : Int) + 1) * g (n + 1)
theorem cf_dL (a : List Int) (n : Nat) : cf (dL a) n = Df (cf a) n := cf_range (f := Df (cf a)) (fun n hn => by
  show ((n : Int) + 1) * cf a (n + 1) = 0
  rw [cf_ge (by omega), Int.mul_zero]) n
theorem e_dL {a b : List Int} (h : E a b) : E (dL a) (dL b) := fun n => by
  rw [cf_dL, cf_dL]
  show ((n : Int) + 1) * cf a (n + 1) = ((n : Int) + 1) * cf b (n + 1)
  rw [h]
theorem d_add (a b : List Int) : E (dL (addL a b)) (addL (dL a) (dL b)) := fun n => by
  rw [cf_dL, cf_addL, cf_dL, cf_dL]
  show ((n : Int) + 1) * cf (addL a b) (n + 1) = ((n : Int) + 1) * cf a (n + 1) + ((n : Int) + 1) * cf b (n + 1)
  rw [cf_addL, Int.mul_add]
theorem df_sh (h : Nat → Int) (n : Nat) : Df (sh 1 h) n = h n + sh 1 (Df h) n := by
  show ((n : Int) + 1) * sh 1 h (n + 1) = _
  unfold sh
  rw [if_pos (by omega), Nat.add_sub_cancel]
  cases n with
  | zero =>
    rw [if_neg (by decide)]
    simp
  | succ m =>
    rw [if_pos (by omega), Nat.add_sub_cancel]
    show (((m + 1 : Nat) : Int) + 1) * h (m + 1) = h (m + 1) + ((m : Int) + 1) * h (m + 1)
    rw [Int.add_mul, Int.one_mul, Int.add_comm]
    congr 1
theorem d_cons (x : Int) (r : List Int) : E (dL (x :: r)) (addL r (0 :: dL r)) := fun n => by
  rw [cf_dL, cf_addL, cf_cons 0 (dL r)]
  have e : Df (cf (x :: r)) n = Df (sh 1 (cf r)) n := by
    show ((n : Int) + 1) * cf (x :: r) (n + 1) = ((n : Int) + 1) * sh 1 (cf r) (n + 1)
    rw [cf_cons]
    simp
  rw [e, df_sh, sh_congr (fun i => (cf_dL r i).symm)]
  simp
/-- so many places higher -/
theorem e_shift {a b : List Int} (h : E a b) : E (0 :: a) (0 :: b) := fun n => by rw [cf_cons, cf_cons, sh_congr h]
theorem m_cons (x : Int) (r b : List Int) : E (mulL (x :: r) b) (addL (sclL b x) (0 :: mulL r b)) := fun n => by
  rw [cf_mulL, cf_addL, cf_sclL, cf_cons]
  show x * cf b n + sh 1 (mulF r (cf b)) n = _
  rw [sh_congr (cf_mulL r b), Int.mul_comm]
  simp
theorem m_shift (a b : List Int) : E (mulL (0 :: a) b) (0 :: mulL a b) := (m_cons 0 a b).trans fun n => by
  rw [cf_addL, cf_sclL]
  omega
theorem e_distR (a b c : List Int) : E (mulL (addL a b) c) (addL (mulL a c) (mulL b c)) :=
  (e_mulC _ _).trans ((e_dist c a b).trans (e_add (e_mulC _ _) (e_mulC _ _)))
theorem d_mul : ∀ a b : List Int, E (dL (mulL a b)) (addL (mulL (dL a) b) (mulL a (dL b)))
  | [], b => fun n => by
    rw [cf_dL, cf_addL, cf_mulL, cf_mulL]
    show ((n : Int) + 1) * cf (mulL [] b) (n + 1) = 0 + 0
    rw [cf_mulL]
    show _ * 0 = _
    rw [Int.mul_zero]
    rfl
  | x :: r, b => fun n => by
    have ih := d_mul r b
    have l1 := e_dL (m_cons x r b) n
    have l2 := d_add (sclL b x) (0 :: mulL r b) n
    have l3 : cf (dL (sclL b x)) n = cf (dL b) n * x := by
      rw [cf_dL, cf_dL]
      show ((n : Int) + 1) * cf (sclL b x) (n + 1) = ((n : Int) + 1) * cf b (n + 1) * x
      rw [cf_sclL, Int.mul_assoc]
    have l4 := d_cons 0 (mulL r b) n
    have l5 := e_shift ih n
    have r1 := e_mul (d_cons x r) (E.rfl (a := b)) n
    have r2 := e_distR r (0 :: dL r) b n
    have r3 := m_shift (dL r) b n
    have r4 := m_cons x r (dL b) n
    rw [cf_addL] at l2 l4 r2 r4
    rw [cf_cons] at l5 r3
    rw [cf_sclL] at r4
    rw [cf_cons 0 (addL _ _), sh_congr (cf_addL _ _), sh_add] at l5
    rw [cf_cons] at r4
    rw [cf_addL, l1, l2, l3, l4, cf_cons 0 (dL (mulL r b)), r1, r2, r3, r4]
    simp only [ite_self] at *
    omega
/-! ### one put into another -/
def cL : List Int → List Int → List Int
  | [], _ => []
  | w :: r, b => addL (mulL (cL r b) b) [w]
theorem cL_trimR (b : List Int) : ∀ a : List Int, E (cL (trimR a) b) (cL a b)
  | [] => E.rfl
  | x :: r => by
    have ih := cL_trimR b r
    unfold trimR
    cases e : trimR r with
    | nil =>
      rw [e] at ih
      have h1 : E (mulL (cL r b) b) [] := (e_mul ih.symm E.rfl).trans fun n => by rw [cf_mulL]; rfl
      show E (cL (if x = 0 then [] else [x]) b) (addL (mulL (cL r b) b) [x])
      by_cases hx : x = 0
      · rw [if_pos hx, hx]
        refine (fun n => ?_ : E [] _)
        rw [cf_addL, h1 n, cf_nil]
        cases n <;> rfl
      · rw [if_neg hx]
        show E (addL (mulL (cL [] b) b) [x]) _
        exact e_add (e_mul ih E.rfl) E.rfl
    | cons y t =>
      rw [e] at ih
      show E (addL (mulL (cL (y :: t) b) b) [x]) (addL (mulL (cL r b) b) [x])
      exact e_add (e_mul ih E.rfl) E.rfl
theorem cL_E {a a' b : List Int} (h : E a a') : E (cL a b) (cL a' b) := by
  refine (cL_trimR b a).symm.trans ?_
  rw [trimR_ext h]
  exact cL_trimR b a'
theorem cL_E2 {b b' : List Int} (h : E b b') : ∀ a : List Int, E (cL a b) (cL a b')
  | [] => E.rfl
  | w :: r => e_add (e_mul (cL_E2 h r) h) E.rfl
theorem nilL (a : List Int) : E (addL [] a) a := fun n => by rw [cf_addL, cf_nil]; omega
theorem nilR (a : List Int) : E (addL a []) a := fun n => by rw [cf_addL, cf_nil]; omega
theorem swap4 (a b c d : List Int) : E (addL (addL a b) (addL c d)) (addL (addL a c) (addL b d)) := fun n => by simp only [cf_addL]; omega
theorem cL_add (b : List Int) : ∀ x y : List Int, E (cL (addL x y) b) (addL (cL x b) (cL y b))
  | [], y => (cL_E (nilL y)).trans (nilL _).symm
  | x :: r, [] => (cL_E (nilR _)).trans (nilR _).symm
  | x :: r, y :: t => by
    have h1 : E (addL (x :: r) (y :: t)) ((x + y) :: addL r t) := fun n => by
      cases n with
      | zero => rw [cf_addL]; rfl
      | succ n => rw [cf_addL, cf_s, cf_s, cf_s, cf_addL]
    have h2 : E [x + y] (addL [x] [y]) := fun n => by
      rw [cf_addL]
      cases n <;> rfl
    refine (cL_E h1).trans ?_
    show E (addL (mulL (cL (addL r t) b) b) [x + y]) (addL (addL (mulL (cL r b) b) [x]) (addL (mulL (cL t b) b) [y]))
    exact (e_add ((e_mul (cL_add b r t) E.rfl).trans (e_distR _ _ _)) h2).trans (swap4 _ _ _ _)
theorem d_one (w : Int) : E (dL [w]) [] := fun n => by
  rw [cf_dL]
  show ((n : Int) + 1) * cf [w] (n + 1) = 0
  rw [cf_s, cf_nil, Int.mul_zero]
/-- the rule of chains -/
theorem d_chain (b : List Int) : ∀ a : List Int, E (dL (cL a b)) (mulL (cL (dL a) b) (dL b))
  | [] => fun n => by
    rw [cf_dL, cf_mulL]
    show ((n : Int) + 1) * 0 = 0
    omega
  | w :: r => by
    have ih := d_chain b r
    -- left
    have l : E (dL (cL (w :: r) b)) (addL (mulL (mulL (cL (dL r) b) (dL b)) b) (mulL (cL r b) (dL b))) :=
      (d_add _ _).trans ((e_add E.rfl (d_one w)).trans ((nilR _).trans ((d_mul _ _).trans (e_add (e_mul ih E.rfl) E.rfl))))
    -- right
    have z : E (cL (0 :: dL r) b) (mulL (cL (dL r) b) b) := fun n => by
      show cf (addL (mulL (cL (dL r) b) b) [0]) n = _
      rw [cf_addL]
      have : cf [0] n = 0 := by cases n <;> rfl
      omega
    have m : E (cL (dL (w :: r)) b) (addL (cL r b) (mulL (cL (dL r) b) b)) :=
      (cL_E (d_cons w r)).trans ((cL_add b r _).trans (e_add E.rfl z))
    have rr : E (mulL (cL (dL (w :: r)) b) (dL b)) (addL (mulL (cL r b) (dL b)) (mulL (mulL (cL (dL r) b) b) (dL b))) := (e_mul m E.rfl).trans (e_distR _ _ _)
    have sw : E (mulL (mulL (cL (dL r) b) (dL b)) b) (mulL (mulL (cL (dL r) b) b) (dL b)) :=
      (e_mulA _ _ _).trans ((e_mul E.rfl (e_mulC _ _)).trans (e_mulA _ _ _).symm)
    exact l.trans ((e_addC _ _).trans ((e_add E.rfl sw).trans rr.symm))
theorem cL_id : ∀ a : List Int, E (cL a [0, 1]) a
  | [] => E.rfl
  | w :: r => by
    have ih := cL_id r
    show E (addL (mulL (cL r [0, 1]) [0, 1]) [w]) (w :: r)
    refine (e_add ((e_mul ih E.rfl).trans (e_mulC _ _)) E.rfl).trans ?_
    refine (e_add ((m_shift [1] r).trans (e_shift ((e_mulC _ _).trans (e_one r)))) E.rfl).trans fun n => ?_
    rw [cf_addL, cf_cons, cf_cons w r, cf_cons w []]
    have : sh 1 (cf []) n = 0 := by
      unfold sh
      split <;> rfl
    simp only [ite_self]
    omega
theorem id_cL (b : List Int) : E (cL [0, 1] b) b := by
  show E (addL (mulL (addL (mulL [] b) [1]) b) [0]) b
  have h0 : E (mulL [] b) [] := fun n => by rw [cf_mulL]; rfl
  have h1 : E (addL (mulL (addL (mulL [] b) [1]) b) [0]) (addL b [0]) := e_add ((e_mul ((e_add h0 E.rfl).trans (nilL _)) E.rfl).trans ((e_mulC _ _).trans (e_one b))) E.rfl
  refine h1.trans fun n => ?_
  rw [cf_addL]
  have : cf [0] n = 0 := by cases n <;> rfl
  omega
theorem ev_cL (q : Rat) (b : List Int) : ∀ a : List Int, ev q (cL a b) = ev (ev q b) a
  | [] => rfl
  | w :: r => by
    show ev q (addL (mulL (cL r b) b) [w]) = (w : Rat) + ev q b * ev (ev q b) r
    rw [ev_add, ev_mul, ev_cL q b r]
    show _ + ((w : Rat) + q * 0) = _
    grind
/-- as the program puts in -/
def cT : List Int → List Int → List Int
  | [], _ => []
  | w :: r, b => trim (addL (trim (mulL (cT r b) b)) (trim [w]))
theorem cT_E (b : List Int) : ∀ a : List Int, E (cT a b) (cL a b)
  | [] => E.rfl
  | w :: r => (e_trim _).trans (e_add ((e_trim _).trans (e_mul (cT_E b r) E.rfl)) (e_trim _))
theorem cT_pn (b : List Int) : ∀ a : List Int, Pn (cT a b)
  | [] => by
    show trim [] = []
    rfl
  | w :: r => pn_trim _
theorem cT_eq {a b c : List Int} (hc : Pn c) (h : E (cL a b) c) : cT a b = c := pn_ext (cT_pn b a) hc ((cT_E b a).trans h)
theorem len_mulL (a b : List Int) : (mulL a b).length = a.length + b.length := by
  unfold mulL
  rw [List.length_map, List.length_range]
theorem cT_len (b : List Int) : ∀ a : List Int, (cT a b).length ≤ 1 + a.length * b.length
  | [] => Nat.zero_le _
  | w :: r => by
    have ih := cT_len b r
    have h1 := trim_len (addL (trim (mulL (cT r b) b)) (trim [w]))
    rw [len_addL] at h1
    have h2 := trim_len (mulL (cT r b) b)
    rw [len_mulL] at h2
    have h3 : (trim [w]).length ≤ 1 := trim_len [w]
    have e : (r.length + 1) * b.length = r.length * b.length + b.length := Nat.succ_mul _ _
    show (trim (addL (trim (mulL (cT r b) b)) (trim [w]))).length ≤ 1 + (r.length + 1) * b.length
    omega
theorem cT_bl {n p m q : Nat} {b : List Int} (hb : Bl m q b) (hq : 1 ≤ q) : ∀ a : List Int, (∀ w ∈ a, Bt p w) → (a.length ≤ n) → Bl (1 + n * m) (p + 1 + a.length * (q + (1 + n * m) + 1)) (cT a b)
  | [], _, _ => bl0
  | w :: r, h, hl => by
    have hl2 : r.length + 1 ≤ n := hl
    have ih := cT_bl (n := n) hb hq r (fun z hz => h z (List.mem_cons_of_mem _ hz)) (by omega)
    have s1 : Bl 1 p [w] := ⟨Nat.le_refl 1, fun x hx => by
      rw [List.mem_singleton] at hx
      subst hx
      exact h x (List.mem_cons_self ..)⟩
    have e : (r.length + 1) * (q + (1 + n * m) + 1) = r.length * (q + (1 + n * m) + 1) + (q + (1 + n * m) + 1) := Nat.succ_mul _ _
    have t := bl_trim (bl_add ((bl_trim (bl_mul ih hb)).mono (Nat.le_refl _) (show _ ≤ p + 1 + r.length * (q + (1 + n * m) + 1) + (q + (1 + n * m)) by omega)) ((bl_trim s1).mono (Nat.le_refl 1) (show p ≤ _ by omega)))
    refine ⟨?_, fun x hx => (t.2 x hx).mono ?_⟩
    · have := cT_len b (w :: r)
      have h3 : (w :: r).length * b.length ≤ n * m := Nat.mul_le_mul hl hb.1
      omega
    · show _ ≤ p + 1 + (r.length + 1) * (q + (1 + n * m) + 1)
      omega
end Rc
namespace Rc
open PySem
theorem bl_d {n p : Nat} {a : List Int} (h : Bl n p a) (hn : n ≤ 100000) : Bl n (17 + p) (dL a) := by
  refine ⟨?_, fun x hx => ?_⟩
  · have := h.1
    unfold dL
    rw [List.length_map, List.length_range]
    omega
  · obtain ⟨i, hi, rfl⟩ := List.mem_map.mp hx
    have := List.mem_range.mp hi
    have := h.1
    refine Bt.mul ?_ (bl_cf h (i + 1))
    unfold Bt
    have e : (2 : Nat) ^ 17 = 131072 := by decide
    omega
theorem cf_drop1 (xs : List Int) (n : Nat) : cf (xs.drop 1) n = cf xs (n + 1) := by
  cases xs <;> rfl
theorem cut_drop1 {α : Type} (xs : List α) : cut xs (some 1) none = xs.drop 1 := by
  unfold cut
  rw [HT.sIx_none]
  have : HT.sIx xs.length 0 (some 1) = min 1 xs.length := HT.sIx_nat _ _ 1
  rw [this]
  cases xs with
  | nil => rfl
  | cons x r =>
    rw [List.length_cons, show min 1 (r.length + 1) = 1 by omega]
    simp
theorem cut_deriv (a : List Int) : trim (((List.range a.length).map fun (n : Nat) => (n : Int) * cf a n).drop 1) = trim (dL a) := trim_ext fun n => by
  rw [cf_drop1, cf_range (f := fun (n : Nat) => (n : Int) * cf a n) (fun n hn => by
    show (n : Int) * cf a n = 0
    rw [cf_ge hn, Int.mul_zero]), cf_dL]
  show ((n + 1 : Nat) : Int) * cf a (n + 1) = ((n : Int) + 1) * cf a (n + 1)
  rfl
end Rc
namespace Rc
open PySem
theorem isPolyV_pn {a : List Int} (h : Pn a) : isPolyV (.tuple (a.map .int)) = true := by
  rw [← h]
  exact isPolyV_tz
end Rc
namespace Rc
theorem isPolyV_tp {a : List Int} (h : Pn a) : isPolyV (tz a) = true := isPolyV_pn h
end Rc

/-! Polynomials as a ring of their own: lists in plain form. -/
namespace Rc
open PySem
structure Po where
  l : List Int
  pn : Pn l
namespace Po
def cf (p : Po) (n : Nat) : Int := Rc.cf p.l n
theorem ext' {p q : Po} (h : ∀ n, p.cf n = q.cf n) : p = q := by
  obtain ⟨a, ha⟩ := p
  obtain ⟨b, hb⟩ := q
  have : a = b := pn_ext ha hb h
  subst this
  rfl
theorem extL {p q : Po} (h : p.l = q.l) : p = q := by
  obtain ⟨a, ha⟩ := p
  obtain ⟨b, hb⟩ := q
  have : a = b := h
  subst this
  rfl
def ofL (a : List Int) : Po := ⟨trim a, pn_trim a⟩
theorem cf_ofL (a : List Int) (n : Nat) : (ofL a).cf n = Rc.cf a n := cf_trim a n
def C (c : Int) : Po := ofL [c]
theorem cf_C (c : Int) (n : Nat) : (C c).cf n = if n = 0 then c else 0 := by
  show Po.cf (ofL [c]) n = _
  rw [cf_ofL]
  cases n <;> simp [Rc.cf]
instance : Add Po := ⟨fun p q => ofL (addL p.l q.l)⟩
instance : Mul Po := ⟨fun p q => ofL (mulL p.l q.l)⟩
instance : Neg Po := ⟨fun p => ofL (sclL p.l (-1))⟩
instance : _root_.Sub Po := ⟨fun p q => p + -q⟩
instance : NatCast Po := ⟨fun n => C n⟩
instance : IntCast Po := ⟨C⟩
instance (n : Nat) : OfNat Po n := ⟨C n⟩
def npow (p : Po) : Nat → Po
  | 0 => C 1
  | n + 1 => npow p n * p
instance : HPow Po Nat Po := ⟨npow⟩
instance : SMul Nat Po := ⟨fun n p => C n * p⟩
instance : SMul Int Po := ⟨fun n p => C n * p⟩
theorem cf_add (p q : Po) (n : Nat) : (p + q).cf n = p.cf n + q.cf n := by
  show (ofL (addL p.l q.l)).cf n = _
  rw [cf_ofL, cf_addL]
  rfl
theorem cf_neg (p : Po) (n : Nat) : (-p).cf n = -p.cf n := by
  show (ofL (sclL p.l (-1))).cf n = _
  rw [cf_ofL, cf_sclL]
  show Rc.cf p.l n * -1 = -Rc.cf p.l n
  omega
theorem cf_sub (p q : Po) (n : Nat) : (p - q).cf n = p.cf n - q.cf n := by
  show (p + -q).cf n = _
  rw [cf_add, cf_neg]
  omega
theorem cf_mul (p q : Po) (n : Nat) : (p * q).cf n = mulF p.l (Rc.cf q.l) n := by
  show (ofL (mulL p.l q.l)).cf n = _
  rw [cf_ofL, cf_mulL]
theorem e_l (p q : Po) : E (p * q).l (mulL p.l q.l) := fun n => cf_trim _ n
theorem e_la (p q : Po) : E (p + q).l (addL p.l q.l) := fun n => cf_trim _ n
theorem cf_0 (n : Nat) : (0 : Po).cf n = 0 := by
  show (C 0).cf n = 0
  rw [cf_C]
  split <;> rfl
theorem cf_Cmul (c : Int) (p : Po) (n : Nat) : (C c * p).cf n = c * p.cf n := by
  show Rc.cf (C c * p).l n = c * Rc.cf p.l n
  have h1 : E (mulL (C c).l p.l) (mulL p.l [c]) := (e_mul (e_trim [c]) E.rfl).trans (e_mulC _ _)
  rw [e_l, h1, cf_mulL, mulF_congr p.l (g := fun i => if i = 0 then c else 0) (fun i => by cases i <;> simp [Rc.cf]) n, mulF_one, Int.mul_comm]
theorem mul_comm' (p q : Po) : p * q = q * p := ext' fun n => by
  show Rc.cf (p * q).l n = Rc.cf (q * p).l n
  rw [e_l, e_l, e_mulC]
theorem mul_assoc' (p q r : Po) : p * q * r = p * (q * r) := ext' fun n => by
  show Rc.cf (p * q * r).l n = Rc.cf (p * (q * r)).l n
  rw [e_l, e_l, e_mul (e_l p q) E.rfl, e_mulA, e_mul E.rfl (e_l q r)]
theorem dist' (p q r : Po) : p * (q + r) = p * q + p * r := ext' fun n => by
  show Rc.cf (p * (q + r)).l n = Rc.cf (p * q + p * r).l n
  rw [e_l, e_la, e_mul E.rfl (e_la q r), e_dist, e_add (e_l p q) (e_l p r)]
theorem one' (p : Po) : p * 1 = p := by
  rw [mul_comm']
  refine ext' fun n => ?_
  show (C 1 * p).cf n = _
  rw [cf_Cmul, Int.one_mul]
instance : Lean.Grind.CommRing Po where
  add_zero a := ext' fun n => by rw [cf_add, cf_0]; omega
  add_comm a b := ext' fun n => by rw [cf_add, cf_add]; omega
  add_assoc a b c := ext' fun n => by simp only [cf_add]; omega
  mul_assoc := mul_assoc'
  mul_one := one'
  left_distrib := dist'
  zero_mul a := ext' fun n => by
    show (C 0 * a).cf n = _
    rw [cf_Cmul, cf_0, Int.zero_mul]
  pow_zero a := rfl
  pow_succ a n := rfl
  ofNat_succ n := ext' fun i => by
    show (C ((n + 1 : Nat) : Int)).cf i = (C (n : Int) + C 1).cf i
    rw [cf_add, cf_C, cf_C, cf_C]
    split <;> omega
  ofNat_eq_natCast n := rfl
  nsmul_eq_natCast_mul n a := rfl
  neg_add_cancel a := ext' fun n => by rw [cf_add, cf_neg, cf_0]; omega
  sub_eq_add_neg a b := rfl
  neg_zsmul i a := ext' fun n => by
    show (C (-i) * a).cf n = (-(C i * a)).cf n
    rw [cf_neg, cf_Cmul, cf_Cmul, Int.neg_mul]
  zsmul_natCast_eq_nsmul n a := rfl
  intCast_ofNat n := rfl
  intCast_neg i := ext' fun n => by
    show (C (-i)).cf n = (-(C i)).cf n
    rw [cf_neg, cf_C, cf_C]
    split <;> omega
  one_mul a := by rw [mul_comm', one']
  mul_zero a := by
    rw [mul_comm']
    exact ext' fun n => by
      show (C 0 * a).cf n = _
      rw [cf_Cmul, cf_0, Int.zero_mul]
  right_distrib a b c := by rw [mul_comm', dist', mul_comm' c, mul_comm' c]
  mul_comm := mul_comm'
example (a b c d : Po) (h : a * b = c + d) : a * a * b - d * a = a * c := by grind
theorem C_add (a b : Int) : C (a + b) = C a + C b := ext' fun n => by
  rw [cf_add, cf_C, cf_C, cf_C]
  split <;> omega
theorem C_mul (a b : Int) : C (a * b) = C a * C b := ext' fun n => by
  rw [cf_Cmul, cf_C, cf_C]
  split
  · rfl
  · omega
theorem C_neg (a : Int) : C (-a) = -C a := ext' fun n => by
  rw [cf_neg, cf_C, cf_C]
  split <;> omega
theorem C_sub (a b : Int) : C (a - b) = C a - C b := ext' fun n => by
  rw [cf_sub, cf_C, cf_C, cf_C]
  split <;> omega
theorem C0 : C 0 = 0 := rfl
theorem C1 : C 1 = 1 := rfl
theorem C_inj {a b : Int} (h : C a = C b) : a = b := by
  have := congrArg (fun p => Po.cf p 0) h
  simpa [cf_C] using this
/-! ### degrees -/
def len (p : Po) : Nat := p.l.length
theorem l0 : (0 : Po).l = [] := rfl
theorem len0 : (0 : Po).len = 0 := rfl
theorem eq0 {p : Po} (h : p.len = 0) : p = 0 := extL (List.length_eq_zero_iff.mp h)
theorem ne0 {p : Po} : p ≠ 0 ↔ p.len ≠ 0 := ⟨fun h z => h (eq0 z), fun h z => h (by rw [z]; rfl)⟩
theorem ne0_l {p : Po} : p ≠ 0 ↔ p.l ≠ [] := ⟨fun h z => h (extL z), fun h z => h (by rw [z]; rfl)⟩
theorem eq0_l {p : Po} : p = 0 ↔ p.l = [] := ⟨fun h => by rw [h]; rfl, fun h => extL h⟩
def lc (p : Po) : Int := p.cf (p.len - 1)
theorem lc_ne {p : Po} (h : p ≠ 0) : p.lc ≠ 0 := pn_lead p.pn (ne0_l.mp h)
theorem lc0 : (0 : Po).lc = 0 := rfl
theorem cf_ge {p : Po} {n : Nat} (h : p.len ≤ n) : p.cf n = 0 := Rc.cf_ge h
theorem len_le {p : Po} {m : Nat} (h : ∀ n, m ≤ n → p.cf n = 0) : p.len ≤ m := by
  by_cases h0 : p = 0
  · subst h0; exact Nat.zero_le _
  · refine Nat.le_of_not_lt fun hl => lc_ne h0 (h _ ?_)
    omega
theorem len_eq {p : Po} {m : Nat} (h1 : p.cf m ≠ 0) (h2 : ∀ n, m < n → p.cf n = 0) : p.len = m + 1 := by
  have a := len_le (p := p) (m := m + 1) fun n hn => h2 n (by omega)
  have b : m < p.len := Nat.lt_of_not_le fun h => h1 (cf_ge h)
  omega
theorem len_add (p q : Po) : (p + q).len ≤ max p.len q.len := len_le fun n hn => by
  rw [cf_add, cf_ge (by omega), cf_ge (by omega)]
  rfl
theorem len_sub (p q : Po) : (p - q).len ≤ max p.len q.len := len_le fun n hn => by
  rw [cf_sub, cf_ge (by omega), cf_ge (by omega)]
  rfl
theorem len_neg (p : Po) : (-p).len = p.len := by
  have key : ∀ q : Po, (-q).len ≤ q.len := fun q => len_le fun n hn => by
    rw [cf_neg, cf_ge hn]
    rfl
  have a := key p
  have b := key (-p)
  have e : - -p = p := by grind
  rw [e] at b
  omega
theorem len_mul {p q : Po} (hp : p ≠ 0) (hq : q ≠ 0) : (p * q).len = p.len + q.len - 1 := Rc.len_mul p.pn q.pn (ne0_l.mp hp) (ne0_l.mp hq)
theorem len_pos {p : Po} (h : p ≠ 0) : 0 < p.len := Nat.pos_of_ne_zero (ne0.mp h)
theorem mul_ne {p q : Po} (hp : p ≠ 0) (hq : q ≠ 0) : p * q ≠ 0 := by
  have := len_mul hp hq
  have a := len_pos hp
  have b := len_pos hq
  exact ne0.mpr (by omega)
theorem mul_eq0 {p q : Po} (h : p * q = 0) : p = 0 ∨ q = 0 := by
  by_cases hp : p = 0
  · exact .inl hp
  · by_cases hq : q = 0
    · exact .inr hq
    · exact absurd h (mul_ne hp hq)
theorem cancel {p q r : Po} (hp : p ≠ 0) (h : p * q = p * r) : q = r := by
  have : p * (q - r) = 0 := by grind
  rcases mul_eq0 this with z | z
  · exact absurd z hp
  · grind
theorem C_ne {c : Int} (h : c ≠ 0) : C c ≠ 0 := fun z => h (C_inj (z.trans C0.symm))
theorem len_C {c : Int} (h : c ≠ 0) : (C c).len = 1 := len_eq (m := 0) (by rw [cf_C, if_pos rfl]; exact h) fun n hn => by rw [cf_C, if_neg (by omega)]
theorem len_Cle (c : Int) : (C c).len ≤ 1 := len_le fun n hn => by rw [cf_C, if_neg (by omega)]
theorem len_Cmul {c : Int} (h : c ≠ 0) (p : Po) : (C c * p).len = p.len := by
  by_cases hp : p = 0
  · subst hp
    have : C c * 0 = 0 := by grind
    rw [this]
  · rw [len_mul (C_ne h) hp, len_C h]
    omega
theorem len_Cmul_le (c : Int) (p : Po) : (C c * p).len ≤ p.len := len_le fun n hn => by rw [cf_Cmul, cf_ge hn, Int.mul_zero]
theorem len1 {p : Po} (h : p.len ≤ 1) : p = C (p.cf 0) := ext' fun n => by
  rw [cf_C]
  split
  · rename_i e; rw [e]
  · exact cf_ge (by omega)
theorem lc_mul {p q : Po} (hp : p ≠ 0) (hq : q ≠ 0) : (p * q).lc = p.lc * q.lc := by
  have a := len_pos hp
  have b := len_pos hq
  unfold lc
  rw [len_mul hp hq, show p.len + q.len - 1 - 1 = p.l.length - 1 + (q.len - 1) by unfold len; unfold len at a b; omega, cf_mul, mulF_top p.l (ne0_l.mp hp) (m := q.len - 1) fun n hn => Rc.cf_ge (show q.l.length ≤ n from by unfold len at hn b; omega)]
  rfl
theorem lc_C (c : Int) : (C c).lc = c := by
  by_cases h : c = 0
  · subst h; rfl
  · unfold lc
    rw [len_C h, cf_C, if_pos (by omega)]
theorem lc_Cmul (c : Int) (p : Po) : (C c * p).lc = c * p.lc := by
  by_cases hc : c = 0
  · subst hc
    have : C 0 * p = 0 := by rw [C0]; grind
    rw [this, lc0, Int.zero_mul]
  · by_cases hp : p = 0
    · subst hp
      have : C c * 0 = 0 := by grind
      rw [this, lc0, Int.mul_zero]
    · rw [lc_mul (C_ne hc) hp, lc_C]
/-- with a factor of unlike degree nothing is left -/
theorem small_mul {p q r : Po} (hl : r.len < q.len) (h : p * q = r) : p = 0 := by
  by_cases hp : p = 0
  · exact hp
  · have hq : q ≠ 0 := ne0.mpr (by omega)
    have := len_mul hp hq
    have a := len_pos hp
    rw [h] at this
    omega
/-! ### x to a power -/
def X (n : Nat) : Po := ofL (List.replicate n 0 ++ [1])
theorem cf_X (n m : Nat) : (X n).cf m = if m = n then 1 else 0 := by
  show (ofL _).cf m = _
  rw [cf_ofL]
  unfold Rc.cf
  rw [List.getD_eq_getElem?_getD, List.getElem?_append]
  by_cases h : m < n
  · rw [if_pos (by simpa using h)]
    simp [h, show m ≠ n by omega]
  · rw [if_neg (by simpa using h), List.length_replicate]
    by_cases h2 : m = n
    · subst h2; simp
    · rw [if_neg h2, List.getElem?_eq_none (by simp; omega)]
      rfl
theorem cf_shift (n : Nat) (p : Po) (m : Nat) : (X n * p).cf m = if n ≤ m then p.cf (m - n) else 0 := by
  have key : ∀ (n : Nat) (g : Nat → Int) (m : Nat), mulF (List.replicate n 0 ++ [1]) g m = sh n g m := by
    intro n
    induction n with
    | zero =>
      intro g m
      show 1 * g m + sh 1 (fun _ => 0) m = sh 0 g m
      unfold sh
      simp
    | succ n ih =>
      intro g m
      show 0 * g m + sh 1 (mulF (List.replicate n 0 ++ [1]) g) m = _
      rw [sh_congr (ih g), sh_sh, Nat.add_comm 1 n]
      omega
  have : (X n * p).cf m = mulF (List.replicate n 0 ++ [1]) (Rc.cf p.l) m := by
    show Rc.cf (X n * p).l m = _
    have h1 : E (mulL (X n).l p.l) (mulL (List.replicate n 0 ++ [1]) p.l) := e_mul (e_trim _) E.rfl
    rw [e_l, h1, cf_mulL]
  rw [this, key]
  rfl
theorem len_X (n : Nat) : (X n).len = n + 1 := len_eq (by rw [cf_X, if_pos rfl]; decide) fun m hm => by rw [cf_X, if_neg (by omega)]
theorem X_ne (n : Nat) : X n ≠ 0 := ne0.mpr (by rw [len_X]; omega)
/-! ### values -/
def ev (q : Rat) (p : Po) : Rat := Rc.ev q p.l
theorem ev_add' (q : Rat) (a b : Po) : ev q (a + b) = ev q a + ev q b := by
  show Rc.ev q (trim (addL a.l b.l)) = _
  rw [ev_trim, Rc.ev_add]
  rfl
theorem ev_mul' (q : Rat) (a b : Po) : ev q (a * b) = ev q a * ev q b := by
  show Rc.ev q (trim (mulL a.l b.l)) = _
  rw [ev_trim, Rc.ev_mul]
  rfl
theorem ev_C (q : Rat) (c : Int) : ev q (C c) = c := by
  show Rc.ev q (trim [c]) = _
  rw [ev_trim]
  show (c : Rat) + q * 0 = c
  grind
theorem ev_neg' (q : Rat) (a : Po) : ev q (-a) = -ev q a := by
  have : ev q (-a) + ev q a = 0 := by
    rw [← ev_add', show -a + a = C 0 by rw [C0]; grind, ev_C]
    rfl
  grind
theorem ev_sub' (q : Rat) (a b : Po) : ev q (a - b) = ev q a - ev q b := by
  rw [show a - b = a + -b by grind, ev_add', ev_neg']
  grind
end Po
end Rc

/-! Contents of polynomials; Gauss. -/
namespace Rc
open PySem
/-! ### the divisor of a list -/
def gcdL (xs : List Int) : Nat := xs.foldl (fun g x => Int.gcd g x) 0
theorem gcdG (xs : List Int) : ∀ (g d : Nat), d ∣ xs.foldl (fun g x => Int.gcd g x) g ↔ d ∣ g ∧ ∀ x ∈ xs, (d : Int) ∣ x := by
  induction xs with
  | nil => exact fun g d => ⟨fun h => ⟨h, fun x hx => by cases hx⟩, fun h => h.1⟩
  | cons y r ih =>
    intro g d
    show d ∣ r.foldl (fun g x => Int.gcd g x) (Int.gcd g y) ↔ _
    rw [ih]
    have e : d ∣ Int.gcd g y ↔ d ∣ g ∧ (d : Int) ∣ y := by
      rw [Int.dvd_gcd_iff]
      exact ⟨fun h => ⟨Int.ofNat_dvd.mp h.1, h.2⟩, fun h => ⟨Int.ofNat_dvd.mpr h.1, h.2⟩⟩
    rw [e]
    exact ⟨fun h => ⟨h.1.1, fun x hx => by
      rcases List.mem_cons.mp hx with rfl | hx
      · exact h.1.2
      · exact h.2 x hx⟩, fun h => ⟨⟨h.1, h.2 y (List.mem_cons_self ..)⟩, fun x hx => h.2 x (List.mem_cons_of_mem _ hx)⟩⟩
theorem dvd_gcdL {xs : List Int} {d : Nat} : d ∣ gcdL xs ↔ ∀ x ∈ xs, (d : Int) ∣ x := by
  unfold gcdL
  rw [gcdG]
  exact ⟨fun h => h.2, fun h => ⟨Nat.dvd_zero d, h⟩⟩
/-! ### primes -/
def Pri (r : Nat) : Prop := 2 ≤ r ∧ ∀ d, d ∣ r → d = 1 ∨ d = r
theorem pri_of : ∀ n : Nat, 2 ≤ n → ∃ r, Pri r ∧ r ∣ n := by
  intro n
  induction n using Nat.strongRecOn with
  | ind n ih =>
    intro h
    by_cases hp : ∀ d, d ∣ n → d = 1 ∨ d = n
    · exact ⟨n, ⟨h, hp⟩, Nat.dvd_refl n⟩
    · have : ∃ d, d ∣ n ∧ d ≠ 1 ∧ d ≠ n := by
        refine Classical.byContradiction fun hc => hp fun d hd => ?_
        by_cases h1 : d = 1
        · exact .inl h1
        · by_cases h2 : d = n
          · exact .inr h2
          · exact absurd ⟨d, hd, h1, h2⟩ hc
      obtain ⟨d, hd, h1, h2⟩ := this
      have hle := Nat.le_of_dvd (by omega) hd
      have h0 : d ≠ 0 := fun e => by subst e; exact absurd (Nat.eq_zero_of_zero_dvd hd) (by omega)
      obtain ⟨r, hr, hrd⟩ := ih d (by omega) (by omega)
      exact ⟨r, hr, Nat.dvd_trans hrd hd⟩
theorem pri_mul {r : Nat} (h : Pri r) {a b : Int} (hd : (r : Int) ∣ a * b) : (r : Int) ∣ a ∨ (r : Int) ∣ b := by
  have hd' : r ∣ a.natAbs * b.natAbs := by
    rw [← Int.natAbs_mul]
    exact Int.ofNat_dvd_left.mp hd
  rcases h.2 _ (Nat.gcd_dvd_left r a.natAbs) with g | g
  · exact .inr (Int.ofNat_dvd_left.mpr (Nat.Coprime.dvd_of_dvd_mul_left g hd'))
  · exact .inl (Int.ofNat_dvd_left.mpr (g ▸ Nat.gcd_dvd_right r a.natAbs))
namespace Po
/-! ### all weights by a number -/
theorem dvd_C {d : Int} {p : Po} (h : ∀ n, d ∣ p.cf n) : ∃ q, p = C d * q := by
  refine ⟨ofL (p.l.map (· / d)), ext' fun n => ?_⟩
  rw [cf_Cmul, cf_ofL]
  have : Rc.cf (p.l.map (· / d)) n = p.cf n / d := by
    show _ = Rc.cf p.l n / d
    by_cases hn : n < p.l.length
    · rw [Rc.cf_lt (by simpa using hn), Rc.cf_lt hn]
      simp
    · rw [Rc.cf_ge (by simpa using hn), Rc.cf_ge (by omega), Int.zero_ediv]
  rw [this, Int.mul_ediv_cancel' (h n)]
theorem C_dvd {d : Int} {p q : Po} (h : p = C d * q) (n : Nat) : d ∣ p.cf n := by
  rw [h, cf_Cmul]
  exact Int.dvd_mul_right ..
def cont (p : Po) : Nat := gcdL p.l
theorem dvd_cont {p : Po} {d : Nat} : d ∣ p.cont ↔ ∀ n, (d : Int) ∣ p.cf n := by
  unfold cont
  rw [dvd_gcdL]
  refine ⟨fun h n => ?_, fun h x hx => ?_⟩
  · by_cases hn : n < p.l.length
    · show (d : Int) ∣ Rc.cf p.l n
      rw [Rc.cf_lt hn]
      exact h _ (List.getElem_mem hn)
    · rw [cf_ge (by unfold len; omega)]
      exact Int.dvd_zero _
  · obtain ⟨i, hi, e⟩ := List.mem_iff_getElem.mp hx
    have := h i
    rw [show p.cf i = Rc.cf p.l i from rfl, Rc.cf_lt hi, e] at this
    exact this
theorem cont_cf (p : Po) (n : Nat) : (p.cont : Int) ∣ p.cf n := dvd_cont.mp (Nat.dvd_refl _) n
theorem cont0 : (0 : Po).cont = 0 := rfl
theorem cont_ne {p : Po} (h : p ≠ 0) : p.cont ≠ 0 := fun e => by
  have := cont_cf p (p.len - 1)
  rw [e] at this
  exact lc_ne h (Int.zero_dvd.mp this)
theorem cont_eq0 {p : Po} (h : p.cont = 0) : p = 0 := Classical.byContradiction fun z => cont_ne z h
theorem nat_ext {a b : Nat} (h : ∀ d, d ∣ a ↔ d ∣ b) : a = b := Nat.dvd_antisymm ((h a).mp (Nat.dvd_refl a)) ((h b).mpr (Nat.dvd_refl b))
theorem cont_C (c : Int) : (C c).cont = c.natAbs := nat_ext fun d => by
  rw [dvd_cont]
  refine ⟨fun h => ?_, fun h n => ?_⟩
  · have := h 0
    rw [cf_C, if_pos rfl] at this
    exact Int.ofNat_dvd_left.mp this
  · rw [cf_C]
    split
    · exact Int.ofNat_dvd_left.mpr h
    · exact Int.dvd_zero _
theorem gcd_mulAll {c : Nat} {p : Po} : (C c * p).cont = c * p.cont := by
  by_cases h0 : c = 0
  · subst h0
    rw [show C ((0 : Nat) : Int) * p = 0 by show C 0 * p = 0; rw [C0]; grind, cont0, Nat.zero_mul]
  · have h1 : c ∣ (C c * p).cont := dvd_cont.mpr fun n => by rw [cf_Cmul]; exact Int.dvd_mul_right ..
    obtain ⟨m, hm⟩ := h1
    rw [hm]
    refine congrArg (c * ·) (nat_ext fun d => ?_)
    have e : d ∣ m ↔ c * d ∣ (C c * p).cont := by
      rw [hm]
      exact (Nat.mul_dvd_mul_iff_left (by omega)).symm
    rw [e, dvd_cont, dvd_cont]
    refine forall_congr' fun n => ?_
    rw [cf_Cmul]
    rw [show ((c * d : Nat) : Int) = (c : Int) * d by rw [Int.natCast_mul]]
    exact Int.mul_dvd_mul_iff_left (by omega)
theorem cont_neg (p : Po) : (-p).cont = p.cont := nat_ext fun d => by
  rw [dvd_cont, dvd_cont]
  refine forall_congr' fun n => ?_
  rw [cf_neg]
  exact Int.dvd_neg
theorem cont_Cmul (c : Int) (p : Po) : (C c * p).cont = c.natAbs * p.cont := by
  rcases Int.natAbs_eq c with h | h
  · conv => lhs; rw [h]
    exact gcd_mulAll
  · conv => lhs; rw [h]
    rw [C_neg, show -C (c.natAbs : Int) * p = -(C (c.natAbs : Int) * p) by grind, cont_neg]
    exact gcd_mulAll
/-- the plain form's divisor -/
theorem prim_of {p : Po} (h : p ≠ 0) : ∃ q, p = C p.cont * q ∧ q.cont = 1 := by
  obtain ⟨q, hq⟩ := dvd_C (cont_cf p)
  refine ⟨q, hq, ?_⟩
  have := congrArg cont hq
  rw [gcd_mulAll] at this
  have h0 := cont_ne h
  exact Nat.eq_of_mul_eq_mul_left (show 0 < p.cont by omega) (by rw [← this, Nat.mul_one])
/-! ### Gauss -/
theorem trunc {r : Int} : ∀ (m : Nat) (p : Po), p.len ≤ m → (∃ p' s, p' ≠ 0 ∧ ¬ r ∣ p'.lc ∧ p = p' + C r * s) ∨ ∃ s, p = C r * s
  | 0, p, h => .inr ⟨0, by rw [eq0 (by omega : p.len = 0)]; grind⟩
  | m + 1, p, h => by
    by_cases h0 : p = 0
    · exact .inr ⟨0, by rw [h0]; grind⟩
    · by_cases hr : r ∣ p.lc
      · obtain ⟨t, ht⟩ := hr
        have hp := len_pos h0
        have key : ∀ n, (C p.lc * X (p.len - 1)).cf n = if n = p.len - 1 then p.lc else 0 := fun n => by
          rw [cf_Cmul, cf_X]
          split <;> simp
        rcases trunc m (p - C p.lc * X (p.len - 1)) (len_le fun n hn => by
          rw [cf_sub, key]
          split
          · rename_i e
            rw [e]
            show p.lc - p.lc = 0
            omega
          · rw [cf_ge (by omega)]; rfl) with ⟨p', s, g1, g2, g3⟩ | ⟨s, g⟩
        · refine .inl ⟨p', s + C t * X (p.len - 1), g1, g2, ?_⟩
          rw [ht, C_mul] at g3
          grind
        · refine .inr ⟨s + C t * X (p.len - 1), ?_⟩
          rw [ht, C_mul] at g
          grind
      · exact .inl ⟨p, 0, h0, hr, by grind⟩
theorem pri_poly {r : Nat} (h : Pri r) {p q : Po} (hd : ∃ s, p * q = C r * s) : (∃ s, p = C r * s) ∨ ∃ s, q = C r * s := by
  rcases trunc (r := r) p.len p (Nat.le_refl _) with ⟨p', s, a1, a2, a3⟩ | ⟨s, g⟩
  · rcases trunc (r := r) q.len q (Nat.le_refl _) with ⟨q', t, b1, b2, b3⟩ | ⟨t, g⟩
    · exfalso
      obtain ⟨u, hu⟩ := hd
      have e : p' * q' = C r * (u - p' * t - s * q' - C r * s * t) := by
        rw [a3, b3] at hu
        grind
      have hl := lc_mul a1 b1
      have : (r : Int) ∣ (p' * q').lc := C_dvd e _
      rw [hl] at this
      rcases pri_mul h this with z | z
      · exact a2 z
      · exact b2 z
    · exact .inr ⟨t, g⟩
  · exact .inl ⟨s, g⟩
theorem gauss1 {p q : Po} (hp : p.cont = 1) (hq : q.cont = 1) : (p * q).cont = 1 := by
  have p0 : p ≠ 0 := fun e => by rw [e] at hp; cases hp
  have q0 : q ≠ 0 := fun e => by rw [e] at hq; cases hq
  refine Classical.byContradiction fun hn => ?_
  have h0 := cont_ne (mul_ne p0 q0)
  obtain ⟨r, hr, hrd⟩ := pri_of (p * q).cont (by omega)
  have no : ∀ {s : Po}, s.cont = 1 → ¬ ∃ t, s = C r * t := fun {s} hs ⟨t, ht⟩ => by
    have := congrArg cont ht
    rw [gcd_mulAll, hs] at this
    have h2 := hr.1
    have := Nat.eq_one_of_mul_eq_one_right this.symm
    omega
  rcases pri_poly hr (dvd_C (dvd_cont.mp hrd)) with z | z
  · exact no hp z
  · exact no hq z
theorem cont_mul (p q : Po) : (p * q).cont = p.cont * q.cont := by
  by_cases hp : p = 0
  · rw [hp, show (0 : Po) * q = 0 by grind, cont0, Nat.zero_mul]
  · by_cases hq : q = 0
    · rw [hq, show p * (0 : Po) = 0 by grind, cont0, Nat.mul_zero]
    · obtain ⟨p1, e1, c1⟩ := prim_of hp
      obtain ⟨q1, e2, c2⟩ := prim_of hq
      have : p * q = C p.cont * (C q.cont * (p1 * q1)) := by grind
      rw [this, gcd_mulAll, gcd_mulAll, gauss1 c1 c2, Nat.mul_one]
/-- over fractions, then over whole numbers -/
theorem whole_of {p q u : Po} {c : Int} (hp : p.cont = 1) (hc : c ≠ 0) (h : C c * q = u * p) : ∃ v, q = v * p ∧ u = C c * v := by
  have hcont := congrArg cont h
  rw [cont_Cmul, cont_mul, hp, Nat.mul_one] at hcont
  have hd : ∀ n, c ∣ u.cf n := fun n => by
    have h1 := cont_cf u n
    refine Int.dvd_trans ?_ h1
    rw [← hcont]
    exact Int.dvd_trans (Int.dvd_natAbs.mpr (Int.dvd_refl c)) (by rw [Int.natCast_mul]; exact Int.dvd_mul_right ..)
  obtain ⟨v, hv⟩ := dvd_C hd
  refine ⟨v, cancel (C_ne hc) ?_, hv⟩
  rw [h, hv]
  grind
/-! ### signs -/
instance : DecidableEq Po := fun p q => decidable_of_iff (p.l = q.l) ⟨extL, fun h => by rw [h]⟩
/-- the content with the last weight's sign -/
def sc (p : Po) : Int := if p.lc < 0 then 0 - (p.cont : Int) else p.cont
def pl (p : Po) : Po := ofL (p.l.map (· / p.sc))
theorem sc_ne {p : Po} (h : p ≠ 0) : p.sc ≠ 0 := by
  have := cont_ne h
  unfold sc
  split <;> omega
theorem sc_dvd (p : Po) (n : Nat) : p.sc ∣ p.cf n := by
  have := cont_cf p n
  unfold sc
  split
  · rw [Int.zero_sub]
    exact Int.neg_dvd.mpr this
  · exact this
theorem cf_pl (p : Po) (n : Nat) : (pl p).cf n = p.cf n / p.sc := by
  unfold pl
  rw [cf_ofL]
  show _ = Rc.cf p.l n / p.sc
  by_cases hn : n < p.l.length
  · rw [Rc.cf_lt (by simpa using hn), Rc.cf_lt hn]
    simp
  · rw [Rc.cf_ge (by simpa using hn), Rc.cf_ge (by omega), Int.zero_ediv]
theorem pl_eq (p : Po) : p = C p.sc * pl p := ext' fun n => by
  rw [cf_Cmul, cf_pl, Int.mul_ediv_cancel' (sc_dvd p n)]
theorem pl0 : pl 0 = 0 := rfl
theorem pl_ne {p : Po} (h : p ≠ 0) : pl p ≠ 0 := fun e => by
  have := pl_eq p
  rw [e] at this
  exact h (by rw [this]; grind)
theorem sc_abs (p : Po) : p.sc.natAbs = p.cont := by
  unfold sc
  split <;> omega
theorem pl_cont {p : Po} (h : p ≠ 0) : (pl p).cont = 1 := by
  have e := congrArg cont (pl_eq p)
  rw [cont_Cmul, sc_abs] at e
  have h0 := cont_ne h
  exact Nat.eq_of_mul_eq_mul_left (show 0 < p.cont by omega) (by rw [← e, Nat.mul_one])
theorem pl_lc {p : Po} (h : p ≠ 0) : 0 < (pl p).lc := by
  have e := congrArg lc (pl_eq p)
  rw [lc_Cmul] at e
  have h1 := lc_ne h
  have h2 := cont_ne h
  refine Classical.byContradiction fun hn => ?_
  unfold sc at e
  split at e
  · rename_i hs
    have : 0 ≤ (0 - (p.cont : Int)) * (pl p).lc := by
      have := Int.mul_nonneg_of_nonpos_of_nonpos (show (0 - (p.cont : Int)) ≤ 0 by omega) (show (pl p).lc ≤ 0 by omega)
      exact this
    omega
  · rename_i hs
    have : (p.cont : Int) * (pl p).lc ≤ 0 := Int.mul_nonpos_of_nonneg_of_nonpos (by omega) (by omega)
    omega
/-- of so many times a plain one it is that -/
theorem pl_uniq {p q : Po} {c : Int} (hc : c ≠ 0) (h : p = C c * q) (h1 : q.cont = 1) (h2 : 0 < q.lc) : pl p = q := by
  have q0 : q ≠ 0 := fun e => by rw [e] at h1; cases h1
  have p0 : p ≠ 0 := by rw [h]; exact mul_ne (C_ne hc) q0
  have e1 := congrArg cont h
  rw [cont_Cmul, h1, Nat.mul_one] at e1
  have e2 := congrArg lc h
  rw [lc_Cmul] at e2
  have e3 : p.sc = c := by
    unfold sc
    split
    · rename_i hs
      have : c < 0 := by
        refine Classical.byContradiction fun hn => ?_
        have := Int.mul_nonneg (show 0 ≤ c by omega) (show 0 ≤ q.lc by omega)
        omega
      omega
    · rename_i hs
      have : 0 < c := by
        refine Classical.byContradiction fun hn => ?_
        have h3 : c < 0 := by omega
        have := Int.mul_neg_of_neg_of_pos h3 h2
        omega
      omega
  refine cancel (C_ne hc) ?_
  rw [← h]
  conv => lhs; rw [← e3]
  exact (pl_eq p).symm
theorem pl_Cmul {c : Int} (hc : c ≠ 0) (p : Po) : pl (C c * p) = pl p := by
  by_cases h : p = 0
  · rw [h, show C c * 0 = 0 by grind]
  · refine pl_uniq (c := c * p.sc) (Int.mul_ne_zero hc (sc_ne h)) ?_ (pl_cont h) (pl_lc h)
    conv => lhs; rw [pl_eq p]
    rw [C_mul]
    grind
theorem pl_mul (p q : Po) : pl (p * q) = pl p * pl q := by
  by_cases h : p = 0
  · rw [h, show (0 : Po) * q = 0 by grind, pl0]; grind
  · by_cases g : q = 0
    · rw [g, show p * (0 : Po) = 0 by grind, pl0]; grind
    · refine pl_uniq (c := p.sc * q.sc) (Int.mul_ne_zero (sc_ne h) (sc_ne g)) ?_ (gauss1 (pl_cont h) (pl_cont g)) ?_
      · conv => lhs; rw [pl_eq p, pl_eq q]
        rw [C_mul]
        grind
      · rw [lc_mul (pl_ne h) (pl_ne g)]
        exact Int.mul_pos (pl_lc h) (pl_lc g)
theorem pl_pl (p : Po) : pl (pl p) = pl p := by
  by_cases h : p = 0
  · rw [h]; rfl
  · refine pl_uniq (c := 1) (by decide) ?_ (pl_cont h) (pl_lc h)
    rw [C1]
    grind
theorem len_pl (p : Po) : (pl p).len = p.len := by
  by_cases h : p = 0
  · rw [h]; rfl
  · conv => rhs; rw [pl_eq p]
    rw [len_Cmul (sc_ne h)]
end Po
end Rc

/-! Polynomials of the ring as the program's tuples; parted. -/
namespace Rc
open PySem
theorem bt_quot {b : Nat} {x g y : Int} (h : Bt b x) (e : x = g * y) (hx : g ≠ 0) : Bt b y := by
  refine h.le ?_
  rw [e, Int.natAbs_mul]
  have : 1 ≤ g.natAbs := by omega
  have := Nat.mul_le_mul_right y.natAbs this
  omega
namespace Po
/-- so many weights, so great -/
def B (n b : Nat) (p : Po) : Prop := p.len ≤ n ∧ ∀ i, Bt b (p.cf i)
theorem B.bl {n b : Nat} {p : Po} (h : B n b p) : Bl n b p.l := ⟨h.1, fun x hx => by
  obtain ⟨i, hi, e⟩ := List.mem_iff_getElem.mp hx
  have := h.2 i
  rw [show p.cf i = Rc.cf p.l i from rfl, Rc.cf_lt hi, e] at this
  exact this⟩
theorem B.of {n b : Nat} {p : Po} (h : Bl n b p.l) : B n b p := ⟨h.1, bl_cf h⟩
theorem B.mono {n b m c : Nat} {p : Po} (h : B n b p) (h1 : n ≤ m) (h2 : b ≤ c) : B m c p := ⟨Nat.le_trans h.1 h1, fun i => (h.2 i).mono h2⟩
theorem B.add {n b : Nat} {p q : Po} (h : B n b p) (g : B n b q) : B n (b + 1) (p + q) := ⟨by
  have := len_add p q
  have := h.1
  have := g.1
  omega, fun i => by rw [cf_add]; exact Bt.add (h.2 i) (g.2 i)⟩
theorem B.neg {n b : Nat} {p : Po} (h : B n b p) : B n b (-p) := ⟨by rw [len_neg]; exact h.1, fun i => by rw [cf_neg]; exact (h.2 i).neg⟩
theorem B.sub {n b : Nat} {p q : Po} (h : B n b p) (g : B n b q) : B n (b + 1) (p - q) := ⟨by
  have := len_sub p q
  have := h.1
  have := g.1
  omega, fun i => by rw [cf_sub]; exact Bt.sub (h.2 i) (g.2 i)⟩
theorem B.scl {n b c : Nat} {p : Po} {x : Int} (h : B n b p) (g : Bt c x) : B n (c + b) (C x * p) := ⟨by
  have := len_Cmul_le x p
  have := h.1
  omega, fun i => by rw [cf_Cmul]; exact Bt.mul g (h.2 i)⟩
theorem B.mul {n m b c : Nat} {p q : Po} (h : B n b p) (g : B m c q) : B (n + m) (b + c + n) (p * q) := B.of (bl_trim (bl_mul h.bl g.bl))
theorem B.zero {n b : Nat} : B n b 0 := ⟨Nat.zero_le _, fun i => by rw [cf_0]; exact bt0⟩
theorem B.C {n b : Nat} {x : Int} (h : Bt b x) : B (n + 1) b (C x) := ⟨by have := len_Cle x; omega, fun i => by
  rw [cf_C]
  split
  · exact h
  · exact bt0⟩
theorem B.shift {n b : Nat} {p : Po} (h : B n b p) (m : Nat) : B (n + m) b (X m * p) := ⟨len_le fun i hi => by
  have := h.1
  rw [cf_shift]
  split
  · exact cf_ge (by omega)
  · rfl, fun i => by
  rw [cf_shift]
  split
  · exact h.2 _
  · exact bt0⟩
theorem B.quot {n b : Nat} {p q : Po} {g : Int} (h : B n b p) (e : p = Po.C g * q) (hg : g ≠ 0) : B n b q := ⟨by
  have := h.1
  rw [e, len_Cmul hg] at this
  exact this, fun i => bt_quot (h.2 i) (by rw [e, cf_Cmul]) hg⟩
theorem B.lc {n b : Nat} {p : Po} (h : B n b p) : Bt b p.lc := h.2 _
theorem B.cont {n b : Nat} {p : Po} (h : B n b p) (p0 : p ≠ 0) : Bt b p.cont := by
  refine (h.2 (p.len - 1)).le ?_
  have := Int.natAbs_dvd_natAbs.mpr (cont_cf p (p.len - 1))
  exact Nat.le_of_dvd (by have := lc_ne p0; unfold Po.lc at this; omega) this
theorem scl_l (p : Po) (c : Int) : trim (sclL p.l c) = (Po.C c * p).l := by
  refine pn_ext (pn_trim _) (Po.C c * p).pn fun n => ?_
  rw [cf_trim, cf_sclL, Int.mul_comm]
  exact (cf_Cmul c p n).symm
theorem up_l (p : Po) (m : Nat) : (if p.l = [] then [] else List.replicate m 0 ++ p.l) = (X m * p).l := by
  have e : (if p.l = [] then [] else List.replicate m 0 ++ p.l) = trim (List.replicate m 0 ++ p.l) := by
    split
    · rename_i h; rw [h, trim_rep0]
    · rename_i h; rw [trim_rep p.pn h]
  rw [e]
  refine pn_ext (pn_trim _) (X m * p).pn fun n => ?_
  rw [cf_trim]
  refine Eq.trans ?_ (cf_shift m p n).symm
  unfold Rc.cf Po.cf Rc.cf
  rw [List.getD_eq_getElem?_getD, List.getElem?_append]
  by_cases h : m ≤ n
  · rw [if_neg (by simpa using h), if_pos h, List.length_replicate, List.getD_eq_getElem?_getD]
  · rw [if_pos (by simpa using h), if_neg h]
    simp [show n < m by omega]
theorem div_l {p r : Po} {d : Int} (e : p = Po.C d * r) (hd : d ≠ 0) : p.l.map (·.fdiv d) = r.l := by
  have hl : p.l.length = r.l.length := by
    have : p.len = r.len := by rw [e, len_Cmul hd]
    exact this
  refine List.ext_getElem (by rw [List.length_map]; exact hl) fun i h1 h2 => ?_
  rw [List.getElem_map]
  have h3 : i < p.l.length := by simpa using h1
  have q1 : p.cf i = p.l[i] := Rc.cf_lt h3
  have q2 : r.cf i = r.l[i] := Rc.cf_lt h2
  rw [← q1, ← q2, e, cf_Cmul]
  exact Int.mul_fdiv_cancel_left _ hd
theorem last_l {p : Po} (h : p.l ≠ []) : p.l.getLast h = p.lc := by
  have h1 : 0 < p.l.length := List.length_pos_iff.mpr h
  rw [List.getLast_eq_getElem]
  exact (Rc.cf_lt (by omega)).symm
theorem C_l {w : Int} (h : w ≠ 0) : trim [w] = [w] := by
  have := trim_snoc (xs := []) h
  exact this
/-! ### parted -/
structure Pd (a b : Po) (s : Int) (u v : Po) : Prop where
  pos : 1 ≤ s
  eq : Po.C s * a = u * b + v
  lt : v.len < b.len
  co : ∀ d : Nat, (d : Int) ∣ s → d ∣ u.cont → d ∣ v.cont → d = 1
/-- where there is a whole part it is told -/
theorem Pd.whole {a b u v w : Po} {s : Int} (h : Pd a b s u v) (e : a = w * b) : s = 1 ∧ v = 0 ∧ u = w := by
  have h1 := h.eq
  rw [e] at h1
  have h2 : (Po.C s * w - u) * b = v := by grind
  have h3 := small_mul h.lt h2
  have hu : u = Po.C s * w := by grind
  have hv : v = 0 := by rw [← h2, h3]; grind
  have s1 := h.pos
  have hc := h.co s.natAbs (Int.ofNat_dvd_left.mpr (Nat.dvd_refl _)) (by rw [hu, cont_Cmul]; exact Nat.dvd_mul_right ..) (by rw [hv, cont0]; exact Nat.dvd_zero _)
  have e1 : s = 1 := by omega
  refine ⟨e1, hv, ?_⟩
  rw [hu, e1, Po.C1]
  grind
theorem Pd.of1 {a b u v : Po} (h : Pd a b 1 u v) (hv : v = 0) : a = u * b := by
  have h1 := h.eq
  rw [hv, Po.C1] at h1
  grind
/-- a step of the division -/
theorem step_len {a b : Po} {f w : Int} (b0 : b ≠ 0) (hl : b.len ≤ a.len) (h : w * b.lc = f * a.lc) (f0 : f ≠ 0) : (Po.C f * a - X (a.len - b.len) * Po.C w * b).len < a.len := by
  have hb := len_pos b0
  have : (Po.C f * a - X (a.len - b.len) * Po.C w * b).len ≤ a.len - 1 := len_le fun n hn => by
    have e : X (a.len - b.len) * Po.C w * b = Po.C w * (X (a.len - b.len) * b) := by grind
    rw [e, cf_sub, cf_Cmul, cf_Cmul, cf_shift, if_pos (by omega)]
    by_cases h1 : n = a.len - 1
    · subst h1
      rw [show a.len - 1 - (a.len - b.len) = b.len - 1 by omega]
      show f * a.lc - w * b.lc = 0
      omega
    · rw [cf_ge (show a.len ≤ n by omega), cf_ge (show b.len ≤ n - (a.len - b.len) by omega)]
      simp
  omega
theorem step_w {x y : Int} (hy : y ≠ 0) : (((y.fdiv (Int.gcd x y)).natAbs : Int) * x).fdiv y * y = (y.fdiv (Int.gcd x y)).natAbs * x ∧ y.fdiv (Int.gcd x y) ≠ 0 ∧ ((((y.fdiv (Int.gcd x y)).natAbs : Int) * x).fdiv y).natAbs ≤ x.natAbs ∧ (y.fdiv (Int.gcd x y)).natAbs ≤ y.natAbs := by
  have g1 : (Int.gcd x y : Int) ∣ x := Int.gcd_dvd_left ..
  have g2 : (Int.gcd x y : Int) ∣ y := Int.gcd_dvd_right ..
  have g0 : (Int.gcd x y : Int) ≠ 0 := by
    have : Int.gcd x y ≠ 0 := fun e => hy (Int.gcd_eq_zero_iff.mp e).2
    omega
  generalize (Int.gcd x y : Int) = g at *
  obtain ⟨x', rfl⟩ := g1
  obtain ⟨y', rfl⟩ := g2
  rw [Int.mul_fdiv_cancel_left _ g0]
  have y0 : y' ≠ 0 := fun e => hy (by rw [e, Int.mul_zero])
  have gp : 1 ≤ g.natAbs := by omega
  have le1 : y'.natAbs ≤ (g * y').natAbs := by
    rw [Int.natAbs_mul]
    have := Nat.mul_le_mul_right y'.natAbs gp
    omega
  have le2 : x'.natAbs ≤ (g * x').natAbs := by
    rw [Int.natAbs_mul]
    have := Nat.mul_le_mul_right x'.natAbs gp
    omega
  rcases Int.natAbs_eq y' with h | h
  · have e : (y'.natAbs : Int) * (g * x') = g * y' * x' := by
      rw [← h]; grind
    rw [e, Int.mul_fdiv_cancel_left _ hy]
    exact ⟨by grind, y0, le2, le1⟩
  · have e : (y'.natAbs : Int) * (g * x') = g * y' * (-x') := by
      rw [show (y'.natAbs : Int) = -y' by omega]; grind
    rw [e, Int.mul_fdiv_cancel_left _ hy]
    exact ⟨by grind, y0, by rw [Int.natAbs_neg]; exact le2, le1⟩
end Po
end Rc

/-! Greatest common parts. -/
namespace Rc
open PySem
namespace Po
def Dv (p q : Po) : Prop := ∃ u, q = u * p
/-- over fractions -/
def Dq (p q : Po) : Prop := ∃ c u, c ≠ 0 ∧ C c * q = u * p
theorem Dv.dq {p q : Po} (h : Dv p q) : Dq p q := by
  obtain ⟨u, hu⟩ := h
  exact ⟨1, u, by decide, by rw [C1, hu]; grind⟩
theorem Dq.dv {p q : Po} (hp : p.cont = 1) (h : Dq p q) : Dv p q := by
  obtain ⟨c, u, hc, e⟩ := h
  obtain ⟨v, hv, _⟩ := whole_of hp hc e
  exact ⟨v, hv⟩
theorem Dv.refl (p : Po) : Dv p p := ⟨1, by grind⟩
theorem Dv.trans {p q r : Po} (h : Dv p q) (g : Dv q r) : Dv p r := by
  obtain ⟨u, rfl⟩ := h
  obtain ⟨v, rfl⟩ := g
  exact ⟨v * u, by grind⟩
theorem Dv.zero (p : Po) : Dv p 0 := ⟨0, by grind⟩
theorem Dv.add {p q r : Po} (h : Dv p q) (g : Dv p r) : Dv p (q + r) := by
  obtain ⟨u, rfl⟩ := h
  obtain ⟨v, rfl⟩ := g
  exact ⟨u + v, by grind⟩
theorem Dv.mul {p q : Po} (h : Dv p q) (r : Po) : Dv p (r * q) := by
  obtain ⟨u, rfl⟩ := h
  exact ⟨r * u, by grind⟩
theorem Dv.zl {q : Po} (h : Dv 0 q) : q = 0 := by
  obtain ⟨u, hu⟩ := h
  rw [hu]; grind
theorem dq_zero {w : Po} : Dq w 0 := ⟨1, 0, by decide, by grind⟩
theorem dv_pl (p : Po) : Dv (pl p) p := ⟨C p.sc, pl_eq p⟩
theorem Dv.len {p q : Po} (h : Dv p q) (hq : q ≠ 0) : p.len ≤ q.len := by
  obtain ⟨u, rfl⟩ := h
  have hu : u ≠ 0 := fun e => hq (by rw [e]; grind)
  have hp : p ≠ 0 := fun e => hq (by rw [e]; grind)
  have := len_mul hu hp
  have := len_pos hu
  omega
structure Gc (a b d : Po) : Prop where
  pl : Po.pl d = d
  da : Dv d a
  db : Dv d b
  bz : ∃ l r c, c ≠ 0 ∧ l * a + r * b = C c * d
theorem Gc.cont {a b d : Po} (h : Gc a b d) (hd : d ≠ 0) : d.cont = 1 := by
  have := pl_cont hd
  rw [h.pl] at this
  exact this
theorem Gc.max {a b d w : Po} (h : Gc a b d) (ha : Dq w a) (hb : Dq w b) : Dq w d := by
  obtain ⟨c1, u, h1, e1⟩ := ha
  obtain ⟨c2, v, h2, e2⟩ := hb
  obtain ⟨l, r, c, hc, e⟩ := h.bz
  refine ⟨c1 * c2 * c, C c2 * l * u + C c1 * r * v, Int.mul_ne_zero (Int.mul_ne_zero h1 h2) hc, ?_⟩
  rw [C_mul, C_mul]
  grind
theorem Gc.comm {a b d : Po} (h : Gc a b d) : Gc b a d := by
  obtain ⟨l, r, c, hc, e⟩ := h.bz
  exact ⟨h.pl, h.db, h.da, r, l, c, hc, by grind⟩
theorem unit_of {u v : Po} (h : u * v = 1) : ∃ k : Int, k ≠ 0 ∧ u = C k := by
  have h1 : (1 : Po) ≠ 0 := fun e => absurd (C_inj (a := 1) (b := 0) e) (by decide)
  have hu : u ≠ 0 := fun e => h1 (by rw [← h, e]; grind)
  have hv : v ≠ 0 := fun e => h1 (by rw [← h, e]; grind)
  have hl := len_mul hu hv
  have l1 : (1 : Po).len = 1 := len_C (c := 1) (by decide)
  rw [h, l1] at hl
  have a := len_pos hu
  have b := len_pos hv
  have e := len1 (p := u) (by omega)
  refine ⟨u.cf 0, fun z => hu ?_, e⟩
  rw [e, z]
  rfl
theorem same_of {d e : Po} (hd : pl d = d) (he : pl e = e) (h : Dv d e) (g : Dv e d) : d = e := by
  by_cases d0 : d = 0
  · rw [d0] at h
    rw [h.zl, d0]
  · obtain ⟨u, hu⟩ := h
    obtain ⟨v, hv⟩ := g
    have : u * v = 1 := by
      refine cancel d0 ?_
      have : d = v * (u * d) := by rw [← hu, ← hv]
      grind
    obtain ⟨k, hk, rfl⟩ := unit_of this
    rw [← he, hu, pl_Cmul hk, hd]
theorem Gc.uniq {a b d e : Po} (h : Gc a b d) (g : Gc a b e) : d = e := by
  have zero : ∀ {d e : Po}, Gc a b d → Gc a b e → d = 0 → e = 0 := fun {d e} h g d0 => by
    have h1 := h.da
    have h2 := h.db
    rw [d0] at h1 h2
    obtain ⟨l, r, c, hc, eq⟩ := g.bz
    rw [h1.zl, h2.zl] at eq
    have : C c * e = 0 := by rw [← eq]; grind
    rcases mul_eq0 this with z | z
    · exact absurd z (C_ne hc)
    · exact z
  by_cases d0 : d = 0
  · rw [d0, zero h g d0]
  · have e0 : e ≠ 0 := fun z => d0 (zero g h z)
    exact same_of h.pl g.pl ((g.max h.da.dq h.db.dq).dv (h.cont d0)) ((h.max g.da.dq g.db.dq).dv (g.cont e0))
theorem Gc.mul {a b d : Po} (h : Gc a b d) (f : Po) : Gc (f * a) (f * b) (Po.pl (f * d)) := by
  have e := pl_eq (f * d)
  have dv : ∀ {x : Po}, Dv d x → Dv (Po.pl (f * d)) (f * x) := fun {x} hx => by
    obtain ⟨u, rfl⟩ := hx
    exact ⟨u * C (f * d).sc, by grind⟩
  refine ⟨pl_pl _, dv h.da, dv h.db, ?_⟩
  obtain ⟨l, r, c, hc, eq⟩ := h.bz
  by_cases z : f * d = 0
  · refine ⟨l, r, 1, by decide, ?_⟩
    rw [z, pl0]
    have : l * (f * a) + r * (f * b) = C c * (f * d) := by grind
    rw [this, z]
    grind
  · refine ⟨l, r, c * (f * d).sc, Int.mul_ne_zero hc (sc_ne z), ?_⟩
    rw [C_mul]
    grind
/-- parted tells whether it divides, over fractions -/
theorem Pd.dq {a b u v : Po} {s : Int} (h : Pd a b s u v) : v = 0 ↔ Dq b a := by
  constructor
  · intro hv
    refine ⟨s, u, by have := h.pos; omega, ?_⟩
    rw [h.eq, hv]
    grind
  · rintro ⟨c, w, hc, e⟩
    have h1 := h.eq
    have h2 : (C s * w - C c * u) * b = C c * v := by grind
    have h3 := small_mul (by rw [len_Cmul hc]; exact h.lt) h2
    have h4 : C c * v = 0 := by rw [← h2, h3]; grind
    rcases mul_eq0 h4 with z | z
    · exact absurd z (C_ne hc)
    · exact z
theorem Pd.ulen {a b u v : Po} {s : Int} (h : Pd a b s u v) : u.len + b.len ≤ a.len + 1 ∨ u = 0 := by
  by_cases u0 : u = 0
  · exact .inr u0
  · left
    have b0 : b ≠ 0 := ne0.mpr (by have := h.lt; omega)
    have e1 : u * b = C s * a - v := by rw [h.eq]; grind
    have l1 := len_mul u0 b0
    have l2 := len_sub (C s * a) v
    rw [← e1, len_Cmul (by have := h.pos; omega)] at l2
    have := h.lt
    have := len_pos u0
    omega
theorem B_pl {n b : Nat} {p : Po} (h : B n b p) : B n b (Po.pl p) := by
  by_cases p0 : p = 0
  · rw [p0]; exact B.zero
  · exact h.quot (pl_eq p) (sc_ne p0)
/-- how the weights of rests grow -/
def pell : Nat → Nat
  | 0 => 1
  | 1 => 2
  | n + 2 => pell n + 2 * pell (n + 1)
theorem pell_pos : ∀ n, 1 ≤ pell n
  | 0 => by decide
  | 1 => by decide
  | n + 2 => by
    have := pell_pos n
    show 1 ≤ pell n + 2 * pell (n + 1)
    omega
theorem pell_up : ∀ n, pell n ≤ pell (n + 1)
  | 0 => by decide
  | 1 => by decide
  | n + 2 => by
    show pell (n + 2) ≤ pell (n + 1) + 2 * pell (n + 2)
    omega
theorem pell_mono {m n : Nat} (h : m ≤ n) : pell m ≤ pell n := by
  induction n with
  | zero =>
    have e : m = 0 := by omega
    rw [e]
    exact Nat.le_refl _
  | succ n ih =>
    by_cases e : m = n + 1
    · rw [e]
      exact Nat.le_refl _
    · exact Nat.le_trans (ih (by omega)) (pell_up n)
theorem pell_lin : ∀ n, n + 1 + 1 ≤ pell (n + 1)
  | 0 => by decide
  | n + 1 => by
    have := pell_lin n
    have := pell_pos n
    show n + 1 + 1 + 1 ≤ pell n + 2 * pell (n + 1)
    omega
theorem pell_step (m : Nat) : ∀ j, pell m + (j + 2) * pell (m + 1) ≤ pell (m + 2 + j)
  | 0 => by
    show pell m + (0 + 2) * pell (m + 1) ≤ pell m + 2 * pell (m + 1)
    omega
  | j + 1 => by
    have ih := pell_step m j
    have h1 : pell (m + 1) ≤ pell (m + 2 + j) := pell_mono (by omega)
    have e : (j + 1 + 2) * pell (m + 1) = (j + 2) * pell (m + 1) + pell (m + 1) := by rw [show j + 1 + 2 = j + 2 + 1 by omega, Nat.succ_mul]
    have : pell (m + 2 + (j + 1)) = pell (m + 1 + j) + 2 * pell (m + 2 + j) := by
      rw [show m + 2 + (j + 1) = (m + 1 + j) + 2 by omega, show m + 2 + j = m + 1 + j + 1 by omega]
      rfl
    omega
theorem B_plx {N x b0 : Nat} {f : Po} (h : B N x f) (hx : x + 5 ≤ pell (N - f.len) * (b0 + 7)) : B N (pell (N - 2) * (b0 + 7)) (Po.pl f) := by
  by_cases f0 : f = 0
  · rw [f0]; exact B.zero
  · have hl := len_pos f0
    by_cases h2 : 2 ≤ f.len
    · refine (B_pl h).mono (Nat.le_refl _) ?_
      have : pell (N - f.len) * (b0 + 7) ≤ pell (N - 2) * (b0 + 7) := Nat.mul_le_mul_right _ (pell_mono (by omega))
      omega
    · have e1 : (Po.pl f).len ≤ 1 := by rw [len_pl]; omega
      have e2 := len1 e1
      have c1 := pl_cont f0
      rw [e2, cont_C] at c1
      refine ⟨by have := h.1; omega, fun i => ?_⟩
      rw [e2, cf_C]
      have pos : 1 ≤ pell (N - 2) * (b0 + 7) := Nat.mul_pos (pell_pos _) (by omega)
      have b1 : Bt (pell (N - 2) * (b0 + 7)) 1 := (bt_c (a := 1) (by decide)).mono pos
      split
      · exact b1.le (by rw [c1]; decide)
      · exact bt0
/-! ### rows -/
/-- a row (f, l, r) by a and b -/
structure Row (a b f l r : Po) : Prop where
  eq : l * a + r * b = f
/-- what divides both polynomials of two rows divides a and b -/
def Com (a b f g : Po) : Prop := ∀ d : Po, d.cont = 1 → Dv d f → Dv d g → Dv d a ∧ Dv d b
theorem Com.step {a b f g rest h u : Po} {s t : Int} (c : Com a b f g) (hs : s ≠ 0) (e : C s * f = u * g + rest) (ht : rest = C t * h) : Com a b g h := fun d hd dg dh => by
  refine c d hd ?_ dg
  have : Dv d (C s * f) := by
    rw [e, ht]
    exact (dg.mul u).add (dh.mul (C t))
  obtain ⟨w, hw⟩ := this
  exact Dq.dv hd ⟨s, w, hs, hw⟩
theorem Com.gc {a b f l r : Po} (c : Com a b f 0) (hr : Row a b f l r) (h0 : f = 0 → a = 0 ∧ b = 0) : Gc a b (Po.pl f) := by
  by_cases f0 : f = 0
  · obtain ⟨rfl, rfl⟩ := h0 f0
    rw [f0, pl0]
    exact ⟨pl0, Dv.zero _, Dv.zero _, 0, 0, 1, by decide, by grind⟩
  · obtain ⟨h1, h2⟩ := c (Po.pl f) (pl_cont f0) (dv_pl f) (Dv.zero _)
    refine ⟨pl_pl f, h1, h2, l, r, f.sc, sc_ne f0, ?_⟩
    rw [hr.eq]
    exact pl_eq f
end Po
end Rc

/-! Polynomials seen from elsewhere. -/
namespace Rc
open PySem
/-- one pass of a push: from the last weight down -/
def syn (c : Int) : List Int → List Int
  | [] => []
  | w :: r => (w + c * (syn c r).headD 0) :: syn c r
theorem syn_len (c : Int) : ∀ a : List Int, (syn c a).length = a.length
  | [] => rfl
  | w :: r => by
    show (syn c r).length + 1 = r.length + 1
    rw [syn_len c r]
def pushN (c : Int) : Nat → List Int → List Int
  | 0, a => a
  | n + 1, a => match syn c a with
    | [] => []
    | v :: t => v :: pushN c n t
def pushL (c : Int) (a : List Int) : List Int := pushN c a.length a
theorem pushN_len (c : Int) : ∀ (n : Nat) (a : List Int), (pushN c n a).length = a.length
  | 0, _ => rfl
  | n + 1, a => by
    have h := syn_len c a
    show (match syn c a with
      | [] => []
      | v :: t => v :: pushN c n t).length = _
    cases e : syn c a with
    | nil => rw [e] at h; exact h
    | cons v t =>
      rw [e] at h
      show (pushN c n t).length + 1 = _
      rw [pushN_len c n t, ← h]
      rfl
theorem hT_cons (x y w : Int) (r : List Int) : hT x y (w :: r) = hT x y r * x + w * y ^ r.length := rfl
theorem syn_ev (c x y : Int) : ∀ a : List Int, hT x y a = (match syn c a with
    | [] => 0
    | v :: t => v * y ^ t.length + (x - c * y) * hT x y t)
  | [] => rfl
  | [w] => by
    show hT x y [] * x + w * y ^ 0 = (w + c * 0) * y ^ 0 + (x - c * y) * 0
    show 0 * x + w * y ^ 0 = _
    grind
  | w :: u :: r => by
    have ih := syn_ev c x y (u :: r)
    have hl := syn_len c r
    show hT x y (u :: r) * x + w * y ^ (u :: r).length = (w + c * (u + c * (syn c r).headD 0)) * y ^ ((syn c r).length + 1) + (x - c * y) * (hT x y (syn c r) * x + (u + c * (syn c r).headD 0) * y ^ (syn c r).length)
    have ih2 : hT x y (u :: r) = (u + c * (syn c r).headD 0) * y ^ (syn c r).length + (x - c * y) * hT x y (syn c r) := ih
    rw [ih2, hl]
    show _ + w * y ^ (r.length + 1) = _
    rw [Int.pow_succ]
    generalize (syn c r).headD 0 = v
    generalize hT x y (syn c r) = t
    generalize y ^ r.length = p
    grind
theorem push_ev (c x y : Int) : ∀ (n : Nat) (a : List Int), n = a.length → hT x y (pushN c n a) = hT (x + c * y) y a
  | 0, a, h => by
    have : a = [] := List.length_eq_zero_iff.mp h.symm
    subst this
    rfl
  | n + 1, a, h => by
    have hl := syn_len c a
    have he := syn_ev c (x + c * y) y a
    show hT x y (match syn c a with
      | [] => []
      | v :: t => v :: pushN c n t) = _
    rw [he]
    cases e : syn c a with
    | nil => rfl
    | cons v t =>
      rw [e] at hl
      have ht : n = t.length := by
        have : t.length + 1 = a.length := hl
        omega
      show hT x y (pushN c n t) * x + v * y ^ (pushN c n t).length = v * y ^ t.length + (x + c * y - c * y) * hT (x + c * y) y t
      rw [pushN_len, push_ev c x y n t ht]
      generalize hT (x + c * y) y t = z
      generalize y ^ t.length = p
      grind
theorem pushL_ev (c x y : Int) (a : List Int) : hT x y (pushL c a) = hT (x + c * y) y a := push_ev c x y _ a rfl
theorem pushL_len (c : Int) (a : List Int) : (pushL c a).length = a.length := pushN_len c _ a
/-- each weight so many times more than the one ahead -/
def strL (c s : Int) : List Int → List Int
  | [] => []
  | w :: r => (w * s) :: strL c (s * c) r
theorem strL_len (c : Int) : ∀ (a : List Int) (s : Int), (strL c s a).length = a.length
  | [], _ => rfl
  | w :: r, s => by
    show (strL c (s * c) r).length + 1 = _
    rw [strL_len c r]
    rfl
theorem strL_ev (c x y : Int) : ∀ (a : List Int) (s : Int), hT x y (strL c s a) = s * hT (c * x) y a
  | [], s => (Int.mul_zero s).symm
  | w :: r, s => by
    show hT x y (strL c (s * c) r) * x + w * s * y ^ (strL c (s * c) r).length = s * (hT (c * x) y r * (c * x) + w * y ^ r.length)
    rw [strL_len, strL_ev c x y r (s * c)]
    generalize hT (c * x) y r = z
    generalize y ^ r.length = p
    grind
theorem hT_app (x y : Int) : ∀ (a : List Int) (w : Int), hT x y (a ++ [w]) = hT x y a * y + w * x ^ a.length
  | [], w => by
    show 0 * x + w * y ^ 0 = 0 * y + w * x ^ 0
    grind
  | u :: r, w => by
    show hT x y (r ++ [w]) * x + u * y ^ (r ++ [w]).length = (hT x y r * x + u * y ^ r.length) * y + w * x ^ (r.length + 1)
    rw [hT_app x y r w, List.length_append, List.length_cons, List.length_nil, Int.pow_succ, Int.pow_succ]
    generalize hT x y r = z
    generalize y ^ r.length = p
    generalize x ^ r.length = q
    grind
theorem hT_rev (x y : Int) : ∀ a : List Int, hT x y a.reverse = hT y x a
  | [] => rfl
  | w :: r => by
    rw [List.reverse_cons, hT_app, hT_rev x y r, List.length_reverse]
    rfl
def sprL (c : Int) (a : List Int) : List Int := (strL c 1 a.reverse).reverse
theorem sprL_len (c : Int) (a : List Int) : (sprL c a).length = a.length := by
  unfold sprL
  rw [List.length_reverse, strL_len, List.length_reverse]
theorem sprL_ev (c x y : Int) (a : List Int) : hT x y (sprL c a) = hT x (c * y) a := by
  unfold sprL
  rw [hT_rev, strL_ev, hT_rev, Int.one_mul]
theorem hT_scale (s x y : Int) : ∀ a : List Int, hT (s * x) (s * y) a * s = s ^ a.length * hT x y a
  | [] => by
    show 0 * s = s ^ 0 * 0
    grind
  | w :: r => by
    show (hT (s * x) (s * y) r * (s * x) + w * (s * y) ^ r.length) * s = s ^ (r.length + 1) * (hT x y r * x + w * y ^ r.length)
    have ih := hT_scale s x y r
    have e : (s * y) ^ r.length = s ^ r.length * y ^ r.length := Int.mul_pow ..
    rw [e, Int.pow_succ]
    generalize hT (s * x) (s * y) r = z at *
    generalize hT x y r = z2 at *
    generalize y ^ r.length = p
    generalize s ^ r.length = q at *
    have : (z * (s * x) + w * (q * p)) * s = (z * s) * s * x + w * q * p * s := by grind
    rw [this, ih]
    grind
/-- the noughts at the end do not matter at 1 -/
theorem hT_trim (x : Int) : ∀ a : List Int, hT x 1 (trim a) = hT x 1 a := by
  intro a
  rw [trim_eq]
  induction a with
  | nil => rfl
  | cons w r ih =>
    show hT x 1 (match trimR r with
      | [] => if w = 0 then [] else [w]
      | y :: t => w :: y :: t) = hT x 1 r * x + w * 1 ^ r.length
    rw [← ih, Int.one_pow]
    cases e : trimR r with
    | nil =>
      show hT x 1 (if w = 0 then [] else [w]) = 0 * x + w * 1
      split
      · rename_i h
        rw [h]
        show (0 : Int) = 0 * x + 0 * 1
        omega
      · show 0 * x + w * 1 ^ 0 = 0 * x + w * 1
        grind
    | cons y t =>
      show hT x 1 (y :: t) * x + w * 1 ^ (y :: t).length = _
      rw [Int.one_pow]
/-- seen within -/
def betL (L R B : Int) (p : List Int) : List Int := (pushL 1 (strL (R - L) 1 (pushL L (sprL B p))).reverse).reverse
theorem betL_len (L R B : Int) (p : List Int) : (betL L R B p).length = p.length := by
  unfold betL
  rw [List.length_reverse, pushL_len, List.length_reverse, strL_len, pushL_len, sprL_len]
theorem betL_ev (L R B x y : Int) (p : List Int) : hT x y (betL L R B p) = hT (L * y + R * x) (B * (x + y)) p := by
  unfold betL
  rw [hT_rev, pushL_ev, hT_rev, strL_ev, pushL_ev, sprL_ev, Int.one_mul]
  rw [show (R - L) * x + L * (y + 1 * x) = L * y + R * x by grind, show y + 1 * x = x + y by grind]
/-- seen from beyond -/
def abvL (a b c : Int) (p : List Int) : List Int := strL c 1 (pushL a (sprL b p))
theorem abvL_len (a b c : Int) (p : List Int) : (abvL a b c p).length = p.length := by
  unfold abvL
  rw [strL_len, pushL_len, sprL_len]
theorem abvL_ev (a b c x y : Int) (p : List Int) : hT x y (abvL a b c p) = hT (c * x + a * y) (b * y) p := by
  unfold abvL
  rw [strL_ev, pushL_ev, sprL_ev, Int.one_mul]
/-- the least number that both divide, as the house reckons it -/
def lcB (v d : Int) : Int := v.fdiv (Int.gcd v d) * d
theorem lcB_ok {v d : Int} {s : Nat} (v0 : 0 < v) (d0 : 0 < d) (hv : Bt s v) (hd : Bt s d) : (Int.gcd v d : Int) ≠ 0 ∧ 0 < lcB v d ∧ v ∣ lcB v d ∧ d ∣ lcB v d ∧ Bt (2 * s) (lcB v d) := by
  have g0 : (Int.gcd v d : Int) ≠ 0 := by
    have : Int.gcd v d ≠ 0 := fun e => by have := (Int.gcd_eq_zero_iff.mp e).2; omega
    omega
  have gp : 0 < (Int.gcd v d : Int) := by omega
  have g1 : (Int.gcd v d : Int) ∣ v := Int.gcd_dvd_left ..
  have g2 : (Int.gcd v d : Int) ∣ d := Int.gcd_dvd_right ..
  unfold lcB
  generalize (Int.gcd v d : Int) = g at *
  obtain ⟨x, rfl⟩ := g1
  obtain ⟨y, rfl⟩ := g2
  rw [Int.mul_fdiv_cancel_left _ g0]
  refine ⟨g0, ?_, ⟨y, by grind⟩, ⟨x, by grind⟩, ?_⟩
  · exact Int.mul_pos (Int.pos_of_mul_pos_left (by rw [Int.mul_comm]; exact v0) gp) d0
  · rw [show 2 * s = s + s by omega]
    exact Bt.mul (bt_quot hv rfl g0) hd
theorem fmod_lt {x y : Int} (h : y ≠ 0) : (x.fmod y).natAbs < y.natAbs := by
  have h1 := Int.emod_nonneg x h
  have h2 := Int.emod_lt x h
  rw [Int.fmod_eq_emod]
  split
  · omega
  · rename_i hn
    have : x % y ≠ 0 := fun e => hn (.inr (Int.dvd_of_emod_eq_zero e))
    have : ¬ 0 ≤ y := fun z => hn (.inl z)
    omega
theorem gcd_fmod (x y : Int) : Int.gcd y (x.fmod y) = Int.gcd x y := by
  have e : x.fmod y = x - y * x.fdiv y := by
    have := Int.mul_fdiv_add_fmod x y
    omega
  rw [e, Int.gcd_sub_mul_left_right, Int.gcd_comm]
/-! ### how great -/
theorem syn_bt {b c : Nat} {z : Int} (hz : Bt c z) : ∀ (a : List Int), (∀ w ∈ a, Bt b w) → ∀ w ∈ syn z a, Bt (b + a.length * (c + 1)) w
  | [], _, w, h => by cases h
  | u :: r, ha, w, h => by
    have ih := syn_bt hz r fun v hv => ha v (List.mem_cons_of_mem _ hv)
    have e : (u :: r).length * (c + 1) = r.length * (c + 1) + (c + 1) := Nat.succ_mul r.length (c + 1)
    have hd : Bt (b + r.length * (c + 1)) ((syn z r).headD 0) := by
      cases q : syn z r with
      | nil => exact bt0
      | cons v t => exact ih v (by rw [q]; exact List.mem_cons_self ..)
    rcases List.mem_cons.mp h with rfl | h
    · exact (Bt.add (a := c + (b + r.length * (c + 1))) ((ha u (List.mem_cons_self ..)).mono (by omega)) (Bt.mul hz hd)).mono (by omega)
    · exact (ih w h).mono (by omega)
theorem push_bt {c : Nat} {z : Int} (hz : Bt c z) : ∀ (n : Nat) (b : Nat) (a : List Int), a.length ≤ n → (∀ w ∈ a, Bt b w) → ∀ w ∈ pushN z a.length a, Bt (b + n * n * (c + 1)) w
  | 0, b, a, hl, ha, w, h => by
    have : a = [] := List.length_eq_zero_iff.mp (by omega)
    subst this
    cases h
  | n + 1, b, a, hl, ha, w, h => by
    cases a with
    | nil => cases h
    | cons u r =>
      have h2 : w ∈ (match syn z (u :: r) with
        | [] => []
        | v :: t => v :: pushN z r.length t) := h
      have hs := syn_len z (u :: r)
      have hb := syn_bt hz (u :: r) ha
      have hle : (u :: r).length * (c + 1) ≤ (n + 1) * (c + 1) := Nat.mul_le_mul_right _ hl
      have e2 : (n + 1) * (n + 1) * (c + 1) = n * n * (c + 1) + (n + n + 1) * (c + 1) := by
        rw [← Nat.add_mul]
        refine congrArg (· * (c + 1)) ?_
        rw [Nat.mul_add, Nat.add_mul]
        omega
      have e3 : (n + 1) * (c + 1) ≤ (n + n + 1) * (c + 1) := Nat.mul_le_mul_right _ (by omega)
      cases q : syn z (u :: r) with
      | nil => rw [q] at h2; cases h2
      | cons v t =>
        rw [q] at h2 hs hb
        have ht : t.length = r.length := by
          have : t.length + 1 = r.length + 1 := hs
          omega
        have hr : r.length + 1 ≤ n + 1 := hl
        rcases List.mem_cons.mp h2 with rfl | h2
        · exact (hb _ (List.mem_cons_self ..)).mono (by omega)
        · rw [← ht] at h2
          have ih := push_bt hz n _ t (by omega) (fun x hx => hb x (List.mem_cons_of_mem _ hx)) w h2
          exact ih.mono (by omega)
theorem pushL_bt {b c n : Nat} {z : Int} {a : List Int} (hz : Bt c z) (ha : Bl n b a) : Bl n (b + n * n * (c + 1)) (pushL z a) :=
  ⟨by rw [pushL_len]; exact ha.1, push_bt hz n b a ha.1 ha.2⟩
theorem strL_bt {b c : Nat} {z : Int} (hz : Bt c z) : ∀ (a : List Int) (t : Nat) (s : Int), (∀ w ∈ a, Bt b w) → Bt t s → ∀ w ∈ strL z s a, Bt (b + t + a.length * c) w
  | [], _, _, _, _, w, h => by cases h
  | u :: r, t, s, ha, hs, w, h => by
    have e : (u :: r).length * c = r.length * c + c := Nat.succ_mul r.length c
    rcases List.mem_cons.mp h with rfl | h
    · exact (Bt.mul (ha u (List.mem_cons_self ..)) hs).mono (by omega)
    · exact (strL_bt hz r (t + c) (s * z) (fun v hv => ha v (List.mem_cons_of_mem _ hv)) (Bt.mul hs hz) w h).mono (by omega)
theorem bl_str {b c n : Nat} {z : Int} {a : List Int} (hz : Bt c z) (ha : Bl n b a) : Bl n (b + 1 + n * c) (strL z 1 a) :=
  ⟨by rw [strL_len]; exact ha.1, fun w hw => (strL_bt hz a 1 1 ha.2 (bt_c (by decide)) w hw).mono (by
    have := Nat.mul_le_mul_right c ha.1
    omega)⟩
theorem bl_rev {b n : Nat} {a : List Int} (ha : Bl n b a) : Bl n b a.reverse := ⟨by rw [List.length_reverse]; exact ha.1, fun w hw => ha.2 w (List.mem_reverse.mp hw)⟩
theorem bl_spr {b c n : Nat} {z : Int} {a : List Int} (hz : Bt c z) (ha : Bl n b a) : Bl n (b + 1 + n * c) (sprL z a) := bl_rev (bl_str hz (bl_rev ha))
theorem bl_bet {n b s : Nat} {L R B : Int} {p : List Int} (hp : Bl n b p) (hL : Bt s L) (hR : Bt s R) (hB : Bt s B) (hn : n ≤ 100) : Bl n (b + 2 + n * s + n * n * (s + 1) + n * (s + 1) + n * n * 2) (betL L R B p) := by
  have b1 := bl_spr hB hp
  have b2 := pushL_bt hL b1
  have b3 := bl_str (Bt.sub hR hL) b2
  have b4 := pushL_bt (z := 1) (c := 1) (bt_c (by decide)) (bl_rev b3)
  exact (bl_rev b4).mono (Nat.le_refl _) (by omega)
end Rc

/-! How great a part of a polynomial can be: by its values at whole numbers. -/
namespace Rc
open PySem
/-- a list by the pass of a push at c: the value, and what is left -/
theorem syn_1 (c x : Int) {a : List Int} {v : Int} {t : List Int} (h : syn c a = v :: t) : hT x 1 a = v + (x - c) * hT x 1 t := by
  have e := syn_ev c x 1 a
  rw [h] at e
  have e2 : hT x 1 a = v * 1 ^ t.length + (x - c * 1) * hT x 1 t := e
  rw [e2, Int.one_pow]
  grind
theorem syn_back {b s : Nat} {c : Int} (hc : Bt s c) : ∀ (a : List Int), (∀ w ∈ syn c a, Bt b w) → ∀ w ∈ a, Bt (b + s + 1) w
  | [], _, w, h => by cases h
  | u :: r, hs, w, h => by
    have e : syn c (u :: r) = (u + c * (syn c r).headD 0) :: syn c r := rfl
    rw [e] at hs
    have h1 := hs _ (List.mem_cons_self ..)
    have h2 : ∀ w ∈ syn c r, Bt b w := fun w hw => hs w (List.mem_cons_of_mem _ hw)
    have hd : Bt b ((syn c r).headD 0) := by
      cases q : syn c r with
      | nil => exact bt0
      | cons v t => exact h2 v (by rw [q]; exact List.mem_cons_self ..)
    rcases List.mem_cons.mp h with rfl | h
    · have e2 : w = (w + c * (syn c r).headD 0) - c * (syn c r).headD 0 := by omega
      rw [e2]
      exact (Bt.sub (a := s + b) (h1.mono (by omega)) (Bt.mul hc hd)).mono (by omega)
    · exact syn_back hc r h2 w h
theorem vals_bound {s : Nat} : ∀ (n : Nat) (a : List Int) (xs : List Int) (M : Nat), a.length = n → n ≤ xs.length → xs.Nodup → (∀ x ∈ xs, Bt s x) → (∀ x ∈ xs, Bt M (hT x 1 a)) → ∀ w ∈ a, Bt (M + (s + 2) * n) w
  | 0, a, xs, M, hl, _, _, _, _, w, h => by
    have : a = [] := List.length_eq_zero_iff.mp hl
    subst this
    cases h
  | n + 1, a, xs, M, hl, hx, nd, hs, hv, w, h => by
    cases xs with
    | nil => cases hx
    | cons c xs =>
      have hsl := syn_len c a
      cases q : syn c a with
      | nil => rw [q] at hsl; simp at hsl; omega
      | cons v t =>
        rw [q] at hsl
        have ht : t.length = n := by simp at hsl; omega
        have nd2 := List.nodup_cons.mp nd
        have hc := hs c (List.mem_cons_self ..)
        have vB : Bt M v := by
          have e := syn_1 c c q
          have e2 : hT c 1 a = v := by rw [e]; grind
          rw [← e2]
          exact hv c (List.mem_cons_self ..)
        have tv : ∀ x ∈ xs, Bt (M + 1) (hT x 1 t) := fun x hx => by
          have e := syn_1 c x q
          have e2 : hT x 1 a - v = (x - c) * hT x 1 t := by omega
          have ne : x - c ≠ 0 := fun z => nd2.1 (by
            have : x = c := by omega
            rw [← this]
            exact hx)
          exact bt_quot (Bt.sub (hv x (List.mem_cons_of_mem _ hx)) vB) e2 ne
        have ih := vals_bound n t xs (M + 1) ht (by simp at hx; omega) nd2.2 (fun x hx => hs x (List.mem_cons_of_mem _ hx)) tv
        have e3 : (s + 2) * (n + 1) = (s + 2) * n + (s + 2) := Nat.mul_succ ..
        have sb : ∀ w ∈ syn c a, Bt (M + 1 + (s + 2) * n) w := fun w hw => by
          rw [q] at hw
          rcases List.mem_cons.mp hw with rfl | hw
          · exact vB.mono (by omega)
          · exact ih w hw
        exact (syn_back hc a sb w h).mono (by omega)
/-- not all are nought -/
def Nz (a : List Int) : Prop := ∃ w ∈ a, w ≠ 0
theorem syn_nz {c : Int} : ∀ {a : List Int}, Nz a → Nz (syn c a)
  | [], ⟨w, h, _⟩ => by cases h
  | u :: r, ⟨w, h, w0⟩ => by
    show Nz ((u + c * (syn c r).headD 0) :: syn c r)
    by_cases hr : Nz (syn c r)
    · obtain ⟨x, h1, h2⟩ := hr
      exact ⟨x, List.mem_cons_of_mem _ h1, h2⟩
    · have hr2 : ¬ Nz r := fun z => hr (syn_nz z)
      have z0 : (syn c r).headD 0 = 0 := by
        cases q : syn c r with
        | nil => rfl
        | cons v t =>
          refine Classical.byContradiction fun z => hr ⟨v, by rw [q]; exact List.mem_cons_self .., z⟩
      rcases List.mem_cons.mp h with rfl | h
      · refine ⟨_, List.mem_cons_self .., ?_⟩
        rw [z0, Int.mul_zero, Int.add_zero]
        exact w0
      · exact absurd ⟨w, h, w0⟩ hr2
theorem roots_few : ∀ (n : Nat) (a : List Int), a.length = n → Nz a → ∀ xs : List Int, xs.Nodup → (xs.filter fun x => hT x 1 a = 0).length < n
  | 0, a, hl, ⟨w, h, _⟩, xs, nd => by
    have : a = [] := List.length_eq_zero_iff.mp hl
    subst this
    cases h
  | n + 1, a, hl, hz, xs, nd => by
    by_cases he : (xs.filter fun x => hT x 1 a = 0) = []
    · rw [he]; simp
    · obtain ⟨c, hc⟩ := List.exists_mem_of_ne_nil _ he
      obtain ⟨hcx, hc0⟩ := List.mem_filter.mp hc
      have hc0 : hT c 1 a = 0 := by simpa using hc0
      have hsl := syn_len c a
      cases q : syn c a with
      | nil => rw [q] at hsl; simp at hsl; omega
      | cons v t =>
        rw [q] at hsl
        have ht : t.length = n := by simp at hsl; omega
        have v0 : v = 0 := by
          have e := syn_1 c c q
          have e2 : hT c 1 a = v := by rw [e]; grind
          omega
        have tz : Nz t := by
          obtain ⟨w, h1, h2⟩ := syn_nz (c := c) hz
          rw [q] at h1
          rcases List.mem_cons.mp h1 with rfl | h1
          · exact absurd v0 h2
          · exact ⟨w, h1, h2⟩
        have ih := roots_few n t ht tz (xs.filter fun x => x ≠ c) (nd.filter _)
        have sub : ∀ x ∈ (xs.filter fun x => hT x 1 a = 0), x = c ∨ x ∈ ((xs.filter fun x => x ≠ c).filter fun x => hT x 1 t = 0) := fun x hx => by
          obtain ⟨h1, h2⟩ := List.mem_filter.mp hx
          have h2 : hT x 1 a = 0 := by simpa using h2
          by_cases hxc : x = c
          · exact .inl hxc
          · right
            have e := syn_1 c x q
            rw [h2, v0] at e
            have e2 : (x - c) * hT x 1 t = 0 := by omega
            rcases Int.mul_eq_zero.mp e2 with z | z
            · omega
            · exact List.mem_filter.mpr ⟨List.mem_filter.mpr ⟨h1, by simpa using hxc⟩, by simpa using z⟩
        have cnt : (xs.filter fun x => hT x 1 a = 0).length ≤ (c :: ((xs.filter fun x => x ≠ c).filter fun x => hT x 1 t = 0)).length := by
          refine List.Nodup.length_le_of_subset (nd.filter _) fun x hx => ?_
          rcases sub x hx with rfl | h
          · exact List.mem_cons_self ..
          · exact List.mem_cons_of_mem _ h
        simp only [List.length_cons] at cnt
        omega
def pts (n : Nat) : List Int := (List.range n).map fun (i : Nat) => (i : Int)
theorem pts_nd (n : Nat) : (pts n).Nodup := by
  unfold pts
  exact List.pairwise_map.mpr (List.nodup_range.imp fun h e => h (Int.ofNat.inj e))
theorem filter_two {α : Type} (f : α → Bool) : ∀ xs : List α, (xs.filter f).length + (xs.filter fun x => !f x).length = xs.length
  | [] => rfl
  | x :: r => by
    have ih := filter_two f r
    cases h : f x with
    | true => rw [List.filter_cons_of_pos h, List.filter_cons_of_neg (by simp [h])]; simp only [List.length_cons]; omega
    | false => rw [List.filter_cons_of_neg (by simp [h]), List.filter_cons_of_pos (by simp [h])]; simp only [List.length_cons]; omega
namespace Po
theorem hT_ev1 (x : Int) (a : List Int) : ((hT x 1 a : Int) : Rat) = Rc.ev (x : Rat) a := by
  have h := hT_ev (x : Rat) a
  have e1 : ((x : Rat).num) = x := rfl
  have e2 : (((x : Rat).den : Nat) : Int) = 1 := rfl
  have e3 : (((x : Rat).den : Nat) : Rat) = 1 := rfl
  rw [e1, e2, e3] at h
  have : (1 : Rat) ^ a.length = 1 := by
    induction a.length with
    | zero => rfl
    | succ n ih => rw [Rat.pow_succ, ih, Rat.mul_one]
  rw [this] at h
  grind
/-- the value at a whole number -/
def at1 (x : Int) (p : Po) : Int := hT x 1 p.l
theorem at1_mul (x : Int) (p q : Po) : at1 x (p * q) = at1 x p * at1 x q := by
  have h : ((at1 x (p * q) : Int) : Rat) = ((at1 x p * at1 x q : Int) : Rat) := by
    unfold at1
    rw [Rat.intCast_mul, hT_ev1, hT_ev1, hT_ev1]
    exact ev_mul' x p q
  exact Rat.intCast_inj.mp h
theorem nz_of {p : Po} (h : p ≠ 0) : Nz p.l := by
  have h1 := lc_ne h
  have h2 := len_pos h
  refine ⟨p.l[p.len - 1]'(by unfold len at *; omega), List.getElem_mem _, ?_⟩
  have : p.lc = p.l[p.len - 1]'(by unfold len at *; omega) := Rc.cf_lt (by unfold len at *; omega)
  rw [← this]
  exact h1
/-- how much greater a part's weights can be -/
def gro (N : Nat) : Nat := 1 + (2 * ((2 * N + 1).log2 + 1) + 3) * N
theorem B_part {N b : Nat} {p u d : Po} (hp : B N b p) (p0 : p ≠ 0) (e : p = u * d) : B N (b + gro N) d := by
  have u0 : u ≠ 0 := fun z => p0 (by rw [e, z]; grind)
  have d0 : d ≠ 0 := fun z => p0 (by rw [e, z]; grind)
  have hl : p.len = u.len + d.len - 1 := by rw [e]; exact len_mul u0 d0
  have ul := len_pos u0
  have dl := len_pos d0
  have pl := hp.1
  refine ⟨by omega, ?_⟩
  have few := roots_few _ u.l rfl (nz_of u0) (pts (2 * N + 1)) (pts_nd _)
  -- the points at which the other part is not nought
  have cnt : ((pts (2 * N + 1)).filter fun x => hT x 1 u.l = 0).length + ((pts (2 * N + 1)).filter fun x => ¬ hT x 1 u.l = 0).length = 2 * N + 1 := by
    have h1 := filter_two (fun x => decide (hT x 1 u.l = 0)) (pts (2 * N + 1))
    have h2 : (pts (2 * N + 1)).length = 2 * N + 1 := by unfold pts; simp
    rw [h2] at h1
    have h3 : ((pts (2 * N + 1)).filter fun x => !decide (hT x 1 u.l = 0)) = ((pts (2 * N + 1)).filter fun x => decide (¬ hT x 1 u.l = 0)) := by
      refine List.filter_congr fun x _ => ?_
      simp
    rw [h3] at h1
    exact h1
  have few2 : ((pts (2 * N + 1)).filter fun x => hT x 1 u.l = 0).length < u.len := few
  obtain ⟨c, hc⟩ : ∃ c, c = (2 * N + 1).log2 + 1 := ⟨_, rfl⟩
  have ptB : ∀ x ∈ pts (2 * N + 1), Bt c x := fun x hx => by
    obtain ⟨i, hi, rfl⟩ := List.mem_map.mp hx
    have := List.mem_range.mp hi
    unfold Bt
    have h1 : 2 * N + 1 < 2 ^ c := by rw [hc]; exact Nat.lt_log2_self
    show i < 2 ^ c
    omega
  have vB : ∀ x ∈ ((pts (2 * N + 1)).filter fun x => ¬ hT x 1 u.l = 0), Bt (b + 1 + (c + 1) * N) (hT x 1 d.l) := fun x hx => by
    obtain ⟨h1, h2⟩ := List.mem_filter.mp hx
    have h2 : hT x 1 u.l ≠ 0 := by simpa using h2
    have pv : Bt (b + 1 + (c + 1) * N) (hT x 1 p.l) := (bt_hT (ptB x h1) ((bt_c (a := 1) (by decide)).mono (by omega)) p.l hp.bl.2).mono (by
      have : (c + 1) * p.l.length ≤ (c + 1) * N := Nat.mul_le_mul_left _ pl
      omega)
    have e2 : hT x 1 p.l = hT x 1 u.l * hT x 1 d.l := by
      have := at1_mul x u d
      rw [← e] at this
      exact this
    exact bt_quot pv e2 h2
  have key := vals_bound (s := c) d.l.length d.l _ _ rfl (by unfold len at *; omega) ((pts_nd (2 * N + 1)).filter fun x => decide (¬ hT x 1 u.l = 0)) (fun x hx => ptB x (List.mem_filter.mp hx).1) vB
  have : Bl N (b + gro N) d.l := ⟨by unfold len at *; omega, fun w hw => (key w hw).mono (by
    have m1 : (c + 2) * d.l.length ≤ (c + 2) * N := Nat.mul_le_mul_left _ (by unfold len at *; omega)
    unfold gro
    rw [← hc]
    have m2 : (2 * c + 3) * N = (c + 1) * N + (c + 2) * N := by rw [← Nat.add_mul]; exact congrArg (· * N) (by omega)
    omega)⟩
  exact fun i => bl_cf this i
theorem B_fac {N b : Nat} {p u d : Po} (hp : B N b p) (e : p = u * d) : B N (b + gro N) u ∨ d = 0 ∧ p = 0 := by
  by_cases p0 : p = 0
  · by_cases d0 : d = 0
    · exact .inr ⟨d0, p0⟩
    · left
      have : u = 0 := by
        rcases Classical.em (u = 0) with z | z
        · exact z
        · exact absurd (e.symm.trans p0) (mul_ne z d0)
      rw [this]
      exact B.zero
  · exact .inl (B_part hp p0 (show p = d * u by rw [e]; grind))
theorem B_facn {N b : Nat} {p u d : Po} (hp : B N b p) (e : p = u * d) (d0 : d ≠ 0) : B N (b + gro N) u := by
  rcases B_fac hp e with h | h
  · exact h
  · exact absurd h.1 d0
theorem B_gc {N b : Nat} {x y d : Po} (hx : B N b x) (hy : B N b y) (g : Gc x y d) (d0 : d ≠ 0) : B N (b + gro N) d := by
  by_cases x0 : x = 0
  · by_cases y0 : y = 0
    · exfalso
      obtain ⟨l, r, c, c0, e⟩ := g.bz
      rw [x0, y0] at e
      exact mul_ne (C_ne c0) d0 (by rw [← e]; grind)
    · obtain ⟨v, e⟩ := g.db
      exact B_part hy y0 e
  · obtain ⟨u, e⟩ := g.da
    exact B_part hx x0 e
end Po
end Rc

/-! Quotients of polynomials in plain form. -/
namespace Rc
open PySem
namespace Po
structure Qf (t b : Po) : Prop where
  lc : 0 < b.lc
  co : ∀ d : Nat, d ∣ t.cont → d ∣ b.cont → d = 1
  bz : ∃ l r c, c ≠ 0 ∧ l * t + r * b = C c
theorem Qf.b0 {t b : Po} (h : Qf t b) : b ≠ 0 := fun e => by
  have := h.lc
  rw [e, lc0] at this
  omega
theorem Qf.uniq {t b t' b' : Po} (h : Qf t b) (g : Qf t' b') (e : t * b' = t' * b) : t = t' ∧ b = b' := by
  obtain ⟨l, r, c, hc, q⟩ := h.bz
  obtain ⟨l', r', c', hc', q'⟩ := g.bz
  have e1 : C c * b' = (l * t' + r * b') * b := by rw [← q]; grind
  have e2 : C c' * b = (l' * t + r' * b) * b' := by rw [← q']; grind
  have e3 : (l * t' + r * b') * (l' * t + r' * b) = C (c * c') := by
    refine cancel h.b0 ?_
    rw [C_mul]
    have : C c * (C c' * b) = (l' * t + r' * b) * (C c * b') := by rw [e2]; grind
    rw [e1] at this
    grind
  have cc : c * c' ≠ 0 := Int.mul_ne_zero hc hc'
  have w0 : (l * t' + r * b') ≠ 0 := fun z => C_ne cc (by rw [← e3, z]; grind)
  have w1 : (l' * t + r' * b) ≠ 0 := fun z => C_ne cc (by rw [← e3, z]; grind)
  have hl := len_mul w0 w1
  rw [e3, len_C cc] at hl
  have a1 := len_pos w0
  have a2 := len_pos w1
  have ek := len1 (p := l * t' + r * b') (by omega)
  generalize (l * t' + r * b').cf 0 = k at ek
  rw [ek] at e1 w0
  have k0 : k ≠ 0 := fun z => w0 (by rw [z]; rfl)
  -- c b' = k b, c t' = k t
  have f2 : C c * t' = C k * t := by
    refine cancel h.b0 ?_
    have : b * (C c * t') = t * (C c * b') := by grind
    rw [this, e1]
    grind
  have n1 := congrArg cont e1
  have n2 := congrArg cont f2
  rw [cont_Cmul, cont_Cmul] at n1 n2
  have ck : c.natAbs = k.natAbs := by
    have d1 : c.natAbs ∣ k.natAbs := by
      have x1 : c.natAbs ∣ Nat.gcd (k.natAbs * t.cont) (k.natAbs * b.cont) := Nat.dvd_gcd (by rw [← n2]; exact Nat.dvd_mul_right ..) (by rw [← n1]; exact Nat.dvd_mul_right ..)
      rw [Nat.gcd_mul_left, h.co (Nat.gcd t.cont b.cont) (Nat.gcd_dvd_left ..) (Nat.gcd_dvd_right ..), Nat.mul_one] at x1
      exact x1
    have d2 : k.natAbs ∣ c.natAbs := by
      have x1 : k.natAbs ∣ Nat.gcd (c.natAbs * t'.cont) (c.natAbs * b'.cont) := Nat.dvd_gcd (by rw [n2]; exact Nat.dvd_mul_right ..) (by rw [n1]; exact Nat.dvd_mul_right ..)
      rw [Nat.gcd_mul_left, g.co (Nat.gcd t'.cont b'.cont) (Nat.gcd_dvd_left ..) (Nat.gcd_dvd_right ..), Nat.mul_one] at x1
      exact x1
    exact Nat.dvd_antisymm d1 d2
  have sg : c = k := by
    have hs := congrArg Po.lc e1
    rw [lc_Cmul, lc_Cmul] at hs
    have p1 := h.lc
    have p2 := g.lc
    rcases Int.natAbs_eq_natAbs_iff.mp ck with z | z
    · exact z
    · exfalso
      rw [z] at hs
      have m1 : k * b'.lc + k * b.lc = 0 := by grind
      rw [← Int.mul_add] at m1
      rcases Int.mul_eq_zero.mp m1 with y | y
      · exact k0 y
      · omega
  rw [sg] at e1 f2
  exact ⟨(cancel (C_ne k0) f2).symm, (cancel (C_ne k0) e1).symm⟩
/-- without what divides all weights of both, the second's last weight above 0 -/
theorem light {u v : Po} (hv : v ≠ 0) (bz : ∃ l r c, c ≠ 0 ∧ l * u + r * v = C c) {n : Int} {t b : Po} (hn : n.natAbs = Nat.gcd u.cont v.cont) (hs : 0 < n ↔ 0 < v.lc) (e1 : u = C n * t) (e2 : v = C n * b) : Qf t b := by
  have vc := cont_ne hv
  have n0 : n ≠ 0 := fun z => by
    rw [z] at hn
    have := Nat.eq_zero_of_gcd_eq_zero_right hn.symm
    exact vc this
  have lv := congrArg Po.lc e2
  rw [lc_Cmul] at lv
  have b0 : b ≠ 0 := fun z => hv (by rw [e2, z]; grind)
  have lb := lc_ne b0
  refine ⟨?_, fun d h1 h2 => ?_, ?_⟩
  · refine Classical.byContradiction fun z => ?_
    have lb2 : b.lc < 0 := by omega
    rcases Int.lt_or_gt_of_ne n0 with q | q
    · have : 0 < n * b.lc := Int.mul_pos_of_neg_of_neg q lb2
      have := hs.mpr (by omega)
      omega
    · have := hs.mp q
      have : n * b.lc < 0 := Int.mul_neg_of_pos_of_neg q lb2
      omega
  · have c1 := congrArg cont e1
    have c2 := congrArg cont e2
    rw [cont_Cmul] at c1 c2
    have : n.natAbs * d ∣ n.natAbs := by
      conv => rhs; rw [hn]
      exact Nat.dvd_gcd (by rw [c1]; exact Nat.mul_dvd_mul_left _ h1) (by rw [c2]; exact Nat.mul_dvd_mul_left _ h2)
    have h5 := Nat.le_of_dvd (by omega) this
    have d0 : d ≠ 0 := fun e => by
      subst e
      rw [Nat.mul_zero] at this
      have := Nat.eq_zero_of_zero_dvd this
      omega
    have : n.natAbs * d ≤ n.natAbs * 1 := by omega
    have := Nat.le_of_mul_le_mul_left this (by omega)
    omega
  · obtain ⟨l, r, c, hc, e⟩ := bz
    exact ⟨l * C n, r * C n, c, hc, by rw [← e, e1, e2]; grind⟩
theorem Qf.gc {t b : Po} (h : Qf t b) : Gc t b 1 := by
  obtain ⟨l, r, c, hc, e⟩ := h.bz
  refine ⟨by decide, ⟨t, by grind⟩, ⟨b, by grind⟩, l, r, c, hc, by rw [e]; grind⟩
theorem qf_one (p : Po) (h : p = 0) : Qf p 1 := by
  subst h
  exact ⟨by decide, fun d _ h => Nat.dvd_one.mp (show d ∣ 1 from h), 0, 1, 1, by decide, by rw [C1]; grind⟩
theorem qf_whole (p : Po) : Qf p 1 := ⟨by decide, fun d _ h => Nat.dvd_one.mp (show d ∣ 1 from h), 0, 1, 1, by decide, by rw [C1]; grind⟩
end Po
theorem sz_ev {n p s : Nat} {q : Rat} {a : List Int} (ha : Bl n p a) (hq : Sz s q) : Sz (p + 2 + (s + 1) * n) (ev q a) := by
  have h1 : (s + 1) * a.length ≤ (s + 1) * n := Nat.mul_le_mul_left _ ha.1
  have h2 : s * (a.length - 1) ≤ (s + 1) * n := Nat.mul_le_mul (by omega) (by have := ha.1; omega)
  exact ⟨(ev_num hq ha.2).mono (by omega), (ev_den hq.2 a).mono (by omega)⟩
theorem eqv2 (a b c d : D) : PyData.eqv (.tuple [a, b]) (.tuple [c, d]) = (PyData.eqv a c && PyData.eqv b d) := by
  show (PyData.eqv a c && (PyData.eqv b d && PyData.eqvAll [] [])) = _
  rw [show PyData.eqvAll [] [] = true from rfl, Bool.and_true]
theorem shaped2 (a b : List Int) : SeqAt.shaped (.tuple [tz a, tz b]) = true := shaped_of (shTup (n := 1) fun x h => by
  simp only [List.mem_cons, List.not_mem_nil, or_false] at h
  rcases h with rfl | rfl
  · exact shTup (shInts a)
  · exact shTup (shInts b)) (by decide)
theorem cmp_qq {a b c d : List Int} {Q : Bool → Prop} : cmpW .Eq (.tuple [tz a, tz b]) (.tuple [tz c, tz d]) Q = Q (decide (a = c) && decide (b = d)) := by
  show (SeqAt.shaped (.tuple [tz a, tz b]) = true ∧ SeqAt.shaped (.tuple [tz c, tz d]) = true ∧ Q (PyData.eqv (.tuple [tz a, tz b]) (.tuple [tz c, tz d]))) = _
  rw [eqv2, show PyData.eqv (tz a) (tz c) = decide (a = c) from eqvT a c, show PyData.eqv (tz b) (tz d) = decide (b = d) from eqvT b d]
  exact propext ⟨fun h => h.2.2, fun h => ⟨shaped2 a b, shaped2 c d, h⟩⟩
theorem cmp_qqn {a b c d : List Int} {Q : Bool → Prop} : cmpW .NotEq (.tuple [tz a, tz b]) (.tuple [tz c, tz d]) Q = Q (!(decide (a = c) && decide (b = d))) := by
  show (SeqAt.shaped (.tuple [tz a, tz b]) = true ∧ SeqAt.shaped (.tuple [tz c, tz d]) = true ∧ Q (!PyData.eqv (.tuple [tz a, tz b]) (.tuple [tz c, tz d]))) = _
  rw [eqv2, show PyData.eqv (tz a) (tz c) = decide (a = c) from eqvT a c, show PyData.eqv (tz b) (tz d) = decide (b = d) from eqvT b d]
  exact propext ⟨fun h => h.2.2, fun h => ⟨shaped2 a b, shaped2 c d, h⟩⟩
theorem cmp_qq0 {a b : List Int} {Q : Bool → Prop} : cmpW .Eq (.tuple [tz a, tz b]) (.tuple [.tuple [], .tuple [.int 1]]) Q = Q (decide (a = []) && decide (b = [1])) := cmp_qq (c := []) (d := [1])
theorem cmp_qqn0 {a b : List Int} {Q : Bool → Prop} : cmpW .NotEq (.tuple [tz a, tz b]) (.tuple [.tuple [], .tuple [.int 1]]) Q = Q (!(decide (a = []) && decide (b = [1]))) := cmp_qqn (c := []) (d := [1])
theorem eqv_qq {a b c d : List Int} : PyData.eqv (.tuple [tz a, tz b]) (.tuple [tz c, tz d]) = (decide (a = c) && decide (b = d)) := by
  rw [eqv2, show PyData.eqv (tz a) (tz c) = decide (a = c) from eqvT a c, show PyData.eqv (tz b) (tz d) = decide (b = d) from eqvT b d]
theorem eqv_qq0 {a b : List Int} : PyData.eqv (.tuple [tz a, tz b]) (.tuple [.tuple [], .tuple [.int 1]]) = (decide (a = []) && decide (b = [1])) := eqv_qq (c := []) (d := [1])
theorem shaped20 : SeqAt.shaped (.tuple [.tuple [], .tuple [.int 1]]) = true := shaped2 [] [1]
theorem cutm1 {α : Type} (xs : List α) : cut xs none (some (-1)) = xs.dropLast := by
  unfold cut
  have e : HT.sIx xs.length xs.length (some (-1)) = xs.length - 1 := by
    show (Int.negSucc 0 + (xs.length : Int)).toNat = _
    omega
  rw [e, show HT.sIx xs.length 0 none = 0 from rfl, List.drop_zero, Nat.sub_zero, List.dropLast_eq_take]
theorem add_tzr {y : List D} {a : List Int} {Q : Val → Prop} : opW .Add (tz a) (.tuple y) Q = (a.length + y.length ≤ 16777216 ∧ Q (.d (.tuple (a.map .int ++ y)))) := by
  show ((a.map PyData.int).length + y.length ≤ 16777216 ∧ Q (.d (.tuple (a.map .int ++ y)))) = _
  rw [List.length_map]
end Rc

/-! Quotients reckoned: pairs of polynomials, alike by multiplying across. -/
namespace Rc
open PySem
namespace Po
def der (p : Po) : Po := ofL (dL p.l)
theorem der_add (p q : Po) : der (p + q) = der p + der q := ext' fun n => by
  rw [cf_add]
  show (ofL _).cf n = (ofL _).cf n + (ofL _).cf n
  rw [cf_ofL, cf_ofL, cf_ofL, e_dL (e_la p q) n, d_add p.l q.l n, cf_addL]
theorem e_lm (p q : Po) : E (p * q).l (mulL p.l q.l) := fun n => cf_trim _ n
theorem der_mul (p q : Po) : der (p * q) = der p * q + p * der q := ext' fun n => by
  have h1 : Rc.cf (dL (p * q).l) n = Rc.cf (addL (mulL (dL p.l) q.l) (mulL p.l (dL q.l))) n := (e_dL (e_lm p q) n).trans (d_mul p.l q.l n)
  show (ofL _).cf n = _
  rw [cf_ofL, h1, cf_addL, cf_add]
  have h2 : (der p * q).cf n = Rc.cf (mulL (dL p.l) q.l) n := (e_lm (der p) q n).trans (e_mul (e_trim _) E.rfl n)
  have h3 : (p * der q).cf n = Rc.cf (mulL p.l (dL q.l)) n := (e_lm p (der q) n).trans (e_mul E.rfl (e_trim _) n)
  rw [h2, h3]
theorem der_C (c : Int) : der (C c) = 0 := ext' fun n => by
  show (ofL _).cf n = _
  rw [cf_ofL, cf_dL, cf_0]
  show Df (cf (C c)) n = 0
  unfold Df
  rw [cf_C, if_neg (by omega), Int.mul_zero]
theorem der_1 : der 1 = 0 := der_C 1
theorem der_0 : der 0 = 0 := der_C 0
theorem der_neg (p : Po) : der (-p) = -der p := by
  have h := der_add p (-p)
  rw [show p + -p = 0 by grind, der_0] at h
  grind
theorem der_sub (p q : Po) : der (p - q) = der p - der q := by
  rw [show p - q = p + -q by grind, der_add, der_neg]
  grind
theorem B.mul1 {n m b c N w : Nat} {p q : Po} (hp : B n b p) (hq : B m c q) (h : n + m ≤ N + 1) (hw : b + c + n ≤ w) : B N w (p * q) := by
  have h1 := hp.mul hq
  refine ⟨?_, fun i => (h1.2 i).mono hw⟩
  by_cases p0 : p = 0
  · rw [p0, show (0 : Po) * q = 0 by grind]
    exact Nat.zero_le _
  · by_cases q0 : q = 0
    · rw [q0, show p * (0 : Po) = 0 by grind]
      exact Nat.zero_le _
    · have := len_mul p0 q0
      have := hp.1
      have := hq.1
      omega
theorem B.der {n b : Nat} {p : Po} (h : B n b p) (hn : n ≤ 100000) : B n (17 + b) (der p) := B.of (bl_trim (bl_d h.bl hn))
/-- a pair of polynomials within bounds, the second not nought -/
structure BB (n b : Nat) (x : Po × Po) : Prop where
  t : B n b x.1
  b : B n b x.2
  n0 : x.2 ≠ 0
def Sim (x y : Po × Po) : Prop := x.1 * y.2 = y.1 * x.2
def aF (x y : Po × Po) : Po × Po := (x.1 * y.2 + y.1 * x.2, x.2 * y.2)
def sF (x y : Po × Po) : Po × Po := (x.1 * y.2 - y.1 * x.2, x.2 * y.2)
def mF (x y : Po × Po) : Po × Po := (x.1 * y.1, x.2 * y.2)
def vF (x y : Po × Po) : Po × Po := (x.1 * y.2, x.2 * y.1)
def dF (x : Po × Po) : Po × Po := (der x.1 * x.2 - x.1 * der x.2, x.2 * x.2)
theorem Sim.symm {x y : Po × Po} (h : Sim x y) : Sim y x := Eq.symm h
theorem Sim.refl (x : Po × Po) : Sim x x := Eq.refl _
theorem Sim.trans {x y z : Po × Po} (h : Sim x y) (g : Sim y z) (n0 : y.2 ≠ 0) : Sim x z := by
  unfold Sim at *
  refine cancel n0 ?_
  have e1 : y.2 * (x.1 * z.2) = (x.1 * y.2) * z.2 := by grind
  have e2 : y.2 * (z.1 * x.2) = (z.1 * y.2) * x.2 := by grind
  rw [e1, e2, h, ← g]
  grind
theorem Sim.add {x y x' y' : Po × Po} (h : Sim x x') (g : Sim y y') : Sim (aF x y) (aF x' y') := by
  unfold Sim aF at *
  show (x.1 * y.2 + y.1 * x.2) * (x'.2 * y'.2) = (x'.1 * y'.2 + y'.1 * x'.2) * (x.2 * y.2)
  have e1 : (x.1 * y.2 + y.1 * x.2) * (x'.2 * y'.2) = (x.1 * x'.2) * (y.2 * y'.2) + (y.1 * y'.2) * (x.2 * x'.2) := by grind
  rw [e1, h, g]
  grind
theorem Sim.sub {x y x' y' : Po × Po} (h : Sim x x') (g : Sim y y') : Sim (sF x y) (sF x' y') := by
  unfold Sim sF at *
  show (x.1 * y.2 - y.1 * x.2) * (x'.2 * y'.2) = (x'.1 * y'.2 - y'.1 * x'.2) * (x.2 * y.2)
  have e1 : (x.1 * y.2 - y.1 * x.2) * (x'.2 * y'.2) = (x.1 * x'.2) * (y.2 * y'.2) - (y.1 * y'.2) * (x.2 * x'.2) := by grind
  rw [e1, h, g]
  grind
theorem Sim.mul {x y x' y' : Po × Po} (h : Sim x x') (g : Sim y y') : Sim (mF x y) (mF x' y') := by
  unfold Sim mF at *
  show (x.1 * y.1) * (x'.2 * y'.2) = (x'.1 * y'.1) * (x.2 * y.2)
  have e1 : (x.1 * y.1) * (x'.2 * y'.2) = (x.1 * x'.2) * (y.1 * y'.2) := by grind
  rw [e1, h, g]
  grind
theorem Sim.div {x y x' y' : Po × Po} (h : Sim x x') (g : Sim y y') : Sim (vF x y) (vF x' y') := by
  unfold Sim vF at *
  show (x.1 * y.2) * (x'.2 * y'.1) = (x'.1 * y'.2) * (x.2 * y.1)
  have e1 : (x.1 * y.2) * (x'.2 * y'.1) = (x.1 * x'.2) * (y'.1 * y.2) := by grind
  rw [e1, h, ← g]
  grind
theorem Sim.der {x x' : Po × Po} (h : Sim x x') : Sim (dF x) (dF x') := by
  unfold Sim dF at *
  show (Po.der x.1 * x.2 - x.1 * Po.der x.2) * (x'.2 * x'.2) = (Po.der x'.1 * x'.2 - x'.1 * Po.der x'.2) * (x.2 * x.2)
  have d := congrArg Po.der h
  rw [der_mul, der_mul] at d
  generalize Po.der x.1 = a at *
  generalize Po.der x.2 = b at *
  generalize Po.der x'.1 = c at *
  generalize Po.der x'.2 = e at *
  generalize x.1 = p at *
  generalize x.2 = q at *
  generalize x'.1 = r at *
  generalize x'.2 = s at *
  have e1 : (a * q - p * b) * (s * s) = (a * s) * (q * s) - (p * s) * (b * s) := by grind
  have e2 : a * s = c * q + r * b - p * e := by grind
  have e3 : ((c * q + r * b - p * e) * (q * s) - (r * q) * (b * s)) = c * q * q * s - (p * s) * (e * q) := by grind
  rw [e1, e2, h, e3, h]
  grind
theorem Sim.of {x y z w : Po × Po} (h : Sim x y) (g : Sim z w) (e : Sim y w) (y0 : y.2 ≠ 0) (w0 : w.2 ≠ 0) : Sim x z := (h.trans e y0).trans g.symm w0
theorem Qf.uniq2 {x y : Po × Po} (h : Qf x.1 x.2) (g : Qf y.1 y.2) (e : Sim x y) : x = y := by
  have := h.uniq g e
  exact Prod.ext this.1 this.2
/-- the value -/
def Vl (r : Rat) (x : Po × Po) : Rat := ev r x.1 / ev r x.2
theorem Qf.ev0 {z y : Po × Po} {r : Rat} (h : Qf z.1 z.2) (e : Sim z y) (y0 : ev r y.2 ≠ 0) : ev r z.2 ≠ 0 := by
  obtain ⟨l, m, c, c0, q⟩ := h.bz
  intro w
  have e1 : C c * y.2 = z.2 * (l * y.1 + m * y.2) := by
    rw [← q]
    have : (l * z.1 + m * z.2) * y.2 = l * (z.1 * y.2) + m * z.2 * y.2 := by grind
    rw [this, show z.1 * y.2 = y.1 * z.2 from e]
    grind
  have e2 := congrArg (ev r) e1
  rw [ev_mul', ev_mul', w, ev_C, Rat.zero_mul] at e2
  rcases Rat.mul_eq_zero.mp e2 with k | k
  · exact c0 (Rat.intCast_inj.mp k)
  · exact y0 k
theorem Sim.val {x y : Po × Po} {r : Rat} (e : Sim x y) (x0 : ev r x.2 ≠ 0) (y0 : ev r y.2 ≠ 0) : Vl r x = Vl r y := by
  have e1 : ev r x.1 * ev r y.2 = ev r y.1 * ev r x.2 := by rw [← ev_mul', ← ev_mul', show x.1 * y.2 = y.1 * x.2 from e]
  unfold Vl
  grind
theorem val_a {x y : Po × Po} {r : Rat} (x0 : ev r x.2 ≠ 0) (y0 : ev r y.2 ≠ 0) : Vl r (aF x y) = Vl r x + Vl r y := by
  unfold Vl aF
  show ev r (x.1 * y.2 + y.1 * x.2) / ev r (x.2 * y.2) = _
  rw [ev_add', ev_mul', ev_mul', ev_mul']
  grind
theorem val_s {x y : Po × Po} {r : Rat} (x0 : ev r x.2 ≠ 0) (y0 : ev r y.2 ≠ 0) : Vl r (sF x y) = Vl r x - Vl r y := by
  unfold Vl sF
  show ev r (x.1 * y.2 - y.1 * x.2) / ev r (x.2 * y.2) = _
  rw [ev_sub', ev_mul', ev_mul', ev_mul']
  grind
theorem val_m {x y : Po × Po} {r : Rat} (x0 : ev r x.2 ≠ 0) (y0 : ev r y.2 ≠ 0) : Vl r (mF x y) = Vl r x * Vl r y := by
  unfold Vl mF
  show ev r (x.1 * y.1) / ev r (x.2 * y.2) = _
  rw [ev_mul', ev_mul']
  grind
theorem val_v {x y : Po × Po} {r : Rat} (x0 : ev r x.2 ≠ 0) (y0 : ev r y.2 ≠ 0) (y1 : ev r y.1 ≠ 0) : Vl r (vF x y) = Vl r x / Vl r y := by
  unfold Vl vF
  show ev r (x.1 * y.2) / ev r (x.2 * y.1) = _
  rw [ev_mul', ev_mul']
  grind
theorem ev_m0 {p q : Po} {r : Rat} (h : ev r p ≠ 0) (g : ev r q ≠ 0) : ev r (p * q) ≠ 0 := by
  rw [ev_mul']
  intro z
  rcases Rat.mul_eq_zero.mp z with k | k
  · exact h k
  · exact g k
/-- a whole number greater than all weights is no root -/
theorem far_ne {x : Int} : ∀ {a : List Int}, (∀ w ∈ a, (w.natAbs : Int) < x) → hT x 1 a = 0 → ∀ w ∈ a, w = 0
  | [], _, _, w, h => by cases h
  | u :: r, hb, he, w, h => by
    have e : hT x 1 (u :: r) = hT x 1 r * x + u * 1 ^ r.length := rfl
    rw [e, Int.one_pow, Int.mul_one] at he
    have ub := hb u (List.mem_cons_self ..)
    have d : x ∣ u := ⟨-hT x 1 r, by rw [Int.mul_neg, Int.mul_comm]; omega⟩
    have u0 : u = 0 := Int.eq_zero_of_dvd_of_natAbs_lt_natAbs d (by omega)
    rw [u0, Int.add_zero] at he
    have x0 : x ≠ 0 := by omega
    have r0 : hT x 1 r = 0 := by
      rcases Int.mul_eq_zero.mp he with z | z
      · exact z
      · exact absurd z x0
    rcases List.mem_cons.mp h with rfl | h
    · exact u0
    · exact far_ne (fun w hw => hb w (List.mem_cons_of_mem _ hw)) r0 w h
theorem ev_far {n b : Nat} {p : Po} {x : Int} (hp : B n b p) (p0 : p ≠ 0) (hx : (2 : Int) ^ b ≤ x) : ev (x : Rat) p ≠ 0 := by
  intro z
  have e : ev (x : Rat) p = ((hT x 1 p.l : Int) : Rat) := (hT_ev1 x p.l).symm
  rw [e] at z
  have z : hT x 1 p.l = 0 := Rat.intCast_inj.mp z
  obtain ⟨w, h1, h2⟩ := nz_of p0
  refine h2 (far_ne (fun w hw => ?_) z w h1)
  have := hp.bl.2 w hw
  unfold Bt at this
  have : ((w.natAbs : Nat) : Int) < ((2 ^ b : Nat) : Int) := by exact_mod_cast this
  rw [Int.natCast_pow] at this
  exact Int.lt_of_lt_of_le this hx
/-- the data of a pair -/
def qd (x : Po × Po) : D := .tuple [tz x.1.l, tz x.2.l]
end Po
end Rc
namespace Rc.Po
open PySem
theorem gro_le {N : Nat} (h : N ≤ 200) : gro N ≤ 5000 := by
  unfold gro
  have h1 : (2 * N + 1).log2 ≤ 8 := by
    have : (2 * N + 1).log2 < 9 := (Nat.log2_lt (by omega)).mpr (by omega)
    omega
  have h2 : (2 * ((2 * N + 1).log2 + 1) + 3) * N ≤ (2 * 9 + 3) * 200 := Nat.mul_le_mul (by omega) h
  omega
theorem pell_lin2 (N : Nat) : N + 1 ≤ pell N := by
  cases N with
  | zero => decide
  | succ n => exact pell_lin n
end Rc.Po
theorem Rc.Po.mulC (a b : Rc.Po) : a * b = b * a := by grind
namespace Rc.Po
open PySem
theorem add_l (p q : Po) : trim (addL p.l q.l) = (p + q).l := rfl
theorem sub_l (p q : Po) : trim (addL p.l (trim (sclL q.l (-1)))) = (p - q).l := rfl
theorem mul_l (p q : Po) : trim (mulL p.l q.l) = (p * q).l := rfl
theorem der_l (p : Po) : trim (dL p.l) = (der p).l := rfl
end Rc.Po
namespace Rc.Po
open PySem
theorem BB.mono {n b m c : Nat} {x : Po × Po} (h : BB n b x) (h1 : n ≤ m) (h2 : b ≤ c) : BB m c x := ⟨h.t.mono h1 h2, h.b.mono h1 h2, h.n0⟩
theorem sA {u a b a' b' : Po × Po} (s : Sim u (aF a b)) (ha : Sim a a') (hb : Sim b b') (a0 : a.2 ≠ 0) (b0 : b.2 ≠ 0) : Sim u (aF a' b') := s.trans (ha.add hb) (mul_ne a0 b0)
theorem sS {u a b a' b' : Po × Po} (s : Sim u (sF a b)) (ha : Sim a a') (hb : Sim b b') (a0 : a.2 ≠ 0) (b0 : b.2 ≠ 0) : Sim u (sF a' b') := s.trans (ha.sub hb) (mul_ne a0 b0)
theorem sM {u a b a' b' : Po × Po} (s : Sim u (mF a b)) (ha : Sim a a') (hb : Sim b b') (a0 : a.2 ≠ 0) (b0 : b.2 ≠ 0) : Sim u (mF a' b') := s.trans (ha.mul hb) (mul_ne a0 b0)
theorem sV {u a b a' b' : Po × Po} (s : Sim u (vF a b)) (ha : Sim a a') (hb : Sim b b') (a0 : a.2 ≠ 0) (b0 : b.1 ≠ 0) : Sim u (vF a' b') := s.trans (ha.div hb) (mul_ne a0 b0)
theorem sD {u a a' : Po × Po} (s : Sim u (dF a)) (ha : Sim a a') (a0 : a.2 ≠ 0) : Sim u (dF a') := s.trans ha.der (mul_ne a0 a0)
theorem sz_Vl {n p s : Nat} {r : Rat} {x : Po × Po} (h : BB n p x) (hr : Sz s r) (h0 : ev r x.2 ≠ 0) : Sz (2 * (p + 2 + (s + 1) * n) + 1) (Vl r x) := sz_div (sz_ev h.t.bl hr) (sz_ev h.b.bl hr) h0
end Rc.Po
namespace Rc.Po
open PySem
theorem one_l : (1 : Po).l = [1] := rfl
theorem zero_l : (0 : Po).l = [] := rfl
end Rc.Po
namespace Rc.Po
open PySem
theorem shapedQ (ls : List (Po × Po)) : SeqAt.shaped (.list (ls.map fun q => PyData.tuple [tz q.1.l, tz q.2.l])) = true := shaped_of (shLst (n := 2) fun x h => by
  obtain ⟨a, _, rfl⟩ := List.mem_map.mp h
  refine shTup (n := 1) fun x h => ?_
  simp only [List.mem_cons, List.not_mem_nil, or_false] at h
  rcases h with rfl | rfl
  · exact shTup (shInts a.1.l)
  · exact shTup (shInts a.2.l)) (by decide)
end Rc.Po

/-! Free polynomials, numbers told as a root. -/
namespace Rc
open PySem
namespace Po
def Free (p : Po) : Prop := p ≠ 0 ∧ ∃ d, Gc p (der p) d ∧ d.len < 2
/-- seen between two fractions -/
def btw (p : Po) (lo hi : Rat) : List Int := trim (betL (lo.num * lcB lo.den hi.den / lo.den) (hi.num * lcB lo.den hi.den / hi.den) (lcB lo.den hi.den) p.l)
def NumV (p : Po) (lo hi : Rat) : Prop := (lo = hi ∧ p.l = [-lo.num, (lo.den : Int)]) ∨ (lo < hi ∧ 2 ≤ p.len ∧ pl p = p ∧ Free p ∧ ev lo p ≠ 0 ∧ ev hi p ≠ 0 ∧ cg 0 (btw p lo hi) = 1)
end Po
theorem fracV_fr (q : Rat) : fracV (fr q) = true := by
  show (decide (0 < (q.den : Int)) && decide (Int.gcd q.num q.den = 1)) = true
  rw [decide_eq_true (denP q), decide_eq_true (fr_gcd q)]
  rfl
theorem eqv3 (a b c a' b' c' : D) : PyData.eqv (.tuple [a, b, c]) (.tuple [a', b', c']) = (PyData.eqv a a' && (PyData.eqv b b' && PyData.eqv c c')) := by
  show (PyData.eqv a a' && (PyData.eqv b b' && (PyData.eqv c c' && PyData.eqvAll [] []))) = _
  rw [show PyData.eqvAll [] [] = true from rfl, Bool.and_true]
theorem sh_fr (q : Rat) : Sh 1 (fr q) := shTup (n := 0) fun x h => by
  simp only [List.mem_cons, List.not_mem_nil, or_false] at h
  rcases h with rfl | rfl <;> exact shInt _
theorem shapedN (a : List Int) (p q : Rat) : SeqAt.shaped (.tuple [tz a, fr p, fr q]) = true := shaped_of (shTup (n := 1) fun x h => by
  simp only [List.mem_cons, List.not_mem_nil, or_false] at h
  rcases h with rfl | rfl | rfl
  · exact shTup (shInts a)
  · exact sh_fr p
  · exact sh_fr q) (by decide)
theorem eqv_nn {a b : List Int} {p q r t : Rat} : PyData.eqv (.tuple [tz a, fr p, fr q]) (.tuple [tz b, fr r, fr t]) = (decide (a = b) && (decide (p = r) && decide (q = t))) := by
  rw [eqv3, show PyData.eqv (tz a) (tz b) = decide (a = b) from eqvT a b, fr_eq, fr_eq]
theorem cmp_nn {a b : List Int} {p q r t : Rat} {Q : Bool → Prop} : cmpW .Eq (.tuple [tz a, fr p, fr q]) (.tuple [tz b, fr r, fr t]) Q = Q (decide (a = b) && (decide (p = r) && decide (q = t))) := by
  show (SeqAt.shaped (.tuple [tz a, fr p, fr q]) = true ∧ SeqAt.shaped (.tuple [tz b, fr r, fr t]) = true ∧ Q (PyData.eqv (.tuple [tz a, fr p, fr q]) (.tuple [tz b, fr r, fr t]))) = _
  rw [eqv_nn]
  exact propext ⟨fun h => h.2.2, fun h => ⟨shapedN a p q, shapedN b r t, h⟩⟩
theorem hT_ev0 (q : Rat) (a : List Int) : hT q.num q.den a = 0 ↔ ev q a = 0 := by
  have h := hT_ev q a
  have hd : (q.den : Rat) ≠ 0 := by
    intro z
    have : ((q.den : Nat) : Rat) = ((0 : Nat) : Rat) := z
    have := Rat.natCast_inj.mp this
    exact q.den_nz this
  have hp : (q.den : Rat) ^ a.length ≠ 0 := rpow_ne hd _
  constructor
  · intro z
    rw [z] at h
    have h2 : ev q a * (q.den : Rat) ^ a.length = 0 := by rw [← h]; simp
    rcases Rat.mul_eq_zero.mp h2 with k | k
    · exact k
    · exact absurd k hp
  · intro z
    rw [z, Rat.zero_mul] at h
    rcases Rat.mul_eq_zero.mp h with k | k
    · exact Rat.intCast_inj.mp k
    · exact absurd k hd
theorem sgn0 {x : Int} : x.sign = 0 ↔ x = 0 := Int.sign_eq_zero_iff_zero
theorem Po.l_inj {p q : Po} (h : p.l = q.l) : p = q := by
  cases p
  cases q
  cases h
  rfl
theorem lcB_q {u v d : Int} {s : Nat} (v0 : 0 < v) (d0 : 0 < d) (hu : Bt s u) (hv : Bt s v) (hd : Bt s d) : Bt (3 * s) (u * lcB v d / v) ∧ Bt (3 * s) (u * lcB v d / d) := by
  obtain ⟨_, _, dv, dd, BB⟩ := lcB_ok v0 d0 hv hd
  generalize lcB v d = B at *
  have vne : v ≠ 0 := by omega
  have dne : d ≠ 0 := by omega
  constructor
  · obtain ⟨x, rfl⟩ := dv
    rw [show u * (v * x) / v = u * x by rw [show u * (v * x) = v * (u * x) by grind, Int.mul_ediv_cancel_left _ vne]]
    exact (Bt.mul hu (bt_quot BB rfl vne)).mono (by omega)
  · obtain ⟨x, rfl⟩ := dd
    rw [show u * (d * x) / d = u * x by rw [show u * (d * x) = d * (u * x) by grind, Int.mul_ediv_cancel_left _ dne]]
    exact (Bt.mul hu (bt_quot BB rfl dne)).mono (by omega)
theorem btw_bt {n b s : Nat} {p : Po} {lo hi : Rat} (hp : Po.B n b p) (h1 : Sz s lo) (h2 : Sz s hi) (hn : n ≤ 100) : Bl n (b + 2 + n * (3 * s) + n * n * (3 * s + 1) + n * (3 * s + 1) + n * n * 2) (Po.btw p lo hi) := by
  have q1 := lcB_q (denP lo) (denP hi) h1.1 h1.2 h2.2
  have q2 := lcB_q (denP lo) (denP hi) h2.1 h1.2 h2.2
  obtain ⟨_, _, _, _, BB⟩ := lcB_ok (denP lo) (denP hi) h1.2 h2.2
  exact bl_trim (bl_bet hp.bl q1.1 q2.2 (BB.mono (by omega)) hn)
namespace Po
def Rw (a b f : Po) : Prop := ∃ l r c, c ≠ 0 ∧ l * a + r * b = C c * f
theorem Rw.step {a b f g h R u : Po} {s t : Int} (hf : Rw a b f) (hg : Rw a b g) (ht : t ≠ 0) (e : C s * f = u * g + h) (eh : h = C t * R) : Rw a b R := by
  obtain ⟨l1, r1, c1, n1, e1⟩ := hf
  obtain ⟨l2, r2, c2, n2, e2⟩ := hg
  refine ⟨C c2 * C s * l1 - C c1 * u * l2, C c2 * C s * r1 - C c1 * u * r2, c1 * c2 * t, Int.mul_ne_zero (Int.mul_ne_zero n1 n2) ht, ?_⟩
  have h1 : (C c2 * C s * l1 - C c1 * u * l2) * a + (C c2 * C s * r1 - C c1 * u * r2) * b = C c2 * C s * (l1 * a + r1 * b) - C c1 * u * (l2 * a + r2 * b) := by grind
  rw [h1, e1, e2, C_mul, C_mul]
  have h2 : C c2 * C s * (C c1 * f) = C c1 * C c2 * (C s * f) := by grind
  rw [h2, e, eh]
  grind
theorem Com.gcw {a b f : Po} (c : Com a b f 0) (hr : Rw a b f) (f0 : f ≠ 0) : Gc a b (Po.pl f) := by
  obtain ⟨h1, h2⟩ := c (Po.pl f) (pl_cont f0) (dv_pl f) (Dv.zero _)
  obtain ⟨l, r, k, k0, e⟩ := hr
  refine ⟨pl_pl f, h1, h2, l, r, k * f.sc, Int.mul_ne_zero k0 (sc_ne f0), ?_⟩
  rw [e, C_mul]
  have := pl_eq f
  have h3 : C k * C f.sc * Po.pl f = C k * (C f.sc * Po.pl f) := by grind
  rw [h3, ← this]
theorem der_ll {p : Po} (h : 2 ≤ p.len) : dL p.l = (der p).l := by
  have hp : p.l.length = p.len := rfl
  have l : (dL p.l).length = p.len - 1 := by
    unfold dL
    rw [List.length_map, List.length_range]
    rfl
  have ne : dL p.l ≠ [] := fun z => by
    rw [z] at l
    simp at l
    omega
  have last : (dL p.l).getLast ne ≠ 0 := by
    rw [List.getLast_eq_getElem, ← Rc.cf_lt, cf_dL]
    show Df (cf p) _ ≠ 0
    unfold Df
    rw [l]
    have h2 : cf p (p.len - 1 - 1 + 1) ≠ 0 := by
      rw [show p.len - 1 - 1 + 1 = p.len - 1 by omega]
      exact lc_ne (ne0.mpr (by omega))
    exact Int.mul_ne_zero (by omega) h2
  have := trim_snoc (xs := (dL p.l).dropLast) last
  rw [List.dropLast_concat_getLast] at this
  rw [← der_l, this]
end Po
theorem bi_list_fr {q : Rat} {Q : Val → Prop} : biW .list [fr q] Q = Q (.own [.int q.num, .int q.den]) := rfl
theorem ix_any {Q : D → Prop} {q : Tok Q} {xs : List D} {c : Int} (n : Int) (hn : (xs.length : Int) = n) (n0 : 0 < n) (h : ∀ d ∈ xs, Q d) : ixF Q q (.list xs) (.int (c.fmod n)) := by
  have e1 := Int.emod_nonneg c (show n ≠ 0 by omega)
  have e2 := Int.emod_lt_of_pos c n0
  rw [← fmod_pos n0] at e1 e2
  obtain ⟨i, hi⟩ : ∃ i : Nat, c.fmod n = (i : Int) := ⟨(c.fmod n).toNat, by omega⟩
  have hlt : i < xs.length := by omega
  rw [hi]
  exact ix_lst (v := xs[i]) (atI_nat (by simp [hlt])) (h _ (List.getElem_mem _))
def OddN (d : D) : Prop := (∀ x y z, d = .tuple [x, y, z] → isPolyV x = false ∨ fracV y = false ∨ fracV z = false) ∧ (∀ x y z, d = .tuple [x, y, z] → ∀ ys, x = .tuple ys → ys.length ≤ 16777216)
theorem isPolyV_0 (a : List Int) : isPolyV (.tuple (a.map .int ++ [.int 0])) = false := by
  rw [show List.map PyData.int a ++ [PyData.int 0] = (a ++ [0]).map .int by rw [List.map_append]; rfl, isPolyV_s (asInts_map _)]
  simp
theorem fracV_2 (q : Rat) : fracV (.tuple [.int (2 * q.num), .int (2 * q.den)]) = false := by
  show (decide (0 < 2 * (q.den : Int)) && decide (Int.gcd (2 * q.num) (2 * q.den) = 1)) = false
  have : Int.gcd (2 * q.num) (2 * q.den) = 2 * Int.gcd q.num q.den := Int.gcd_mul_left ..
  rw [this]
  have h2 : ¬ (2 * Int.gcd q.num q.den = 1) := by omega
  rw [decide_eq_false h2, Bool.and_false]
theorem OddN.mk3 {x y z : D} (h : isPolyV x = false ∨ fracV y = false ∨ fracV z = false) (hs : ∀ ys, x = .tuple ys → ys.length ≤ 16777216) : OddN (.tuple [x, y, z]) := ⟨fun _ _ _ e => by cases e; exact h, fun _ _ _ e => by cases e; exact hs⟩
theorem OddN.no {d : D} (h : ∀ x y z, d ≠ .tuple [x, y, z]) : OddN d := ⟨fun x y z e => absurd e (h x y z), fun x y z e => absurd e (h x y z)⟩
end Rc

/-! Changes of sign tell roots: none and one. -/
namespace Rc
open PySem
theorem mul_lt0 {a b : Int} : a * b < 0 ↔ (a < 0 ∧ 0 < b) ∨ (0 < a ∧ b < 0) := by
  constructor
  · intro h
    rcases Int.lt_trichotomy a 0 with ha | ha | ha
    · rcases Int.lt_trichotomy b 0 with hb | hb | hb
      · have := Int.mul_pos_of_neg_of_neg ha hb
        omega
      · subst hb
        simp at h
      · exact .inl ⟨ha, hb⟩
    · subst ha
      simp at h
    · rcases Int.lt_trichotomy b 0 with hb | hb | hb
      · exact .inr ⟨ha, hb⟩
      · subst hb
        simp at h
      · have := Int.mul_pos ha hb
        omega
  · rintro (⟨h1, h2⟩ | ⟨h1, h2⟩)
    · exact Int.mul_neg_of_neg_of_pos h1 h2
    · exact Int.mul_neg_of_pos_of_neg h1 h2
def NN (a : List Int) : Prop := ∀ w ∈ a, 0 ≤ w
theorem NN.cons {w : Int} {r : List Int} (h : 0 ≤ w) (g : NN r) : NN (w :: r) := fun x hx => by
  rcases List.mem_cons.mp hx with rfl | hx
  · exact h
  · exact g x hx
theorem NN.tl {w : Int} {r : List Int} (g : NN (w :: r)) : NN r := fun x hx => g x (List.mem_cons_of_mem _ hx)
def ngL (a : List Int) : List Int := a.map (- ·)
theorem ngng (a : List Int) : ngL (ngL a) = a := by
  unfold ngL
  rw [List.map_map]
  conv => rhs; rw [← List.map_id a]
  exact List.map_congr_left fun x _ => by show - -x = x; omega
theorem ng_app (a b : List Int) : ngL (a ++ b) = ngL a ++ ngL b := List.map_append ..
theorem nz_ng {a : List Int} : Nz (ngL a) ↔ Nz a := by
  constructor
  · rintro ⟨w, hw, h⟩
    obtain ⟨x, hx, rfl⟩ := List.mem_map.mp hw
    exact ⟨x, hx, by omega⟩
  · rintro ⟨w, hw, h⟩
    exact ⟨-w, List.mem_map.mpr ⟨w, hw, rfl⟩, by omega⟩
theorem cg_ng (a : List Int) (l : Int) : cg (-l) (ngL a) = cg l a := by
  have := cg_scl (c := -1) (by decide) a l
  have e : ngL a = a.map (· * -1) := List.map_congr_left fun x _ => by omega
  rw [e, show -l = l * -1 by omega]
  exact this
theorem cg_ng0 (a : List Int) : cg 0 (ngL a) = cg 0 a := by
  have := cg_ng a 0
  simpa using this
/-- no change behind a weight above nought -/
theorem cgp0 : ∀ (a : List Int) (l : Int), 0 < l → cg l a = 0 → NN a
  | [], _, _, _ => fun w hw => by cases hw
  | w :: r, l, hl, h => by
    have h' : (if w * l < 0 then 1 else 0) + cg (if w = 0 then l else w) r = 0 := h
    have h1 : ¬ w * l < 0 := fun z => by rw [if_pos z] at h'; omega
    have h2 : cg (if w = 0 then l else w) r = 0 := by omega
    have hw : 0 ≤ w := by
      refine Int.not_lt.mp fun z => h1 (mul_lt0.mpr (.inl ⟨z, hl⟩))
    refine NN.cons hw ?_
    by_cases e : w = 0
    · rw [if_pos e] at h2
      exact cgp0 r l hl h2
    · rw [if_neg e] at h2
      exact cgp0 r w (by omega) h2
theorem cg0 : ∀ a : List Int, cg 0 a = 0 → NN a ∨ NN (ngL a)
  | [], _ => .inl fun w hw => by cases hw
  | w :: r, h => by
    have h' : (if w * 0 < 0 then 1 else 0) + cg (if w = 0 then 0 else w) r = 0 := h
    have h2 : cg (if w = 0 then 0 else w) r = 0 := by omega
    rcases Int.lt_trichotomy w 0 with e | e | e
    · rw [if_neg (by omega)] at h2
      rw [← cg_ng] at h2
      exact .inr (NN.cons (show 0 ≤ -w by omega) (cgp0 _ _ (by omega) h2))
    · subst e
      rw [if_pos rfl] at h2
      rcases cg0 r h2 with g | g
      · exact .inl (NN.cons (by decide) g)
      · exact .inr (NN.cons (by decide) g)
    · rw [if_neg (by omega)] at h2
      exact .inl (NN.cons (by omega) (cgp0 _ _ e h2))
theorem cgp1 : ∀ (a : List Int) (l : Int), 0 < l → cg l a = 1 → ∃ b c, a = b ++ c ∧ NN b ∧ NN (ngL c) ∧ Nz c
  | [], _, _, h => by cases h
  | w :: r, l, hl, h => by
    have h' : (if w * l < 0 then 1 else 0) + cg (if w = 0 then l else w) r = 1 := h
    by_cases h1 : w * l < 0
    · rw [if_pos h1] at h'
      have hw : w < 0 := by
        rcases mul_lt0.mp h1 with z | z <;> omega
      have h2 : cg (if w = 0 then l else w) r = 0 := by omega
      rw [if_neg (by omega), ← cg_ng] at h2
      exact ⟨[], w :: r, rfl, fun x hx => (by cases hx), NN.cons (show 0 ≤ -w by omega) (cgp0 _ _ (by omega) h2), w, List.mem_cons_self .., by omega⟩
    · rw [if_neg h1] at h'
      have hw : 0 ≤ w := Int.not_lt.mp fun z => h1 (mul_lt0.mpr (.inl ⟨z, hl⟩))
      have : ∃ l', 0 < l' ∧ cg l' r = 1 := by
        by_cases e : w = 0
        · rw [if_pos e] at h'
          exact ⟨l, hl, by omega⟩
        · rw [if_neg e] at h'
          exact ⟨w, by omega, by omega⟩
      obtain ⟨l', hl', g⟩ := this
      obtain ⟨b, c, rfl, g1, g2, g3⟩ := cgp1 r l' hl' g
      exact ⟨w :: b, c, rfl, NN.cons hw g1, g2, g3⟩
/-- one change: first of one sign, then of the other -/
theorem cg1 : ∀ a : List Int, cg 0 a = 1 → ∃ b c, (a = b ++ c ∨ ngL a = b ++ c) ∧ NN b ∧ Nz b ∧ NN (ngL c) ∧ Nz c
  | [], h => by cases h
  | w :: r, h => by
    have h' : (if w * 0 < 0 then 1 else 0) + cg (if w = 0 then 0 else w) r = 1 := h
    rw [if_neg (by simp)] at h'
    rcases Int.lt_trichotomy w 0 with e | e | e
    · rw [if_neg (by omega), ← cg_ng] at h'
      obtain ⟨b, c, e1, g1, g2, g3⟩ := cgp1 (ngL r) (-w) (by omega) (by omega)
      refine ⟨-w :: b, c, .inr ?_, NN.cons (by omega) g1, ⟨-w, List.mem_cons_self .., by omega⟩, g2, g3⟩
      show -w :: ngL r = _
      rw [e1]
      rfl
    · subst e
      rw [if_pos rfl] at h'
      obtain ⟨b, c, e1, g1, ⟨x, hx, hx0⟩, g3⟩ := cg1 r (by omega)
      refine ⟨0 :: b, c, ?_, NN.cons (by decide) g1, ⟨x, List.mem_cons_of_mem _ hx, hx0⟩, g3⟩
      rcases e1 with e1 | e1
      · left; rw [e1]; rfl
      · right
        show 0 :: ngL r = _
        rw [e1]
        rfl
    · rw [if_neg (by omega)] at h'
      obtain ⟨b, c, rfl, g1, g2, g3⟩ := cgp1 _ _ e (show cg w r = 1 by omega)
      exact ⟨w :: b, c, .inl rfl, NN.cons (by omega) g1, ⟨w, List.mem_cons_self .., by omega⟩, g2, g3⟩
/-! ### values of weights of one sign -/
theorem icast_le {a b : Int} : (a : Rat) ≤ b ↔ a ≤ b := Rat.intCast_le_intCast
theorem icast_lt {a b : Int} : (a : Rat) < b ↔ a < b := Rat.intCast_lt_intCast
theorem rmul_nn {a b : Rat} (h : 0 ≤ a) (g : 0 ≤ b) : 0 ≤ a * b := Rat.mul_nonneg h g
theorem rmul_pos {a b : Rat} (h : 0 < a) (g : 0 < b) : 0 < a * b := Rat.mul_pos h g
theorem ev_nn {t : Rat} (t0 : 0 ≤ t) : ∀ {a : List Int}, NN a → 0 ≤ ev t a
  | [], _ => Rat.le_refl
  | w :: r, h => by
    have h1 : (0 : Rat) ≤ (w : Rat) := icast_le.mpr (h w (List.mem_cons_self ..))
    have := rmul_nn t0 (ev_nn t0 h.tl)
    show 0 ≤ (w : Rat) + t * ev t r
    grind
theorem ev_pos {t : Rat} (t0 : 0 < t) : ∀ {a : List Int}, NN a → Nz a → 0 < ev t a
  | [], _, ⟨w, hw, _⟩ => by cases hw
  | w :: r, h, hz => by
    have h1 : (0 : Rat) ≤ (w : Rat) := icast_le.mpr (h w (List.mem_cons_self ..))
    show 0 < (w : Rat) + t * ev t r
    by_cases hr : Nz r
    · have := rmul_pos t0 (ev_pos t0 h.tl hr)
      grind
    · have h2 : w ≠ 0 := by
        obtain ⟨x, hx, hx0⟩ := hz
        rcases List.mem_cons.mp hx with rfl | hx
        · exact hx0
        · exact absurd ⟨x, hx, hx0⟩ hr
      have h3 : (0 : Rat) < (w : Rat) := icast_lt.mpr (show (0 : Int) < w by have := h w (List.mem_cons_self ..); omega)
      have := rmul_nn (Rat.le_of_lt t0) (ev_nn (Rat.le_of_lt t0) h.tl)
      grind
theorem rmul_le {a b c : Rat} (h : 0 ≤ a) (g : b ≤ c) : a * b ≤ a * c := by
  have := rmul_nn h (show 0 ≤ c - b by grind)
  grind
theorem ev_mono {t u : Rat} (t0 : 0 ≤ t) (h : t ≤ u) : ∀ {a : List Int}, NN a → ev t a ≤ ev u a
  | [], _ => Rat.le_refl
  | w :: r, g => by
    have h1 := ev_mono t0 h g.tl
    have h2 := ev_nn t0 g.tl
    have h3 : t * ev t r ≤ u * ev t r := by
      have := rmul_nn (show 0 ≤ u - t by grind) h2
      grind
    have h4 := rmul_le (a := u) (by grind) h1
    show (w : Rat) + t * ev t r ≤ (w : Rat) + u * ev u r
    grind
theorem ev_inc {t u : Rat} (t0 : 0 < t) (h : t < u) {a : List Int} (g : NN a) (z : Nz a) : t * ev t a < u * ev u a := by
  have h1 := ev_mono (Rat.le_of_lt t0) (Rat.le_of_lt h) g
  have h2 := ev_pos t0 g z
  have h3 := rmul_pos (show 0 < u - t by grind) h2
  have h4 := rmul_le (a := u) (by grind) h1
  grind
theorem ev_ng (t : Rat) : ∀ a : List Int, ev t (ngL a) = -ev t a
  | [] => by show (0 : Rat) = -0; grind
  | w :: r => by
    show ((-w : Int) : Rat) + t * ev t (ngL r) = -((w : Rat) + t * ev t r)
    rw [ev_ng t r, Rat.intCast_neg]
    grind
theorem ev_app (t : Rat) : ∀ a b : List Int, ev t (a ++ b) = ev t a + t ^ a.length * ev t b
  | [], b => by
    show ev t b = 0 + t ^ 0 * ev t b
    rw [Rat.pow_zero]
    grind
  | w :: r, b => by
    show (w : Rat) + t * ev t (r ++ b) = ((w : Rat) + t * ev t r) + t ^ (r.length + 1) * ev t b
    rw [ev_app t r b, Rat.pow_succ]
    grind
/-- turned end to end -/
theorem ev_turn {t : Rat} (t0 : t ≠ 0) : ∀ a : List Int, ev t a = t ^ a.length * (t⁻¹ * ev t⁻¹ a.reverse)
  | [] => by
    show (0 : Rat) = t ^ 0 * (t⁻¹ * 0)
    grind
  | w :: r => by
    have ih := ev_turn t0 r
    have e := Rat.mul_inv_cancel t t0
    show (w : Rat) + t * ev t r = t ^ (r.length + 1) * (t⁻¹ * ev t⁻¹ (w :: r).reverse)
    rw [List.reverse_cons, ev_app, List.length_reverse, Rat.pow_succ]
    show _ = t ^ r.length * t * (t⁻¹ * (ev t⁻¹ r.reverse + t⁻¹ ^ r.length * ((w : Rat) + t⁻¹ * 0)))
    have e2 : t ^ r.length * t⁻¹ ^ r.length = 1 := by
      clear ih
      induction r.length with
      | zero => rw [Rat.pow_zero, Rat.pow_zero]; grind
      | succ n ih2 =>
        rw [Rat.pow_succ, Rat.pow_succ]
        generalize t⁻¹ = u at *
        generalize t ^ n = p at *
        generalize u ^ n = q at *
        grind
    rw [ih]
    generalize t⁻¹ = u at *
    generalize t ^ r.length = p at *
    generalize u ^ r.length = q at *
    generalize ev u r.reverse = v at *
    grind
/-! ### seen between: values -/
theorem rpow_pos {y : Rat} (h : 0 < y) : ∀ n : Nat, 0 < y ^ n
  | 0 => by rw [Rat.pow_zero]; decide
  | n + 1 => by
    rw [Rat.pow_succ]
    exact rmul_pos (rpow_pos h n) h
theorem hT_evI {x y : Int} {q : Rat} (e : q * (y : Rat) = x) : ∀ a : List Int, (hT x y a : Rat) * (y : Rat) = ev q a * (y : Rat) ^ a.length
  | [] => by
    show ((0 : Int) : Rat) * _ = 0 * _
    simp
  | w :: r => by
    have ih := hT_evI e r
    show ((hT x y r * x + w * y ^ r.length : Int) : Rat) * (y : Rat) = ((w : Rat) + q * ev q r) * (y : Rat) ^ (r.length + 1)
    rw [Rat.intCast_add, Rat.intCast_mul, Rat.intCast_mul, ← e, Rat.intCast_pow, Rat.pow_succ]
    generalize (hT x y r : Rat) = t at *
    generalize (y : Rat) ^ r.length = z at *
    generalize (y : Rat) = y at *
    grind
/-- the ends in whole numbers of a common part -/
theorem ends_ok (lo hi : Rat) : 0 < lcB lo.den hi.den ∧ ((lo.num * lcB lo.den hi.den / lo.den : Int) : Rat) = lo * ((lcB lo.den hi.den : Int) : Rat) ∧ ((hi.num * lcB lo.den hi.den / hi.den : Int) : Rat) = hi * ((lcB lo.den hi.den : Int) : Rat) := by
  obtain ⟨s, hs⟩ : ∃ s, lo.den < 2 ^ s ∧ hi.den < 2 ^ s := ⟨lo.den + hi.den, Nat.lt_of_lt_of_le Nat.lt_two_pow_self (Nat.pow_le_pow_right (by decide) (by omega)), Nat.lt_of_lt_of_le Nat.lt_two_pow_self (Nat.pow_le_pow_right (by decide) (by omega))⟩
  obtain ⟨g0, B0, d1, d2, _⟩ := lcB_ok (s := s) (denP lo) (denP hi) hs.1 hs.2
  have key : ∀ q : Rat, (q.den : Int) ∣ lcB lo.den hi.den → ((q.num * lcB lo.den hi.den / q.den : Int) : Rat) = q * ((lcB lo.den hi.den : Int) : Rat) := fun q ⟨c, hc⟩ => by
    rw [hc, show q.num * ((q.den : Int) * c) = (q.den : Int) * (q.num * c) by grind, Int.mul_ediv_cancel_left _ (den0 q), Rat.intCast_mul, Rat.intCast_mul, num_eq]
    show q * (q.den : Rat) * (c : Rat) = q * (((q.den : Int) : Rat) * (c : Rat))
    rw [Rat.intCast_natCast]
    grind
  exact ⟨B0, key lo d1, key hi d2⟩
namespace Po
/-- the place within a stretch -/
def plc (lo hi q : Rat) : Rat := (q - lo) / (hi - q)
theorem plc_pos {lo hi q : Rat} (h1 : lo < q) (h2 : q < hi) : 0 < plc lo hi q := by
  unfold plc
  rw [Rat.div_def]
  exact rmul_pos (by grind) (Rat.inv_pos.mpr (by grind))
theorem plc_eq {lo hi q : Rat} (h2 : q < hi) : plc lo hi q * (hi - q) = q - lo := Rat.div_mul_cancel (by grind)
theorem plc_lt {lo hi q r : Rat} (h1 : lo < q) (h2 : q < r) (h3 : r < hi) : plc lo hi q < plc lo hi r := by
  have e1 := plc_eq (lo := lo) (hi := hi) (q := q) (by grind)
  have e2 := plc_eq (lo := lo) (hi := hi) (q := r) h3
  have p1 := plc_pos h1 (show q < hi by grind)
  have p2 := plc_pos (show lo < r by grind) h3
  refine Rat.not_le.mp fun z => ?_
  have a1 := rmul_le (show 0 ≤ hi - r by grind) z
  have a2 := rmul_pos p1 (show 0 < r - q by grind)
  grind
theorem plc_of {lo hi t : Rat} (h : lo < hi) (t0 : 0 < t) : ∃ q, lo < q ∧ q < hi ∧ plc lo hi q = t := by
  have i0 : 0 < (1 + t)⁻¹ := Rat.inv_pos.mpr (by grind)
  have e := Rat.mul_inv_cancel (1 + t) (by grind)
  generalize (1 + t)⁻¹ = u at *
  have a1 := rmul_pos (rmul_pos t0 i0) (show 0 < hi - lo by grind)
  have a2 := rmul_pos i0 (show 0 < hi - lo by grind)
  have b1 : (lo + hi * t) * u = hi - u * (hi - lo) := by grind
  have b2 : (lo + hi * t) * u = lo + t * u * (hi - lo) := by grind
  have hq : (lo + hi * t) * u < hi := by rw [b1]; grind
  refine ⟨(lo + hi * t) * u, by rw [b2]; grind, hq, ?_⟩
  have e2 := plc_eq (lo := lo) hq
  have hn : hi - (lo + hi * t) * u ≠ 0 := by grind
  have e3 : t * (hi - (lo + hi * t) * u) = (lo + hi * t) * u - lo := by grind
  have e4 : (plc lo hi ((lo + hi * t) * u) - t) * (hi - (lo + hi * t) * u) = 0 := by grind
  rcases Rat.mul_eq_zero.mp e4 with z | z
  · grind
  · exact absurd z hn
theorem btw_ev (p : Po) {lo hi q : Rat} (h1 : lo < q) (h2 : q < hi) : ∃ k : Rat, 0 < k ∧ ev q p = k * Rc.ev (plc lo hi q) (btw p lo hi) := by
  obtain ⟨B0, eL, eR⟩ := ends_ok lo hi
  have t0 := plc_pos h1 h2
  have et := plc_eq (lo := lo) h2
  unfold btw
  rw [ev_trim]
  generalize lo.num * lcB lo.den hi.den / lo.den = L at *
  generalize hi.num * lcB lo.den hi.den / hi.den = R at *
  generalize lcB lo.den hi.den = B at *
  generalize plc lo hi q = t at *
  have bp : (0 : Rat) < (B : Rat) := icast_lt.mpr B0
  have x0 : 0 < t.num := num_pos.mpr t0
  have ex : t * (((t.den : Int) : Rat)) = (t.num : Rat) := by rw [num_eq]; rfl
  have y0 : (0 : Rat) < (((t.den : Int)) : Rat) := icast_lt.mpr (denP t)
  have xr : (0 : Rat) < (t.num : Rat) := icast_lt.mpr x0
  have h := hT_evI ex (betL L R B p.l)
  rw [betL_ev, betL_len] at h
  have eq2 : q * ((B * (t.num + t.den) : Int) : Rat) = ((L * t.den + R * t.num : Int) : Rat) := by
    rw [Rat.intCast_mul, Rat.intCast_add, Rat.intCast_add, Rat.intCast_mul, Rat.intCast_mul, eL, eR, ← ex]
    generalize (((t.den : Int)) : Rat) = y at *
    generalize (B : Rat) = b at *
    grind
  have g := hT_evI eq2 p.l
  have Y0 : (0 : Rat) < ((B * (t.num + t.den) : Int) : Rat) := icast_lt.mpr (Int.mul_pos B0 (by have := denP t; omega))
  generalize ((B * (t.num + t.den) : Int) : Rat) = Y at *
  generalize (((t.den : Int)) : Rat) = y at *
  have p1 := rpow_pos y0 p.l.length
  have p2 := rpow_pos Y0 p.l.length
  generalize y ^ p.l.length = yn at *
  generalize Y ^ p.l.length = Yn at *
  have i1 : 0 < y⁻¹ := Rat.inv_pos.mpr y0
  have i2 : 0 < Yn⁻¹ := Rat.inv_pos.mpr p2
  have j1 := Rat.mul_inv_cancel y (by grind)
  have j2 := Rat.mul_inv_cancel Yn (by grind)
  refine ⟨yn * y⁻¹ * (Y * Yn⁻¹), rmul_pos (rmul_pos p1 i1) (rmul_pos Y0 i2), ?_⟩
  show Rc.ev q p.l = _
  generalize Rc.ev q p.l = v at *
  generalize Rc.ev t (betL L R B p.l) = u at *
  generalize (hT (L * ↑t.den + R * t.num) (B * (t.num + ↑t.den)) p.l : Rat) = w at *
  generalize y⁻¹ = yi at *
  generalize Yn⁻¹ = Yi at *
  have : v = w * Y * Yi := by grind
  rw [this]
  have : w = u * yn * yi := by grind
  grind
/-- nothing but noughts is seen of nought alone -/
theorem btw_nz {p : Po} {lo hi : Rat} (h : lo < hi) (p0 : p ≠ 0) : Nz (btw p lo hi) := by
  refine Classical.byContradiction fun z => ?_
  have all : ∀ x y : Int, hT x y (btw p lo hi) = 0 := fun x y => by
    have : ∀ a : List Int, ¬ Nz a → hT x y a = 0 := by
      intro a
      induction a with
      | nil => exact fun _ => rfl
      | cons w r ih =>
        intro g
        have w0 : w = 0 := Classical.byContradiction fun e => g ⟨w, List.mem_cons_self .., e⟩
        show hT x y r * x + w * y ^ r.length = 0
        rw [ih fun ⟨v, hv, h⟩ => g ⟨v, List.mem_cons_of_mem _ hv, h⟩, w0]
        simp
    exact this _ z
  obtain ⟨B0, eL, eR⟩ := ends_ok lo hi
  have z2 : ¬ Nz (betL (lo.num * lcB lo.den hi.den / lo.den) (hi.num * lcB lo.den hi.den / hi.den) (lcB lo.den hi.den) p.l) := fun g => z (by
    obtain ⟨w, hw, h0⟩ := g
    obtain ⟨i, hi2, rfl⟩ := List.mem_iff_getElem.mp hw
    refine Classical.byContradiction fun no => h0 ?_
    have := cf_trim (betL (lo.num * lcB lo.den hi.den / lo.den) (hi.num * lcB lo.den hi.den / hi.den) (lcB lo.den hi.den) p.l) i
    rw [cf_lt hi2] at this
    rw [← this]
    refine Classical.byContradiction fun n0 => no ?_
    by_cases hl : i < (btw p lo hi).length
    · refine ⟨Rc.cf (btw p lo hi) i, ?_, n0⟩
      rw [Rc.cf_lt hl]
      exact List.getElem_mem hl
    · exact absurd (Rc.cf_ge (Nat.le_of_not_lt hl)) n0)
  have all2 : ∀ x y : Int, hT x y (betL (lo.num * lcB lo.den hi.den / lo.den) (hi.num * lcB lo.den hi.den / hi.den) (lcB lo.den hi.den) p.l) = 0 := fun x y => by
    have : ∀ a : List Int, ¬ Nz a → hT x y a = 0 := by
      intro a
      induction a with
      | nil => exact fun _ => rfl
      | cons w r ih =>
        intro g
        have w0 : w = 0 := Classical.byContradiction fun e => g ⟨w, List.mem_cons_self .., e⟩
        show hT x y r * x + w * y ^ r.length = 0
        rw [ih fun ⟨v, hv, h⟩ => g ⟨v, List.mem_cons_of_mem _ hv, h⟩, w0]
        simp
    exact this _ z2
  have lr : lo.num * lcB lo.den hi.den / lo.den < hi.num * lcB lo.den hi.den / hi.den := by
    rw [← icast_lt, eL, eR]
    have := rmul_pos (show 0 < hi - lo by grind) (icast_lt.mpr B0)
    grind
  generalize lo.num * lcB lo.den hi.den / lo.den = L at *
  generalize hi.num * lcB lo.den hi.den / hi.den = R at *
  generalize lcB lo.den hi.den = B at *
  have key : ∀ m : Int, hT m 1 p.l = 0 := fun m => by
    have e1 := all2 (B * m - L) (R - B * m)
    rw [betL_ev, show L * (R - B * m) + R * (B * m - L) = (B * (R - L)) * m by grind, show B * (B * m - L + (R - B * m)) = (B * (R - L)) * 1 by grind] at e1
    have e2 := hT_scale (B * (R - L)) m 1 p.l
    rw [e1, Int.zero_mul] at e2
    have s0 : B * (R - L) ≠ 0 := Int.mul_ne_zero (by omega) (by omega)
    rcases Int.mul_eq_zero.mp e2.symm with g | g
    · exact absurd g (Int.pow_ne_zero s0)
    · exact g
  have f := roots_few p.l.length p.l rfl (nz_of p0) (pts p.l.length) (pts_nd _)
  rw [List.filter_eq_self.mpr (fun x _ => by simpa using key x)] at f
  unfold pts at f
  simp at f
/-- no change: of one sign within, not nought -/
theorem V0 {p : Po} {lo hi : Rat} (h : lo < hi) (p0 : p ≠ 0) (hc : cg 0 (btw p lo hi) = 0) : (∀ q, lo < q → q < hi → 0 < ev q p) ∨ (∀ q, lo < q → q < hi → ev q p < 0) := by
  have nz := btw_nz h p0
  rcases cg0 _ hc with g | g
  · left
    intro q h1 h2
    obtain ⟨k, k0, e⟩ := btw_ev p h1 h2
    rw [e]
    exact rmul_pos k0 (ev_pos (plc_pos h1 h2) g nz)
  · right
    intro q h1 h2
    obtain ⟨k, k0, e⟩ := btw_ev p h1 h2
    have := rmul_pos k0 (ev_pos (plc_pos h1 h2) g (nz_ng.mpr nz))
    rw [ev_ng] at this
    rw [e]
    grind
end Po
/-! ### one change -/
theorem turn_inv {t : Rat} (t0 : 0 < t) : 0 < t⁻¹ := Rat.inv_pos.mpr t0
theorem inv_lt {t u : Rat} (t0 : 0 < t) (h : t < u) : u⁻¹ < t⁻¹ := by
  have u0 : 0 < u := by grind
  have a := turn_inv t0
  have b := turn_inv u0
  have e1 := Rat.mul_inv_cancel t (by grind)
  have e2 := Rat.mul_inv_cancel u (by grind)
  have d := rmul_pos (rmul_pos a b) (show 0 < u - t by grind)
  generalize t⁻¹ = x at *
  generalize u⁻¹ = y at *
  rw [show x * y * (u - t) = x - y by grind] at d
  grind
/-- what the sign is by -/
def gee (b c : List Int) (t : Rat) : Rat := t⁻¹ * ev t⁻¹ b.reverse + ev t c
theorem nn_rev {b : List Int} (h : NN b) : NN b.reverse := fun w hw => h w (List.mem_reverse.mp hw)
theorem nz_rev {b : List Int} (h : Nz b) : Nz b.reverse := let ⟨w, hw, h0⟩ := h; ⟨w, List.mem_reverse.mpr hw, h0⟩
theorem gee_ev {b c : List Int} {t : Rat} (t0 : 0 < t) : ev t (b ++ c) = t ^ b.length * gee b c t := by
  unfold gee
  rw [ev_app, ev_turn (by grind) b]
  generalize t ^ b.length = p
  grind
theorem gee_lt {b c : List Int} {t u : Rat} (t0 : 0 < t) (h : t < u) (hb : NN b) (zb : Nz b) (hc : NN (ngL c)) : gee b c u < gee b c t := by
  unfold gee
  have a := ev_inc (turn_inv (show 0 < u by grind)) (inv_lt t0 h) (nn_rev hb) (nz_rev zb)
  have d := ev_mono (Rat.le_of_lt t0) (Rat.le_of_lt h) hc
  rw [ev_ng, ev_ng] at d
  grind
def asum : List Int → Int
  | [] => 0
  | w :: r => (w.natAbs : Int) + asum r
theorem asum_nn : ∀ a : List Int, 0 ≤ asum a
  | [] => Int.le_refl 0
  | w :: r => by
    have := asum_nn r
    show 0 ≤ (w.natAbs : Int) + asum r
    omega
theorem ev_le {t : Rat} (t0 : 0 ≤ t) (t1 : t ≤ 1) : ∀ (a : List Int), -(asum a : Rat) ≤ ev t a ∧ ev t a ≤ (asum a : Rat)
  | [] => by
    constructor
    · show -((0 : Int) : Rat) ≤ 0
      decide
    · show (0 : Rat) ≤ ((0 : Int) : Rat)
      decide
  | w :: r => by
    obtain ⟨h1, h2⟩ := ev_le t0 t1 r
    have e : (asum (w :: r) : Rat) = (((w.natAbs : Int)) : Rat) + (asum r : Rat) := Rat.intCast_add ..
    have s0 : ((0 : Int) : Rat) ≤ (asum r : Rat) := icast_le.mpr (asum_nn r)
    have w1 : (w : Rat) ≤ ((w.natAbs : Int) : Rat) := icast_le.mpr (by omega)
    have w2 : ((-(w.natAbs : Int) : Int) : Rat) ≤ (w : Rat) := icast_le.mpr (by omega)
    rw [Rat.intCast_neg] at w2
    have z : ((0 : Int) : Rat) = 0 := rfl
    rw [e]
    show _ ≤ (w : Rat) + t * ev t r ∧ (w : Rat) + t * ev t r ≤ _
    generalize ((w.natAbs : Int) : Rat) = W at *
    generalize (asum r : Rat) = S at *
    have a1 : t * ev t r ≤ t * S := rmul_le t0 h2
    have a2 : t * -S ≤ t * ev t r := rmul_le t0 h1
    have a3 : 0 ≤ (1 - t) * S := rmul_nn (by grind) (by grind)
    rw [show (1 - t) * S = S - t * S by grind] at a3
    rw [show t * -S = -(t * S) by grind] at a2
    generalize t * S = m at *
    generalize t * ev t r = n at *
    constructor <;> grind
theorem ev_one_le {t : Rat} (t1 : 1 ≤ t) : ∀ {a : List Int}, NN a → Nz a → 1 ≤ ev t a
  | [], _, ⟨w, hw, _⟩ => by cases hw
  | w :: r, h, hz => by
    have h1 : (0 : Rat) ≤ (w : Rat) := icast_le.mpr (h w (List.mem_cons_self ..))
    show 1 ≤ (w : Rat) + t * ev t r
    by_cases hr : Nz r
    · have := ev_one_le t1 h.tl hr
      have := rmul_nn (show 0 ≤ t - 1 by grind) (show 0 ≤ ev t r by grind)
      grind
    · have h2 : w ≠ 0 := by
        obtain ⟨x, hx, hx0⟩ := hz
        rcases List.mem_cons.mp hx with rfl | hx
        · exact hx0
        · exact absurd ⟨x, hx, hx0⟩ hr
      have h3 : ((1 : Int) : Rat) ≤ (w : Rat) := icast_le.mpr (by have := h w (List.mem_cons_self ..); omega)
      have h4 : ((1 : Int) : Rat) = 1 := rfl
      have := rmul_nn (show 0 ≤ t by grind) (ev_nn (show 0 ≤ t by grind) h.tl)
      grind
theorem inv_le1 {u : Rat} (h : 1 ≤ u) : u⁻¹ ≤ 1 := by
  have a := turn_inv (show 0 < u by grind)
  have e := Rat.mul_inv_cancel u (by grind)
  have d := rmul_nn (show 0 ≤ u - 1 by grind) (Rat.le_of_lt a)
  generalize u⁻¹ = v at *
  rw [show (u - 1) * v = 1 - v by grind] at d
  grind
theorem chg_pos {b c : List Int} (hb : NN b) (zb : Nz b) : ∃ t : Rat, 0 < t ∧ 0 < ev t (b ++ c) := by
  obtain ⟨S, hS⟩ : ∃ S : Rat, S = (asum c : Rat) := ⟨_, rfl⟩
  have s0 : ((0 : Int) : Rat) ≤ S := by rw [hS]; exact icast_le.mpr (asum_nn c)
  have s0 : 0 ≤ S := s0
  have u1 : 1 ≤ 1 + S := by grind
  have t0 := turn_inv (show 0 < 1 + S by grind)
  refine ⟨(1 + S)⁻¹, t0, ?_⟩
  rw [gee_ev t0]
  refine rmul_pos (rpow_pos t0 _) ?_
  unfold gee
  rw [Rat.inv_inv]
  have a := ev_one_le u1 (nn_rev hb) (nz_rev zb)
  have d := (ev_le (Rat.le_of_lt t0) (inv_le1 u1) c).1
  rw [← hS] at d
  have := rmul_nn (show 0 ≤ 1 + S by grind) (show 0 ≤ ev (1 + S) b.reverse - 1 by grind)
  grind
theorem chg_neg {b c : List Int} (hc : NN (ngL c)) (zc : Nz c) : ∃ t : Rat, 0 < t ∧ ev t (b ++ c) < 0 := by
  obtain ⟨S, hS⟩ : ∃ S : Rat, S = (asum b.reverse : Rat) := ⟨_, rfl⟩
  have s0 : ((0 : Int) : Rat) ≤ S := by rw [hS]; exact icast_le.mpr (asum_nn _)
  have s0 : 0 ≤ S := s0
  have u1 : 1 ≤ 1 + S := by grind
  have t0 : 0 < 1 + S := by grind
  have i0 := turn_inv t0
  have i1 := inv_le1 u1
  refine ⟨1 + S, t0, ?_⟩
  rw [gee_ev t0]
  have key : gee b c (1 + S) < 0 := by
    unfold gee
    have a := (ev_le (Rat.le_of_lt i0) i1 b.reverse).2
    rw [← hS] at a
    have d := ev_one_le u1 hc (nz_ng.mpr zc)
    rw [ev_ng] at d
    have e := Rat.mul_inv_cancel (1 + S) (by grind)
    have f := rmul_le (Rat.le_of_lt i0) a
    generalize (1 + S)⁻¹ = v at *
    grind
  have := rmul_pos (rpow_pos t0 b.length) (show 0 < -gee b c (1 + S) by grind)
  grind
namespace Po
/-- one change: the sign goes over once -/
theorem V1 {p : Po} {lo hi : Rat} (h : lo < hi) (hc : cg 0 (btw p lo hi) = 1) : ∃ s : Rat, (s = 1 ∨ s = -1) ∧ (∀ q r, lo < q → q < r → r < hi → s * ev q p ≤ 0 → s * ev r p < 0) ∧
    (∃ q, lo < q ∧ q < hi ∧ 0 < s * ev q p) ∧ (∃ q, lo < q ∧ q < hi ∧ s * ev q p < 0) := by
  have key : ∀ (s : Rat) (b c : List Int), (∀ t, s * Rc.ev t (btw p lo hi) = Rc.ev t (b ++ c)) → NN b → Nz b → NN (ngL c) → Nz c → (∀ q r, lo < q → q < r → r < hi → s * ev q p ≤ 0 → s * ev r p < 0) ∧
      (∃ q, lo < q ∧ q < hi ∧ 0 < s * ev q p) ∧ (∃ q, lo < q ∧ q < hi ∧ s * ev q p < 0) := fun s b c e g1 g2 g3 g4 => by
    refine ⟨fun q r h1 h2 h3 hq => ?_, ?_, ?_⟩
    · obtain ⟨k, k0, ek⟩ := btw_ev p h1 (show q < hi by grind)
      obtain ⟨m, m0, em⟩ := btw_ev p (show lo < r by grind) h3
      have t0 := plc_pos h1 (show q < hi by grind)
      have u0 := plc_pos (show lo < r by grind) h3
      have tu := plc_lt h1 h2 h3
      rw [ek, show s * (k * Rc.ev (plc lo hi q) (btw p lo hi)) = k * (s * Rc.ev (plc lo hi q) (btw p lo hi)) by grind, e, gee_ev t0] at hq
      rw [em, show s * (m * Rc.ev (plc lo hi r) (btw p lo hi)) = m * (s * Rc.ev (plc lo hi r) (btw p lo hi)) by grind, e, gee_ev u0]
      have p1 := rpow_pos t0 b.length
      have p2 := rpow_pos u0 b.length
      have lt := gee_lt (c := c) t0 tu g1 g2 g3
      have hq2 : gee b c (plc lo hi q) ≤ 0 := Rat.not_lt.mp fun z => by
        have := rmul_pos k0 (rmul_pos p1 z)
        grind
      have := rmul_pos m0 (rmul_pos p2 (show 0 < -gee b c (plc lo hi r) by grind))
      grind
    · obtain ⟨t, t0, ht⟩ := chg_pos (c := c) g1 g2
      obtain ⟨q, h1, h2, rfl⟩ := plc_of h t0
      obtain ⟨k, k0, ek⟩ := btw_ev p h1 h2
      refine ⟨q, h1, h2, ?_⟩
      rw [ek, show s * (k * Rc.ev (plc lo hi q) (btw p lo hi)) = k * (s * Rc.ev (plc lo hi q) (btw p lo hi)) by grind, e]
      exact rmul_pos k0 ht
    · obtain ⟨t, t0, ht⟩ := chg_neg (b := b) g3 g4
      obtain ⟨q, h1, h2, rfl⟩ := plc_of h t0
      obtain ⟨k, k0, ek⟩ := btw_ev p h1 h2
      refine ⟨q, h1, h2, ?_⟩
      rw [ek, show s * (k * Rc.ev (plc lo hi q) (btw p lo hi)) = k * (s * Rc.ev (plc lo hi q) (btw p lo hi)) by grind, e]
      have := rmul_pos k0 (show 0 < -Rc.ev (plc lo hi q) (b ++ c) by grind)
      grind
  obtain ⟨b, c, e, g1, g2, g3, g4⟩ := cg1 _ hc
  rcases e with e | e
  · exact ⟨1, .inl rfl, key 1 b c (fun t => by rw [e]; grind) g1 g2 g3 g4⟩
  · exact ⟨-1, .inr rfl, key (-1) b c (fun t => by rw [← e, ev_ng]; grind) g1 g2 g3 g4⟩
end Po
end Rc

/-! A factor with a root within adds a change at least. -/
namespace Rc
open PySem
/-- a x + b times a list, p the one ahead -/
def hL (a b : Int) : Int → List Int → List Int
  | p, [] => [b * p]
  | p, w :: r => (a * w + b * p) :: hL a b w r
theorem cgH {a b : Int} (ha : 0 < a) (hb : b < 0) : ∀ (g : List Int) (p l L : Int), l ≠ 0 → L ≠ 0 → (g = [] → p ≠ 0) → (∀ h, g.getLast h ≠ 0) → (p = 0 ∨ (0 < p ↔ 0 < l)) →
    ((0 < L ↔ 0 < l) → cg l g + 1 ≤ cg L (hL a b p g)) ∧ (¬ (0 < L ↔ 0 < l) → cg l g ≤ cg L (hL a b p g))
  | [], p, l, L, l0, L0, p0, _, hp => by
    have e1 : cg l [] = 0 := rfl
    have e2 : cg L (hL a b p []) = (if b * p * L < 0 then 1 else 0) + 0 := rfl
    rw [e1, e2]
    have pn := p0 rfl
    refine ⟨fun h => ?_, fun _ => Nat.zero_le _⟩
    rw [if_pos]
    · exact Nat.le_refl 1
    · rcases Int.lt_or_gt_of_ne pn with z | z
      · have := Int.mul_pos_of_neg_of_neg hb z
        exact mul_lt0.mpr (.inr ⟨this, by omega⟩)
      · have := Int.mul_neg_of_neg_of_pos hb z
        exact mul_lt0.mpr (.inl ⟨this, by omega⟩)
  | w :: r, p, l, L, l0, L0, _, hl, hp => by
    have e1 : cg l (w :: r) = (if w * l < 0 then 1 else 0) + cg (if w = 0 then l else w) r := rfl
    have e2 : cg L (hL a b p (w :: r)) = (if (a * w + b * p) * L < 0 then 1 else 0) + cg (if a * w + b * p = 0 then L else a * w + b * p) (hL a b w r) := rfl
    rw [e1, e2]
    have hr : r = [] → w ≠ 0 := fun e => by
      subst e
      exact hl (by simp)
    have hl2 : ∀ h, r.getLast h ≠ 0 := fun h => by
      have := hl (by simp)
      rw [List.getLast_cons h] at this
      exact this
    have A1 : (0 < w → 0 < a * w) ∧ (w < 0 → a * w < 0) ∧ (w = 0 → a * w = 0) := ⟨fun z => Int.mul_pos ha z, fun z => Int.mul_neg_of_pos_of_neg ha z, fun z => by rw [z, Int.mul_zero]⟩
    have B1 : (0 < p → b * p < 0) ∧ (p < 0 → 0 < b * p) ∧ (p = 0 → b * p = 0) := ⟨fun z => Int.mul_neg_of_neg_of_pos hb z, fun z => Int.mul_pos_of_neg_of_neg hb z, fun z => by rw [z, Int.mul_zero]⟩
    obtain ⟨H, hH⟩ : ∃ H, H = a * w + b * p := ⟨_, rfl⟩
    rw [← hH]
    have ih := cgH ha hb r w (if w = 0 then l else w) (if H = 0 then L else H) (by split <;> omega) (by split <;> omega) hr hl2 (by split <;> omega)
    simp only [mul_lt0]
    generalize a * w = x at *
    generalize b * p = y at *
    by_cases hw : w = 0
    · rw [if_pos hw] at ih ⊢
      by_cases hz : H = 0
      · rw [if_pos hz] at ih ⊢
        rw [if_neg (by omega), if_neg (by omega)]
        generalize cg l r = m at *
        generalize cg L (hL a b w r) = n at *
        omega
      · rw [if_neg hz] at ih ⊢
        generalize cg l r = m at *
        generalize cg H (hL a b w r) = n at *
        rw [if_neg (by omega)]
        split <;> omega
    · rw [if_neg hw] at ih ⊢
      by_cases hz : H = 0
      · rw [if_pos hz] at ih ⊢
        rw [if_neg (show ¬ ((H < 0 ∧ 0 < L) ∨ (0 < H ∧ L < 0)) by omega)]
        generalize cg w r = m at *
        generalize cg L (hL a b w r) = n at *
        split <;> omega
      · rw [if_neg hz] at ih ⊢
        generalize cg w r = m at *
        generalize cg H (hL a b w r) = n at *
        split <;> split <;> omega
theorem cgH0 {a b : Int} (ha : 0 < a) (hb : b < 0) : ∀ (g : List Int), Nz g → (∀ h, g.getLast h ≠ 0) → cg 0 g + 1 ≤ cg 0 (hL a b 0 g)
  | [], ⟨w, hw, _⟩, _ => by cases hw
  | w :: r, hz, hl => by
    have e1 : cg 0 (w :: r) = (if w * 0 < 0 then 1 else 0) + cg (if w = 0 then 0 else w) r := rfl
    have e2 : cg 0 (hL a b 0 (w :: r)) = (if (a * w + b * 0) * 0 < 0 then 1 else 0) + cg (if a * w + b * 0 = 0 then 0 else a * w + b * 0) (hL a b w r) := rfl
    rw [e1, e2]
    simp only [Int.mul_zero, Int.add_zero, Int.lt_irrefl, if_false, Nat.zero_add]
    have hr : r = [] → w ≠ 0 := fun e => by
      subst e
      exact hl (by simp)
    have hl2 : ∀ h, r.getLast h ≠ 0 := fun h => by
      have := hl (by simp)
      rw [List.getLast_cons h] at this
      exact this
    by_cases hw : w = 0
    · subst hw
      rw [if_pos rfl, if_pos (Int.mul_zero a)]
      have zr : Nz r := by
        obtain ⟨x, hx, h0⟩ := hz
        rcases List.mem_cons.mp hx with rfl | hx
        · exact absurd rfl h0
        · exact ⟨x, hx, h0⟩
      have := cgH0 ha hb r zr hl2
      omega
    · have aw : a * w ≠ 0 := Int.mul_ne_zero (by omega) hw
      rw [if_neg hw, if_neg aw]
      have A1 : (0 < w → 0 < a * w) ∧ (w < 0 → a * w < 0) := ⟨fun z => Int.mul_pos ha z, fun z => Int.mul_neg_of_pos_of_neg ha z⟩
      have := (cgH ha hb r w w (a * w) hw aw hr hl2 (.inr Iff.rfl)).1 (by omega)
      omega
theorem hL_len (a b : Int) : ∀ (g : List Int) (p : Int), (hL a b p g).length = g.length + 1
  | [], _ => rfl
  | w :: r, p => by
    show (hL a b w r).length + 1 = _
    rw [hL_len a b r w]
    rfl
theorem cf_hL (a b : Int) : ∀ (g : List Int) (p : Int) (n : Nat), cf (hL a b p g) n = a * cf g n + b * (match n with
    | 0 => p
    | m + 1 => cf g m)
  | [], p, 0 => by show b * p = a * 0 + b * p; omega
  | [], p, n + 1 => by show 0 = a * 0 + b * 0; omega
  | w :: r, p, 0 => rfl
  | w :: r, p, n + 1 => by
    show cf (hL a b w r) n = a * cf r n + b * cf (w :: r) n
    rw [cf_hL a b r w n]
    cases n <;> rfl
theorem hL_ng (a b : Int) : ∀ (g : List Int) (p : Int), ngL (hL a b p g) = hL (-a) (-b) p g
  | [], p => by
    show [-(b * p)] = [-b * p]
    rw [Int.neg_mul]
  | w :: r, p => by
    show -(a * w + b * p) :: ngL (hL a b w r) = (-a * w + -b * p) :: hL (-a) (-b) w r
    rw [hL_ng a b r w]
    congr 1
    rw [Int.neg_mul, Int.neg_mul]
    omega
theorem rpow_add (y : Rat) (m : Nat) : ∀ n, y ^ (m + n) = y ^ m * y ^ n
  | 0 => by rw [Rat.pow_zero, Nat.add_zero]; grind
  | n + 1 => by
    rw [← Nat.add_assoc, Rat.pow_succ, rpow_add y m n, Rat.pow_succ]
    grind
theorem hT2 (x y c d : Int) : hT x y [c, d] = d * x + c * y := by
  show (0 * x + d * y ^ 0) * x + c * y ^ 1 = _
  rw [Int.pow_zero, Int.pow_succ, Int.pow_zero]
  grind
namespace Po
theorem at1_nat {p q : Po} (h : ∀ m : Nat, at1 (m : Int) p = at1 (m : Int) q) : p = q := by
  refine Classical.byContradiction fun ne => ?_
  have d0 : p - q ≠ 0 := fun z => ne (by grind)
  have f := roots_few (p - q).l.length (p - q).l rfl (nz_of d0) (pts (p - q).l.length) (pts_nd _)
  rw [List.filter_eq_self.mpr fun x hx => ?_] at f
  · unfold pts at f
    simp at f
  · obtain ⟨i, _, rfl⟩ := List.mem_map.mp hx
    have e := h i
    unfold at1 at e
    have e1 : ((hT (i : Int) 1 (p - q).l : Int) : Rat) = 0 := by
      rw [hT_ev1]
      show ev _ (p - q) = 0
      rw [ev_sub']
      have a1 := hT_ev1 (i : Int) p.l
      have a2 := hT_ev1 (i : Int) q.l
      rw [e] at a1
      show Rc.ev _ p.l - Rc.ev _ q.l = 0
      rw [← a1, ← a2]
      grind
    have : hT (i : Int) 1 (p - q).l = 0 := by exact_mod_cast e1
    simpa using this
/-- homogeneous values of a product -/
theorem hT_mul {p q : Po} (p0 : p ≠ 0) (q0 : q ≠ 0) {x y : Int} (hy : y ≠ 0) : hT x y (p * q).l = hT x y p.l * hT x y q.l := by
  have yr : (y : Rat) ≠ 0 := fun z => hy (by exact_mod_cast z)
  have e : ((x : Rat) / (y : Rat)) * (y : Rat) = x := Rat.div_mul_cancel yr
  have h1 := hT_evI e (p * q).l
  have h2 := hT_evI e p.l
  have h3 := hT_evI e q.l
  have hl : (p * q).l.length + 1 = p.l.length + q.l.length := by
    have := len_mul p0 q0
    have a := len_pos p0
    have b := len_pos q0
    unfold len at *
    omega
  have hv : Rc.ev ((x : Rat) / (y : Rat)) (p * q).l = Rc.ev ((x : Rat) / (y : Rat)) p.l * Rc.ev ((x : Rat) / (y : Rat)) q.l := ev_mul' _ p q
  have hp : (y : Rat) ^ (p * q).l.length * (y : Rat) = (y : Rat) ^ p.l.length * (y : Rat) ^ q.l.length := by
    rw [← Rat.pow_succ, hl, rpow_add]
  rw [hv] at h1
  have key : ((hT x y (p * q).l : Rat) - (hT x y p.l : Rat) * (hT x y q.l : Rat)) * ((y : Rat) * (y : Rat)) = 0 := by
    generalize (hT x y (p * q).l : Rat) = A at *
    generalize (hT x y p.l : Rat) = B at *
    generalize (hT x y q.l : Rat) = C at *
    generalize Rc.ev ((x : Rat) / (y : Rat)) p.l = u at *
    generalize Rc.ev ((x : Rat) / (y : Rat)) q.l = v at *
    generalize (y : Rat) ^ (p * q).l.length = Y1 at *
    generalize (y : Rat) ^ p.l.length = Y2 at *
    generalize (y : Rat) ^ q.l.length = Y3 at *
    generalize (y : Rat) = y at *
    clear e
    grind
  rcases Rat.mul_eq_zero.mp key with z | z
  · have : (hT x y (p * q).l : Rat) = ((hT x y p.l * hT x y q.l : Int) : Rat) := by
      rw [Rat.intCast_mul]
      grind
    exact_mod_cast this
  · rcases Rat.mul_eq_zero.mp z with z | z <;> exact absurd z yr
/-- seen within, as a polynomial -/
def sw (p : Po) (lo hi : Rat) : Po := ⟨btw p lo hi, pn_trim _⟩
theorem at1_sw (p : Po) (lo hi : Rat) (x : Int) : at1 x (sw p lo hi) = hT (lo.num * lcB lo.den hi.den / lo.den * 1 + hi.num * lcB lo.den hi.den / hi.den * x) (lcB lo.den hi.den * (x + 1)) p.l := by
  show hT x 1 (trim _) = _
  rw [hT_trim, betL_ev]
theorem sw_mul {p q : Po} (p0 : p ≠ 0) (q0 : q ≠ 0) (lo hi : Rat) : sw (p * q) lo hi = sw p lo hi * sw q lo hi := at1_nat fun m => by
  rw [at1_mul, at1_sw, at1_sw, at1_sw, hT_mul p0 q0]
  exact Int.mul_ne_zero (by have := (ends_ok lo hi).1; omega) (by omega)
/-- den x - num -/
def lin (r : Rat) : Po := ⟨[-r.num, (r.den : Int)], trim_snoc (xs := [-r.num]) (den0 r)⟩
theorem lin_ne (r : Rat) : lin r ≠ 0 := ne0_l.mpr (by show [_, _] ≠ []; simp)
theorem ev_lin (q r : Rat) : ev q (lin r) = (r.den : Rat) * (q - r) := by
  show ((-r.num : Int) : Rat) + q * (((r.den : Int) : Rat) + q * 0) = _
  rw [Rat.intCast_neg, num_eq, Rat.intCast_natCast]
  grind
theorem mul_lin_l (a b : Int) (g : Po) (g0 : g ≠ 0) (hb : b ≠ 0) {c : Po} (hc : c.l = [a, b]) : (g * c).l = hL a b 0 g.l := by
  have gl := ne0_l.mp g0
  have hp : Pn (hL a b 0 g.l) := by
    have hn : hL a b 0 g.l ≠ [] := fun z => by have := hL_len a b g.l 0; rw [z] at this; simp at this
    have e := List.dropLast_concat_getLast hn
    have hlast : (hL a b 0 g.l).getLast hn = b * g.lc := by
      rw [List.getLast_eq_getElem, ← Rc.cf_lt, cf_hL, hL_len]
      rw [show g.l.length + 1 - 1 = (g.l.length - 1) + 1 by have := List.length_pos_iff.mpr gl; omega]
      show a * Rc.cf g.l (g.l.length - 1 + 1) + b * Rc.cf g.l (g.l.length - 1) = b * g.lc
      rw [Rc.cf_ge (by omega), Int.mul_zero, Int.zero_add]
      rfl
    have := trim_snoc (xs := (hL a b 0 g.l).dropLast) (x := (hL a b 0 g.l).getLast hn) (by rw [hlast]; exact Int.mul_ne_zero hb (lc_ne g0))
    rw [e] at this
    exact this
  refine pn_ext (g * c).pn hp fun n => ?_
  have h1 : (g * c).cf n = mulF c.l (Rc.cf g.l) n := by
    rw [mul_comm']
    exact cf_mul c g n
  show (g * c).cf n = _
  rw [h1, hc, cf_hL]
  show a * Rc.cf g.l n + sh 1 (fun n => b * Rc.cf g.l n + sh 1 (fun _ => 0) n) n = _
  unfold sh
  cases n with
  | zero => simp
  | succ n => simp
theorem sw_l (p : Po) (lo hi : Rat) : (sw p lo hi).l = btw p lo hi := rfl
theorem lin_l (r : Rat) : (lin r).l = [-r.num, (r.den : Int)] := rfl
/-- of a part of degree one with its root within: below, above nought -/
theorem sw_lin {lo hi r : Rat} (h1 : lo < r) (h2 : r < hi) : ∃ c d, c < 0 ∧ 0 < d ∧ (sw (lin r) lo hi).l = [c, d] := by
  obtain ⟨B0, eL, eR⟩ := ends_ok lo hi
  have hl : (sw (lin r) lo hi).l = trim (betL (lo.num * lcB lo.den hi.den / lo.den) (hi.num * lcB lo.den hi.den / hi.den) (lcB lo.den hi.den) [-r.num, (r.den : Int)]) := rfl
  rw [hl]
  generalize lo.num * lcB lo.den hi.den / lo.den = L at *
  generalize hi.num * lcB lo.den hi.den / hi.den = R at *
  generalize lcB lo.den hi.den = B at *
  clear hl
  have hlen : (betL L R B [-r.num, (r.den : Int)]).length = 2 := betL_len ..
  obtain ⟨c, d, hcd⟩ : ∃ c d, betL L R B [-r.num, (r.den : Int)] = [c, d] := by
    generalize betL L R B [-r.num, (r.den : Int)] = z at *
    match z, hlen with
    | [c, d], _ => exact ⟨c, d, rfl⟩
  have v : ∀ x y : Int, d * x + c * y = r.den * (L * y + R * x) + -r.num * (B * (x + y)) := fun x y => by
    have := betL_ev L R B x y [-r.num, (r.den : Int)]
    rw [hcd, hT2, hT2] at this
    exact this
  have d0 : (0 : Rat) < ((r.den : Int) : Rat) := icast_lt.mpr (denP r)
  have b0 : (0 : Rat) < (B : Rat) := icast_lt.mpr B0
  have en : (r.num : Rat) = r * ((r.den : Int) : Rat) := by rw [num_eq]; rfl
  have hc : c < 0 := by
    have e := v 0 1
    have e2 : c = r.den * L + -r.num * B := by
      rw [show d * 0 + c * 1 = c by omega, show L * 1 + R * 0 = L by omega, show (0 : Int) + 1 = 1 from rfl, Int.mul_one] at e
      exact e
    have z := rmul_pos (rmul_pos d0 b0) (show 0 < r - lo by grind)
    rw [e2, ← icast_lt, Rat.intCast_add, Rat.intCast_mul, Rat.intCast_mul, Rat.intCast_neg, eL, en]
    generalize ((r.den : Int) : Rat) = D at *
    generalize (B : Rat) = B at *
    rw [show D * (lo * B) + -(r * D) * B = -(D * B * (r - lo)) by grind]
    show _ < (0 : Rat)
    grind
  have hd : 0 < d := by
    have e := v 1 0
    have e2 : d = r.den * R + -r.num * B := by
      rw [show d * 1 + c * 0 = d by omega, show L * 0 + R * 1 = R by omega, show (1 : Int) + 0 = 1 from rfl, Int.mul_one] at e
      exact e
    have z := rmul_pos (rmul_pos d0 b0) (show 0 < hi - r by grind)
    rw [e2, ← icast_lt, Rat.intCast_add, Rat.intCast_mul, Rat.intCast_mul, Rat.intCast_neg, eR, en]
    generalize ((r.den : Int) : Rat) = D at *
    generalize (B : Rat) = B at *
    rw [show D * (hi * B) + -(r * D) * B = D * B * (hi - r) by grind]
    exact z
  exact ⟨c, d, hc, hd, by rw [hcd]; exact trim_snoc (xs := [c]) (by omega)⟩
/-- a root within adds a change at least -/
theorem cg_lin {g : Po} {lo hi r : Rat} (g0 : g ≠ 0) (h1 : lo < r) (h2 : r < hi) : cg 0 (btw g lo hi) + 1 ≤ cg 0 (btw (g * lin r) lo hi) := by
  have h : lo < hi := by grind
  obtain ⟨c, d, hc, hd, hcl⟩ := sw_lin h1 h2
  have nz := btw_nz h g0
  have s0 : sw g lo hi ≠ 0 := ne0_l.mpr (by
    rw [sw_l]
    obtain ⟨w, hw, _⟩ := nz
    intro z
    rw [z] at hw
    cases hw)
  rw [← sw_l (g * lin r), sw_mul g0 (lin_ne r) lo hi, mul_lin_l c d (sw g lo hi) s0 (by omega) hcl, sw_l, ← cg_ng0 (hL c d 0 (btw g lo hi)), hL_ng]
  refine cgH0 (by omega) (by omega) _ nz fun hh z => ?_
  have := trim_last (betL (lo.num * lcB lo.den hi.den / lo.den) (hi.num * lcB lo.den hi.den / hi.den) (lcB lo.den hi.den) g.l)
  refine this ?_
  have e : (btw g lo hi).getLast? = some 0 := by rw [List.getLast?_eq_some_getLast hh, z]
  exact e
/-! ### told roots -/
def prodR : List Rat → Po
  | [] => 1
  | r :: rs => lin r * prodR rs
theorem one_ne : (1 : Po) ≠ 0 := by decide
theorem prodR_ne : ∀ rs : List Rat, prodR rs ≠ 0
  | [] => one_ne
  | r :: rs => mul_ne (lin_ne r) (prodR_ne rs)
theorem prodR_app : ∀ (rs ts : List Rat), prodR (rs ++ ts) = prodR rs * prodR ts
  | [], ts => by
    show prodR ts = 1 * prodR ts
    grind
  | r :: rs, ts => by
    show lin r * prodR (rs ++ ts) = lin r * prodR rs * prodR ts
    rw [prodR_app rs ts]
    grind
theorem prodR_snoc (rs : List Rat) (r : Rat) : prodR (rs ++ [r]) = prodR rs * lin r := by
  rw [prodR_app]
  show prodR rs * (lin r * 1) = _
  grind
theorem prodR_part (f : Rat → Bool) : ∀ rs : List Rat, prodR rs = prodR (rs.filter fun r => !f r) * prodR (rs.filter f)
  | [] => by
    show (1 : Po) = 1 * 1
    grind
  | r :: rs => by
    have ih := prodR_part f rs
    show lin r * prodR rs = _
    cases h : f r with
    | true =>
      rw [List.filter_cons_of_pos (p := f) h, List.filter_cons_of_neg (p := fun r => !f r) (by simp [h])]
      show _ = _ * (lin r * prodR (rs.filter f))
      rw [ih]
      grind
    | false =>
      rw [List.filter_cons_of_neg (p := f) (by simp [h]), List.filter_cons_of_pos (p := fun r => !f r) (by simp [h])]
      show _ = lin r * prodR (rs.filter fun r => !f r) * _
      rw [ih]
      grind
theorem inner_le {lo hi : Rat} : ∀ {rs : List Rat} {g : Po}, g ≠ 0 → (∀ r ∈ rs, lo < r ∧ r < hi) → rs.length ≤ cg 0 (btw (g * prodR rs) lo hi)
  | [], _, _, _ => Nat.zero_le _
  | r :: rs, g, g0, h => by
    have ih := inner_le (rs := rs) g0 fun x hx => h x (List.mem_cons_of_mem _ hx)
    obtain ⟨h1, h2⟩ := h r (List.mem_cons_self ..)
    have := cg_lin (mul_ne g0 (prodR_ne rs)) h1 h2
    rw [show g * prodR (r :: rs) = g * prodR rs * lin r by show g * (lin r * prodR rs) = _; grind]
    show rs.length + 1 ≤ _
    omega
def ins (lo hi r : Rat) : Bool := decide (lo < r) && decide (r < hi)
theorem ins_iff {lo hi r : Rat} : ins lo hi r = true ↔ lo < r ∧ r < hi := by
  unfold ins
  rw [Bool.and_eq_true, decide_eq_true_eq, decide_eq_true_eq]
/-- no more of the told roots within than changes -/
theorem told_le {g : Po} (g0 : g ≠ 0) (rs : List Rat) (lo hi : Rat) : (rs.filter (ins lo hi)).length ≤ cg 0 (btw (g * prodR rs) lo hi) := by
  rw [prodR_part (ins lo hi) rs, show ∀ a b : Po, g * (a * b) = g * a * b from fun a b => by grind]
  exact inner_le (mul_ne g0 (prodR_ne _)) fun r hr => ins_iff.mp (List.mem_filter.mp hr).2
theorem ev_one (q : Rat) : ev q 1 = 1 := ev_C q 1
/-- of one sign where no told root is -/
theorem told_out {lo hi q r : Rat} (h1 : lo < q) (h2 : q < hi) (h3 : lo < r) (h4 : r < hi) : ∀ {rs : List Rat}, (rs.filter (ins lo hi)) = [] → 0 < ev q (prodR rs) * ev r (prodR rs)
  | [], _ => by
    show 0 < ev q 1 * ev r 1
    rw [ev_one, ev_one]
    grind
  | x :: rs, h => by
    have hx : ins lo hi x = false := by
      cases e : ins lo hi x with
      | false => rfl
      | true => rw [List.filter_cons_of_pos e] at h; cases h
    rw [List.filter_cons_of_neg (by rw [hx]; exact Bool.false_ne_true)] at h
    have ih := told_out h1 h2 h3 h4 h
    have out : ¬ (lo < x ∧ x < hi) := fun z => by rw [ins_iff.mpr z] at hx; cases hx
    have d0 : (0 : Rat) < (x.den : Rat) := by
      have : ((0 : Int) : Rat) < ((x.den : Int) : Rat) := icast_lt.mpr (denP x)
      exact this
    have key : 0 < (q - x) * (r - x) := by
      by_cases a : lo < x
      · have b : hi ≤ x := Rat.not_lt.mp fun z => out ⟨a, z⟩
        have := rmul_pos (show 0 < x - q by grind) (show 0 < x - r by grind)
        rw [show (q - x) * (r - x) = (x - q) * (x - r) by grind]
        exact this
      · have b : x ≤ lo := Rat.not_lt.mp a
        exact rmul_pos (show 0 < q - x by grind) (show 0 < r - x by grind)
    show 0 < ev q (lin x * prodR rs) * ev r (lin x * prodR rs)
    rw [ev_mul', ev_mul', ev_lin, ev_lin]
    have := rmul_pos (rmul_pos (rmul_pos d0 d0) key) ih
    generalize ev q (prodR rs) = u at *
    generalize ev r (prodR rs) = v at *
    generalize (x.den : Rat) = D at *
    rw [show D * (q - x) * u * (D * (r - x) * v) = D * D * ((q - x) * (r - x)) * (u * v) by grind]
    exact this
/-- where one is seen and all real ones are told, one told root lies within -/
theorem told_one {g : Po} {rs : List Rat} {lo hi : Rat} (h : lo < hi) (g0 : g ≠ 0) (gs : ∀ q r, 0 < ev q g * ev r g) (hc : cg 0 (btw (g * prodR rs) lo hi) = 1) : (rs.filter (ins lo hi)).length = 1 := by
  have le := told_le g0 rs lo hi
  rw [hc] at le
  refine Nat.le_antisymm le (Nat.pos_of_ne_zero fun z => ?_)
  have z := List.length_eq_zero_iff.mp z
  obtain ⟨s, hs, _, ⟨q, q1, q2, q3⟩, ⟨r, r1, r2, r3⟩⟩ := V1 h hc
  have a := told_out q1 q2 r1 r2 z
  have b := rmul_pos (gs q r) a
  rw [ev_mul'] at q3 r3
  have c := rmul_pos q3 (show 0 < -(s * (ev r g * ev r (prodR rs))) by grind)
  have ss : s * s = 1 := by rcases hs with rfl | rfl <;> grind
  generalize ev q g = x at *
  generalize ev r g = y at *
  generalize ev q (prodR rs) = u at *
  generalize ev r (prodR rs) = v at *
  rw [show s * (x * u) * -(s * (y * v)) = -(s * s) * (x * y * (u * v)) by grind, ss] at c
  grind
theorem C_sign {e : Int} (h : e ≠ 0) (q r : Rat) : 0 < ev q (C e) * ev r (C e) := by
  rw [ev_C, ev_C]
  have : ((0 : Int) : Rat) < ((e * e : Int) : Rat) := icast_lt.mpr (by
    rcases Int.lt_or_gt_of_ne h with z | z
    · exact Int.mul_pos_of_neg_of_neg z z
    · exact Int.mul_pos z z)
  rw [Rat.intCast_mul] at this
  exact this
end Po
/-! ### signs -/
theorem hT_sign (q : Rat) (a : List Int) : (0 < hT q.num q.den a ↔ 0 < ev q a) ∧ (hT q.num q.den a < 0 ↔ ev q a < 0) ∧ (hT q.num q.den a = 0 ↔ ev q a = 0) := by
  have h := hT_ev q a
  have d0 : (0 : Rat) < (q.den : Rat) := by
    have : ((0 : Int) : Rat) < ((q.den : Int) : Rat) := icast_lt.mpr (denP q)
    exact this
  have p0 := rpow_pos d0 a.length
  have e1 : (0 < hT q.num q.den a) ↔ 0 < ((hT q.num q.den a : Int) : Rat) := by rw [← icast_lt]; exact Iff.rfl
  have e2 : (hT q.num q.den a < 0) ↔ ((hT q.num q.den a : Int) : Rat) < 0 := by rw [← icast_lt]; exact Iff.rfl
  have pos : 0 < ((hT q.num q.den a : Int) : Rat) ↔ 0 < ev q a := by
    generalize ((hT q.num q.den a : Int) : Rat) = t at *
    generalize (q.den : Rat) ^ a.length = P at *
    generalize (q.den : Rat) = D at *
    constructor
    · intro z
      refine Rat.not_le.mp fun y => ?_
      have a1 := rmul_pos z d0
      have a2 := rmul_nn (show 0 ≤ -ev q a by grind) (Rat.le_of_lt p0)
      grind
    · intro z
      refine Rat.not_le.mp fun y => ?_
      have a1 := rmul_pos z p0
      have a2 := rmul_nn (show 0 ≤ -t by grind) (Rat.le_of_lt d0)
      grind
  have neg : ((hT q.num q.den a : Int) : Rat) < 0 ↔ ev q a < 0 := by
    generalize ((hT q.num q.den a : Int) : Rat) = t at *
    generalize (q.den : Rat) ^ a.length = P at *
    generalize (q.den : Rat) = D at *
    constructor
    · intro z
      refine Rat.not_le.mp fun y => ?_
      have a1 := rmul_pos (show 0 < -t by grind) d0
      have a2 := rmul_nn y (Rat.le_of_lt p0)
      grind
    · intro z
      refine Rat.not_le.mp fun y => ?_
      have a1 := rmul_pos (show 0 < -ev q a by grind) p0
      have a2 := rmul_nn y (Rat.le_of_lt d0)
      grind
  exact ⟨e1.trans pos, e2.trans neg, hT_ev0 q a⟩
def sgn (q : Rat) (a : List Int) : Int := (hT q.num q.den a).sign
theorem sgn_pos {q : Rat} {a : List Int} (h : 0 < ev q a) : sgn q a = 1 := Int.sign_eq_one_of_pos ((hT_sign q a).1.mpr h)
theorem sgn_neg {q : Rat} {a : List Int} (h : ev q a < 0) : sgn q a = -1 := Int.sign_eq_neg_one_of_neg ((hT_sign q a).2.1.mpr h)
theorem sgn_0 {q : Rat} {a : List Int} (h : ev q a = 0) : sgn q a = 0 := by
  unfold sgn
  rw [(hT_sign q a).2.2.mpr h]
  rfl
/-- signs that go over once at most -/
def goes (a b c : Int) : Prop := ∃ s : Int, (s = 1 ∨ s = -1) ∧ ((a = s ∧ b = s ∧ (c = s ∨ c = 0 ∨ c = -s)) ∨ (a = s ∧ (b = 0 ∨ b = -s) ∧ c = -s) ∨ ((a = 0 ∨ a = -s) ∧ b = -s ∧ c = -s))
theorem goes_of {p : Po} {lo hi q r t : Rat} (h : lo < hi) (hc : cg 0 (Po.btw p lo hi) = 1) (h1 : lo < q) (h2 : q < r) (h3 : r < t) (h4 : t < hi) : goes (sgn q p.l) (sgn r p.l) (sgn t p.l) := by
  obtain ⟨s, hs, mono, _⟩ := Po.V1 h hc
  have m1 := mono q r h1 h2 (by grind)
  have m2 := mono r t (by grind) h3 h4
  have val : ∀ x : Rat, (0 < s * Po.ev x p ∧ sgn x p.l = (if s = 1 then 1 else -1)) ∨ (s * Po.ev x p = 0 ∧ sgn x p.l = 0) ∨ (s * Po.ev x p < 0 ∧ sgn x p.l = -(if s = 1 then 1 else -1)) := fun x => by
    rcases hs with rfl | rfl
    · rw [if_pos rfl]
      by_cases a : Po.ev x p = 0
      · exact .inr (.inl ⟨by rw [a]; grind, sgn_0 a⟩)
      · by_cases b : 0 < Po.ev x p
        · exact .inl ⟨by grind, sgn_pos b⟩
        · have c : Po.ev x p < 0 := by grind
          exact .inr (.inr ⟨by grind, sgn_neg c⟩)
    · rw [if_neg (by decide)]
      by_cases a : Po.ev x p = 0
      · exact .inr (.inl ⟨by rw [a]; grind, sgn_0 a⟩)
      · by_cases b : 0 < Po.ev x p
        · exact .inr (.inr ⟨by grind, sgn_pos b⟩)
        · have c : Po.ev x p < 0 := by grind
          exact .inl ⟨by grind, sgn_neg c⟩
  refine ⟨if s = 1 then 1 else -1, by split <;> simp, ?_⟩
  generalize (if s = 1 then (1 : Int) else -1) = σ at *
  rcases val q with ⟨a1, a2⟩ | ⟨a1, a2⟩ | ⟨a1, a2⟩ <;> rcases val r with ⟨b1, b2⟩ | ⟨b1, b2⟩ | ⟨b1, b2⟩ <;> rcases val t with ⟨c1, c2⟩ | ⟨c1, c2⟩ | ⟨c1, c2⟩
  all_goals first
    | (rw [a2, b2, c2]; simp; done)
    | (exfalso; have := m1 (by grind); grind)
    | (exfalso; have := m2 (by grind); grind)
/-! ### a point drawn within -/
def shr (c : Int) : Int := 1 + c.fmod (10 ^ 25)
theorem shr_ok (c : Int) : 0 < shr c ∧ Bt 85 (shr c) := by
  have h : 0 ≤ c.fmod (10 ^ 25) ∧ c.fmod (10 ^ 25) < 10 ^ 25 := by
    rw [fmod_pos (by decide +kernel)]
    exact ⟨Int.emod_nonneg _ (by decide +kernel), Int.emod_lt_of_pos _ (by decide +kernel)⟩
  unfold shr
  have e : (10 : Int) ^ 25 = 10000000000000000000000000 := by decide +kernel
  rw [e] at h ⊢
  refine ⟨by omega, ?_⟩
  unfold Bt
  have e2 : (2 : Nat) ^ 85 = 38685626227668133590597632 := by decide +kernel
  rw [e2]
  omega
def wv (lo hi : Rat) (c : Int) : Rat := Rat.divInt (lo.num * hi.den * shr c + hi.num * lo.den * shr (c.fdiv (10 ^ 25))) (lo.den * hi.den * (shr c + shr (c.fdiv (10 ^ 25))))
theorem wv_b0 (lo hi : Rat) (c : Int) : 0 < (lo.den : Int) * hi.den * (shr c + shr (c.fdiv (10 ^ 25))) := Int.mul_pos (Int.mul_pos (denP lo) (denP hi)) (by have := (shr_ok c).1; have := (shr_ok (c.fdiv (10 ^ 25))).1; omega)
theorem wv_in {lo hi : Rat} (h : lo < hi) (c : Int) : lo < wv lo hi c ∧ wv lo hi c < hi := by
  have s0 : ((0 : Int) : Rat) < (shr c : Rat) := icast_lt.mpr (shr_ok c).1
  have o0 : ((0 : Int) : Rat) < (shr (c.fdiv (10 ^ 25)) : Rat) := icast_lt.mpr (shr_ok _).1
  have b0 : (0 : Rat) < (((lo.den : Int) * hi.den * (shr c + shr (c.fdiv (10 ^ 25))) : Int) : Rat) := icast_lt.mpr (wv_b0 lo hi c)
  have d1 : (0 : Rat) < ((lo.den : Int) : Rat) := icast_lt.mpr (denP lo)
  have d2 : (0 : Rat) < ((hi.den : Int) : Rat) := icast_lt.mpr (denP hi)
  have e1 : (lo.num : Rat) = lo * ((lo.den : Int) : Rat) := num_eq lo
  have e2 : (hi.num : Rat) = hi * ((hi.den : Int) : Rat) := num_eq hi
  have e : wv lo hi c * (((lo.den : Int) * hi.den * (shr c + shr (c.fdiv (10 ^ 25))) : Int) : Rat) = ((lo.num * hi.den * shr c + hi.num * lo.den * shr (c.fdiv (10 ^ 25)) : Int) : Rat) := by
    unfold wv
    rw [Rat.divInt_eq_div]
    exact Rat.div_mul_cancel (by grind)
  simp only [Rat.intCast_add, Rat.intCast_mul, e1, e2] at e b0
  generalize wv lo hi c = w at *
  generalize (shr c : Rat) = s at *
  generalize (shr (c.fdiv (10 ^ 25)) : Rat) = o at *
  generalize ((lo.den : Int) : Rat) = D at *
  generalize ((hi.den : Int) : Rat) = G at *
  have s0 : 0 < s := s0
  have o0 : 0 < o := o0
  have dg := rmul_pos d1 d2
  constructor
  · refine Rat.not_le.mp fun z => ?_
    have a1 := rmul_pos (rmul_pos dg o0) (show 0 < hi - lo by grind)
    have a2 := rmul_nn (Rat.le_of_lt b0) (show 0 ≤ lo - w by grind)
    rw [show D * G * o * (hi - lo) = (lo * D * G * s + hi * G * D * o) - lo * (D * G * (s + o)) by grind, ← e] at a1
    rw [show D * G * (s + o) * (lo - w) = lo * (D * G * (s + o)) - w * (D * G * (s + o)) by grind] at a2
    grind
  · refine Rat.not_le.mp fun z => ?_
    have a1 := rmul_pos (rmul_pos dg s0) (show 0 < hi - lo by grind)
    have a2 := rmul_nn (Rat.le_of_lt b0) (show 0 ≤ w - hi by grind)
    rw [show D * G * s * (hi - lo) = hi * (D * G * (s + o)) - (lo * D * G * s + hi * G * D * o) by grind, ← e] at a1
    rw [show D * G * (s + o) * (w - hi) = w * (D * G * (s + o)) - hi * (D * G * (s + o)) by grind] at a2
    grind
theorem wv_sz {s : Nat} {lo hi : Rat} (h1 : Sz s lo) (h2 : Sz s hi) (c : Int) : Sz (2 * s + 90) (wv lo hi c) := by
  have a := shr_ok c
  have b := shr_ok (c.fdiv (10 ^ 25))
  refine sz_divInt (by have := wv_b0 lo hi c; omega) ?_ ?_
  · exact (Bt.add (Bt.mul (Bt.mul h1.1 h2.2) a.2) (Bt.mul (Bt.mul h2.1 h1.2) b.2)).mono (by omega)
  · exact (Bt.mul (Bt.mul h1.2 h2.2) (Bt.add a.2 b.2)).mono (by omega)
end Rc

/-! Remainders of weights. -/
namespace Rc
open PySem
def rmL (a : List Int) (m : Int) : List Int := a.map (·.fmod m)
theorem cf_map {f : Int → Int} (h : f 0 = 0) (a : List Int) (n : Nat) : cf (a.map f) n = f (cf a n) := by
  by_cases hn : n < a.length
  · rw [cf_lt (by simpa using hn), cf_lt hn, List.getElem_map]
  · rw [cf_ge (by simpa using hn), cf_ge (by omega), h]
theorem cf_rmL (a : List Int) (m : Int) (n : Nat) : cf (rmL a m) n = (cf a n).fmod m := cf_map (Int.zero_fmod m) a n
theorem rmL_t {a b : List Int} (m : Int) (h : ∀ n, cf a n = cf b n) : trim (rmL a m) = trim (rmL b m) := trim_ext fun n => by rw [cf_rmL, cf_rmL, h n]
/-- the sum with a sign, as the laws reckon it -/
def addW (a b : List Int) (w : Int) : List Int := (List.range (max a.length b.length)).map fun n => cf a n + w * cf b n
theorem cf_addW (a b : List Int) (w : Int) (n : Nat) : cf (addW a b w) n = cf a n + w * cf b n := cf_range (fun n hn => by rw [cf_ge (by omega), cf_ge (by omega), Int.mul_zero]; rfl) n
theorem bl_rm {n p : Nat} {a : List Int} {m : Int} (l : a.length ≤ n) (m0 : 0 < m) (h : Bt p m) : Bl n p (rmL a m) := ⟨by unfold rmL; rw [List.length_map]; exact l, fun x hx => by
  obtain ⟨y, _, rfl⟩ := List.mem_map.mp hx
  exact bt_fmod m0 h⟩
theorem fr_step {x y z l r m q : Int} (h1 : m ∣ l * z - x) (h2 : m ∣ r * z - y) : m ∣ (l - q * r) * z - (x - q * y) := by
  obtain ⟨u, hu⟩ := h1
  obtain ⟨v, hv⟩ := h2
  exact ⟨u - q * v, by grind⟩
theorem inv_end {l z m : Int} (hm : 2 ≤ m) (h : m ∣ l * z - 1) : 0 ≤ l.fmod m ∧ l.fmod m < m ∧ (l.fmod m * z).fmod m = 1 := by
  have e : l.fmod m = l - m * l.fdiv m := by
    have := Int.mul_fdiv_add_fmod l m
    omega
  obtain ⟨t, ht⟩ := h
  have e2 : l.fmod m * z = 1 + m * (t - l.fdiv m * z) := by
    rw [e]
    grind
  refine ⟨?_, ?_, ?_⟩
  · rw [fmod_pos (by omega)]
    exact Int.emod_nonneg _ (by omega)
  · rw [fmod_pos (by omega)]
    exact Int.emod_lt_of_pos _ (by omega)
  · rw [e2, fmod_pos (by omega), Int.add_mul_emod_self_left, Int.emod_eq_of_lt (by omega) (by omega)]
theorem par_fm (x y : Int) : x - x.fdiv y * y = x.fmod y := by
  have := Int.mul_fdiv_add_fmod x y
  rw [Int.mul_comm] at this
  omega
/-- digits below their bases -/
def Dg : List Int → List Int → Prop
  | [], [] => True
  | b :: bs, r :: rs => (0 ≤ r ∧ r < b) ∧ Dg bs rs
  | _, _ => False
theorem Dg.snoc {b r : Int} : ∀ {bs rs : List Int}, Dg bs rs → 0 ≤ r → r < b → Dg (bs ++ [b]) (rs ++ [r])
  | [], [], _, h, g => ⟨⟨h, g⟩, trivial⟩
  | [], _ :: _, h, _, _ => h.elim
  | _ :: _, [], h, _, _ => h.elim
  | _ :: _, _ :: _, h, g, q => ⟨h.1, Dg.snoc h.2 g q⟩
theorem Dg.len : ∀ {bs rs : List Int}, Dg bs rs → rs.length = bs.length
  | [], [], _ => rfl
  | [], _ :: _, h => h.elim
  | _ :: _, [], h => h.elim
  | _ :: _, _ :: _, h => congrArg (· + 1) h.2.len
theorem Dg.mem {P : Int → Prop} : ∀ {bs rs : List Int}, Dg bs rs → (∀ b ∈ bs, ∀ r, 0 ≤ r → r < b → P r) → ∀ r ∈ rs, P r
  | [], [], _, _, r, h => by cases h
  | [], _ :: _, h, _, _, _ => h.elim
  | _ :: _, [], h, _, _, _ => h.elim
  | b :: bs, x :: rs, h, g, r, hr => by
    rcases List.mem_cons.mp hr with rfl | q
    · exact g b (List.mem_cons_self ..) _ h.1.1 h.1.2
    · exact Dg.mem h.2 (fun c hc => g c (List.mem_cons_of_mem _ hc)) r q
theorem mod_bt {a : Nat} {i : Int} (h : Bt a i) : Bt (7 * a) (i ^ 7) := by
  have e : i ^ 7 = i * i * i * i * i * i * i := by grind
  rw [e, show 7 * a = a + a + a + a + a + a + a by omega]
  exact ((((((h.mul h).mul h).mul h).mul h).mul h).mul h)
theorem cf_extL {a b : List Int} (hl : a.length = b.length) (h : ∀ n, cf a n = cf b n) : a = b := by
  refine List.ext_getElem hl fun i h1 h2 => ?_
  have := h i
  rwa [cf_lt h1, cf_lt h2] at this
theorem cut_nn {α : Type} (xs : List α) (i j : Nat) : cut xs (some (i : Int)) (some (j : Int)) = (xs.drop i).take (j - i) := by
  unfold cut
  rw [HT.sIx_nat, HT.sIx_nat]
  by_cases h : i ≤ xs.length
  · rw [Nat.min_eq_left h]
    refine List.take_eq_take_iff.mpr ?_
    rw [List.length_drop]
    omega
  · rw [List.drop_eq_nil_of_le (by omega), List.drop_eq_nil_of_le (by omega)]
    simp
theorem cut_n {α : Type} (xs : List α) (i : Nat) : cut xs (some (i : Int)) none = xs.drop i := by
  unfold cut
  rw [HT.sIx_nat, HT.sIx_none]
  by_cases h : i ≤ xs.length
  · rw [Nat.min_eq_left h, List.take_of_length_le (by rw [List.length_drop]; omega)]
  · rw [List.drop_eq_nil_of_le (by omega), List.drop_eq_nil_of_le (by omega)]
    simp
theorem wts_bt {w : Int} (h : 0 ≤ w ∧ w < 2 * 10 ^ 20) : Bt 70 (w - 10 ^ 20) ∧ Bt 70 (w.fmod 7 - 3) := by
  refine ⟨by unfold Bt; omega, ?_⟩
  rw [fmod_pos (by decide)]
  unfold Bt
  omega
theorem cmp_ss {a b : Str} {Q : Bool → Prop} : cmpW .Eq (.str a) (.str b) Q = (SeqAt.shaped (.str a) = true ∧ SeqAt.shaped (.str b) = true ∧ Q (PyData.eqv (.str a) (.str b))) := rfl
theorem cmp_ssn {a b : Str} {Q : Bool → Prop} : cmpW .NotEq (.str a) (.str b) Q = (SeqAt.shaped (.str a) = true ∧ SeqAt.shaped (.str b) = true ∧ Q (!PyData.eqv (.str a) (.str b))) := rfl
theorem sh_told : SeqAt.shaped (.str (Str.ofString "told")) = true := by decide +kernel
theorem sh_none : SeqAt.shaped (.str (Str.ofString "none")) = true := by decide +kernel
theorem eq_told : PyData.eqv (.str (Str.ofString "told")) (.str (Str.ofString "told")) = true := by decide +kernel
theorem eq_none : PyData.eqv (.str (Str.ofString "none")) (.str (Str.ofString "none")) = true := by decide +kernel
theorem eq_nt : PyData.eqv (.str (Str.ofString "told")) (.str (Str.ofString "none")) = false := by decide +kernel
theorem eq_tn : PyData.eqv (.str (Str.ofString "none")) (.str (Str.ofString "told")) = false := by decide +kernel
end Rc

/-! Small stretches: the weights seen within one have one sign, or rise, or fall. -/
namespace Rc
open PySem
/-- Pascal's numbers -/
def bn : Nat → Nat → Nat
  | 0, 0 => 1
  | 0, _ + 1 => 0
  | n + 1, 0 => bn n 0
  | n + 1, i + 1 => bn n (i + 1) + bn n i
def prv {α : Type} (z : α) (f : Nat → α) : Nat → α
  | 0 => z
  | i + 1 => f i
theorem bn_s (n i : Nat) : bn (n + 1) i = bn n i + prv 0 (bn n) i := by
  cases i <;> rfl
theorem bn_pos : ∀ n i, i ≤ n → 0 < bn n i
  | 0, 0, _ => by decide
  | 0, i + 1, h => by omega
  | n + 1, 0, _ => bn_pos n 0 (by omega)
  | n + 1, i + 1, h => by
    have := bn_pos n i (by omega)
    show 0 < bn n (i + 1) + bn n i
    omega
theorem bn_step : ∀ n i, (i + 1) * bn n (i + 1) + i * bn n i = n * bn n i
  | 0, 0 => rfl
  | 0, i + 1 => by
    show (i + 1 + 1) * 0 + (i + 1) * 0 = 0 * 0
    omega
  | n + 1, 0 => by
    have := bn_step n 0
    show (0 + 1) * (bn n 1 + bn n 0) + 0 * bn n 0 = (n + 1) * bn n 0
    have this : (0 + 1) * bn n 1 + 0 * bn n 0 = n * bn n 0 := this
    generalize bn n 1 = a at *
    generalize bn n 0 = b at *
    grind
  | n + 1, i + 1 => by
    have h1 := bn_step n (i + 1)
    have h2 := bn_step n i
    show (i + 1 + 1) * (bn n (i + 1 + 1) + bn n (i + 1)) + (i + 1) * (bn n (i + 1) + bn n i) = (n + 1) * (bn n (i + 1) + bn n i)
    generalize bn n (i + 1 + 1) = a at *
    generalize bn n (i + 1) = b at *
    generalize bn n i = c at *
    grind
/-- the weights of w x^k (L + R x)^k (B + B x)^(n - k) added up -/
def hc (L R B : Int) : List Int → Nat → Int
  | [], _ => 0
  | w :: r, i => L * hc L R B r i + R * prv 0 (hc L R B r) i + w * B ^ r.length * bn r.length i
def hd (L R B : Int) : List Int → Nat → Int
  | [], _ => 0
  | w :: r, i => L * hd L R B r i + R * prv 0 (hd L R B r) i + hc L R B r i
theorem hd_id (L R B : Int) : ∀ (r : List Int) (w : Int) (i : Nat), (i + 1) * hc L R B (w :: r) (i + 1) + i * hc L R B (w :: r) i = r.length * hc L R B (w :: r) i + (R - L) * hd L R B (w :: r) i
  | [], w, i => by
    have h := bn_step 0 i
    show ((i : Int) + 1) * (L * 0 + R * (prv 0 (hc L R B []) (i + 1)) + w * B ^ 0 * bn 0 (i + 1)) + i * (L * 0 + R * prv 0 (hc L R B []) i + w * B ^ 0 * bn 0 i) = (0 : Nat) * (L * 0 + R * prv 0 (hc L R B []) i + w * B ^ 0 * bn 0 i) + (R - L) * (L * 0 + R * prv 0 (hd L R B []) i + 0)
    have z1 : ∀ j, prv 0 (hc L R B []) j = 0 := fun j => by cases j <;> rfl
    have z2 : ∀ j, prv 0 (hd L R B []) j = 0 := fun j => by cases j <;> rfl
    rw [z1, z1, z2]
    have h2 : ((i : Int) + 1) * (bn 0 (i + 1) : Int) + i * (bn 0 i : Int) = 0 := by
      have := congrArg (Nat.cast : Nat → Int) h
      simpa using this
    generalize (bn 0 (i + 1) : Int) = a at *
    generalize (bn 0 i : Int) = b at *
    grind
  | u :: s, w, i => by
    have ih := hd_id L R B s u
    have h1 := ih i
    have hb : ((i : Int) + 1) * (bn (s.length + 1) (i + 1) : Int) + i * (bn (s.length + 1) i : Int) = ((s.length : Int) + 1) * (bn (s.length + 1) i : Int) := by
      have := congrArg (Nat.cast : Nat → Int) (bn_step (s.length + 1) i)
      simpa using this
    show ((i : Int) + 1) * (L * hc L R B (u :: s) (i + 1) + R * hc L R B (u :: s) i + w * B ^ (s.length + 1) * bn (s.length + 1) (i + 1)) + i * (L * hc L R B (u :: s) i + R * prv 0 (hc L R B (u :: s)) i + w * B ^ (s.length + 1) * bn (s.length + 1) i) = ((s.length + 1 : Nat) : Int) * (L * hc L R B (u :: s) i + R * prv 0 (hc L R B (u :: s)) i + w * B ^ (s.length + 1) * bn (s.length + 1) i) + (R - L) * (L * hd L R B (u :: s) i + R * prv 0 (hd L R B (u :: s)) i + hc L R B (u :: s) i)
    rw [show ((s.length + 1 : Nat) : Int) = (s.length : Int) + 1 by omega]
    have h2 : (i : Int) * hc L R B (u :: s) i + ((i : Int) - 1) * prv 0 (hc L R B (u :: s)) i = s.length * prv 0 (hc L R B (u :: s)) i + (R - L) * prv 0 (hd L R B (u :: s)) i := by
      cases i with
      | zero => show ((0 : Nat) : Int) * _ + _ * 0 = _ * 0 + _ * 0; simp
      | succ j =>
        have := ih j
        show ((j + 1 : Nat) : Int) * hc L R B (u :: s) (j + 1) + (((j + 1 : Nat) : Int) - 1) * hc L R B (u :: s) j = s.length * hc L R B (u :: s) j + (R - L) * hd L R B (u :: s) j
        rw [show ((j + 1 : Nat) : Int) = (j : Int) + 1 by omega, show (j : Int) + 1 - 1 = j by omega]
        exact this
    generalize prv 0 (hc L R B (u :: s)) i = p0 at *
    generalize prv 0 (hd L R B (u :: s)) i = q0 at *
    generalize hc L R B (u :: s) (i + 1) = f1 at *
    generalize hc L R B (u :: s) i = f0 at *
    generalize hd L R B (u :: s) i = d0 at *
    generalize (bn (s.length + 1) (i + 1) : Int) = b1 at *
    generalize (bn (s.length + 1) i : Int) = b0 at *
    generalize (s.length : Int) = m at *
    generalize (i : Int) = x at *
    generalize w * B ^ (s.length + 1) = e at *
    have e1 : e * ((x + 1) * b1 + x * b0) = e * ((m + 1) * b0) := by rw [hb]
    have e2 : L * ((x + 1) * f1 + x * f0) = L * (m * f0 + (R - L) * d0) := by rw [h1]
    have e3 : R * (x * f0 + (x - 1) * p0) = R * (m * p0 + (R - L) * q0) := by rw [h2]
    grind
def dk : Nat → List Int → List Int
  | _, [] => []
  | k, w :: r => (k : Int) * w :: dk (k + 1) r
theorem dk_len : ∀ (k : Nat) (r : List Int), (dk k r).length = r.length
  | _, [] => rfl
  | k, w :: r => by show (dk (k + 1) r).length + 1 = r.length + 1; rw [dk_len]
theorem hc_dk (L R B : Int) : ∀ (r : List Int) (k i : Nat), hc L R B (dk (k + 1) r) i = hc L R B (dk k r) i + hc L R B r i
  | [], k, i => rfl
  | w :: r, k, i => by
    have ih := hc_dk L R B r (k + 1)
    show L * hc L R B (dk (k + 1 + 1) r) i + R * prv 0 (hc L R B (dk (k + 1 + 1) r)) i + ((k + 1 : Nat) : Int) * w * B ^ (dk (k + 1 + 1) r).length * bn (dk (k + 1 + 1) r).length i
      = L * hc L R B (dk (k + 1) r) i + R * prv 0 (hc L R B (dk (k + 1) r)) i + (k : Int) * w * B ^ (dk (k + 1) r).length * bn (dk (k + 1) r).length i + (L * hc L R B r i + R * prv 0 (hc L R B r) i + w * B ^ r.length * bn r.length i)
    rw [dk_len, dk_len]
    have h1 := ih i
    have h2 : prv 0 (hc L R B (dk (k + 1 + 1) r)) i = prv 0 (hc L R B (dk (k + 1) r)) i + prv 0 (hc L R B r) i := by
      cases i with
      | zero => rfl
      | succ j => exact ih j
    rw [h1, h2]
    generalize prv 0 (hc L R B (dk (k + 1) r)) i = a at *
    generalize prv 0 (hc L R B r) i = b at *
    generalize (bn r.length i : Int) = c at *
    generalize B ^ r.length = d at *
    rw [show ((k + 1 : Nat) : Int) = (k : Int) + 1 by omega]
    grind
theorem hd_dk (L R B : Int) : ∀ (r : List Int) (w : Int) (i : Nat), hd L R B (w :: r) i = hc L R B (dk 1 r) i
  | [], w, i => by
    show L * 0 + R * prv 0 (hd L R B []) i + 0 = 0
    have z2 : prv 0 (hd L R B []) i = 0 := by cases i <;> rfl
    rw [z2]
    omega
  | u :: s, w, i => by
    have ih := hd_dk L R B s u
    show L * hd L R B (u :: s) i + R * prv 0 (hd L R B (u :: s)) i + (L * hc L R B s i + R * prv 0 (hc L R B s) i + u * B ^ s.length * bn s.length i)
      = L * hc L R B (dk 2 s) i + R * prv 0 (hc L R B (dk 2 s)) i + ((1 : Nat) : Int) * u * B ^ (dk 2 s).length * bn (dk 2 s).length i
    rw [dk_len]
    have h1 := hc_dk L R B s 1
    have h2 : prv 0 (hc L R B (dk 2 s)) i = prv 0 (hd L R B (u :: s)) i + prv 0 (hc L R B s) i := by
      cases i with
      | zero => rfl
      | succ j =>
        show hc L R B (dk 2 s) j = hd L R B (u :: s) j + hc L R B s j
        rw [h1 j, ih j]
    rw [h1 i, ih i, h2]
    generalize prv 0 (hd L R B (u :: s)) i = a at *
    generalize prv 0 (hc L R B s) i = b at *
    generalize (bn s.length i : Int) = c at *
    generalize B ^ s.length = d at *
    generalize hc L R B (dk 1 s) i = e at *
    generalize hc L R B s i = f at *
    grind
theorem cf_dk : ∀ (r : List Int) (k n : Nat), cf (dk k r) n = ((k + n : Nat) : Int) * cf r n
  | [], k, n => by rw [cf_nil]; show cf [] n = _; rw [cf_nil, Int.mul_zero]
  | w :: r, k, 0 => by show (k : Int) * w = ((k + 0 : Nat) : Int) * w; rfl
  | w :: r, k, n + 1 => by
    show cf (dk (k + 1) r) n = _ * cf r n
    rw [cf_dk r (k + 1) n]
    congr 1
    omega
theorem dL_dk (w : Int) (r : List Int) : dL (w :: r) = dk 1 r := cf_extL (by
    rw [dk_len]
    unfold dL
    rw [List.length_map, List.length_range]
    rfl) fun n => by
  rw [cf_dL, cf_dk]
  show ((n : Int) + 1) * cf r n = _
  congr 1
  omega
/-! ### sizes -/
def nA : List Int → Nat
  | [] => 0
  | w :: r => w.natAbs + nA r
theorem abs3 (a b c : Int) : (a + b + c).natAbs ≤ a.natAbs + b.natAbs + c.natAbs := by omega
theorem hc_le {L R B : Int} {S : Nat} (hL : L.natAbs ≤ S) (hR : R.natAbs ≤ S) (hB : B.natAbs ≤ S) : ∀ (r : List Int) (w : Int) (i : Nat), (hc L R B (w :: r) i).natAbs ≤ nA (w :: r) * S ^ r.length * bn r.length i
  | [], w, i => by
    show (L * 0 + R * (prv 0 (hc L R B []) i) + w * B ^ 0 * bn 0 i).natAbs ≤ (w.natAbs + 0) * S ^ 0 * bn 0 i
    have z1 : prv 0 (hc L R B []) i = 0 := by cases i <;> rfl
    rw [z1, Int.mul_zero, Int.mul_zero, Int.zero_add, Int.zero_add, Int.pow_zero, Int.mul_one, Int.natAbs_mul, Int.natAbs_natCast, Nat.pow_zero, Nat.mul_one]
    exact Nat.le_refl _
  | u :: s, w, i => by
    have ih := hc_le hL hR hB s u
    show (L * hc L R B (u :: s) i + R * prv 0 (hc L R B (u :: s)) i + w * B ^ (s.length + 1) * bn (s.length + 1) i).natAbs ≤ (w.natAbs + nA (u :: s)) * S ^ (s.length + 1) * bn (s.length + 1) i
    have h2 : (prv 0 (hc L R B (u :: s)) i).natAbs ≤ nA (u :: s) * S ^ s.length * prv 0 (bn s.length) i := by
      cases i with
      | zero => show (0 : Int).natAbs ≤ _; exact Nat.zero_le _
      | succ j => exact ih j
    refine Nat.le_trans (abs3 _ _ _) ?_
    have e1 : (L * hc L R B (u :: s) i).natAbs ≤ S * (nA (u :: s) * S ^ s.length * bn s.length i) := by
      rw [Int.natAbs_mul]
      exact Nat.mul_le_mul hL (ih i)
    have e2 : (R * prv 0 (hc L R B (u :: s)) i).natAbs ≤ S * (nA (u :: s) * S ^ s.length * prv 0 (bn s.length) i) := by
      rw [Int.natAbs_mul]
      exact Nat.mul_le_mul hR h2
    have e3 : (w * B ^ (s.length + 1) * bn (s.length + 1) i).natAbs ≤ w.natAbs * S ^ (s.length + 1) * bn (s.length + 1) i := by
      rw [Int.natAbs_mul, Int.natAbs_mul, Int.natAbs_pow, Int.natAbs_natCast]
      exact Nat.mul_le_mul_right _ (Nat.mul_le_mul_left _ (Nat.pow_le_pow_left hB _))
    have e4 : (w.natAbs + nA (u :: s)) * S ^ (s.length + 1) * bn (s.length + 1) i = S * (nA (u :: s) * S ^ s.length * bn s.length i) + S * (nA (u :: s) * S ^ s.length * prv 0 (bn s.length) i) + w.natAbs * S ^ (s.length + 1) * bn (s.length + 1) i := by
      rw [show bn (s.length + 1) i = bn s.length i + prv 0 (bn s.length) i from bn_s s.length i, Nat.pow_succ]
      generalize bn s.length i = a
      generalize prv 0 (bn s.length) i = b
      generalize S ^ s.length = c
      generalize nA (u :: s) = d
      grind
    omega
theorem hc_near {L R B : Int} {S : Nat} (hL : L.natAbs ≤ S) (hR : R.natAbs ≤ S) (hB : B.natAbs ≤ S) : ∀ (r : List Int) (w : Int) (i : Nat), S * (hc L R B (w :: r) i - hT L B (w :: r) * bn r.length i).natAbs ≤ (R - L).natAbs * (r.length * nA (w :: r) * S ^ r.length) * bn r.length i
  | [], w, i => by
    show S * (L * 0 + R * (prv 0 (hc L R B []) i) + w * B ^ 0 * bn 0 i - (0 * L + w * B ^ 0) * bn 0 i).natAbs ≤ _
    have z1 : prv 0 (hc L R B []) i = 0 := by cases i <;> rfl
    rw [z1]
    have : L * 0 + R * 0 + w * B ^ 0 * bn 0 i - (0 * L + w * B ^ 0) * bn 0 i = 0 := by
      generalize (bn 0 i : Int) = b
      grind
    rw [this]
    exact Nat.zero_le _
  | u :: s, w, i => by
    have ih := hc_near hL hR hB s u
    have hle := hc_le hL hR hB s u
    have hh : hT L B (w :: u :: s) = hT L B (u :: s) * L + w * B ^ (s.length + 1) := rfl
    show S * (L * hc L R B (u :: s) i + R * prv 0 (hc L R B (u :: s)) i + w * B ^ (s.length + 1) * bn (s.length + 1) i - hT L B (w :: u :: s) * bn (s.length + 1) i).natAbs ≤ (R - L).natAbs * ((s.length + 1) * (w.natAbs + nA (u :: s)) * S ^ (s.length + 1)) * bn (s.length + 1) i
    rw [hh]
    have h2 : (prv 0 (hc L R B (u :: s)) i).natAbs ≤ nA (u :: s) * S ^ s.length * prv 0 (bn s.length) i := by
      cases i with
      | zero => show (0 : Int).natAbs ≤ _; exact Nat.zero_le _
      | succ j => exact hle j
    have h3 : S * (prv 0 (hc L R B (u :: s)) i - hT L B (u :: s) * prv 0 (bn s.length) i).natAbs ≤ (R - L).natAbs * (s.length * nA (u :: s) * S ^ s.length) * prv 0 (bn s.length) i := by
      cases i with
      | zero =>
        show S * (0 - _ * ((0 : Nat) : Int)).natAbs ≤ _
        rw [show (0 : Int) - hT L B (u :: s) * ((0 : Nat) : Int) = 0 by simp]
        exact Nat.zero_le _
      | succ j => exact ih j
    have h1 := ih i
    rw [bn_s]
    have cast : ((bn s.length i + prv 0 (bn s.length) i : Nat) : Int) = (bn s.length i : Int) + (prv 0 (bn s.length) i : Nat) := Int.natCast_add _ _
    rw [cast]
    have split : L * hc L R B (u :: s) i + R * prv 0 (hc L R B (u :: s)) i + w * B ^ (s.length + 1) * ((bn s.length i : Int) + (prv 0 (bn s.length) i : Nat)) - (hT L B (u :: s) * L + w * B ^ (s.length + 1)) * ((bn s.length i : Int) + (prv 0 (bn s.length) i : Nat))
      = L * (hc L R B (u :: s) i - hT L B (u :: s) * bn s.length i) + L * (prv 0 (hc L R B (u :: s)) i - hT L B (u :: s) * (prv 0 (bn s.length) i : Nat)) + (R - L) * prv 0 (hc L R B (u :: s)) i := by
      generalize (bn s.length i : Int) = a
      generalize ((prv 0 (bn s.length) i : Nat) : Int) = b
      generalize w * B ^ (s.length + 1) = c
      grind
    rw [split]
    refine Nat.le_trans (Nat.mul_le_mul_left S (abs3 _ _ _)) ?_
    rw [Int.natAbs_mul, Int.natAbs_mul, Int.natAbs_mul]
    generalize (hc L R B (u :: s) i - hT L B (u :: s) * bn s.length i).natAbs = x1 at *
    generalize (prv 0 (hc L R B (u :: s)) i - hT L B (u :: s) * (prv 0 (bn s.length) i : Nat)).natAbs = x2 at *
    generalize (prv 0 (hc L R B (u :: s)) i).natAbs = x3 at *
    generalize (R - L).natAbs = W at *
    generalize bn s.length i = b0 at *
    generalize prv 0 (bn s.length) i = b1 at *
    generalize nA (u :: s) = A at *
    have g1 : S * (L.natAbs * x1) ≤ S * (W * (s.length * A * S ^ s.length) * b0) := by
      rw [show S * (L.natAbs * x1) = L.natAbs * (S * x1) by grind]
      exact Nat.mul_le_mul hL h1
    have g2 : S * (L.natAbs * x2) ≤ S * (W * (s.length * A * S ^ s.length) * b1) := by
      rw [show S * (L.natAbs * x2) = L.natAbs * (S * x2) by grind]
      exact Nat.mul_le_mul hL h3
    have g3 : S * (W * x3) ≤ S * (W * (A * S ^ s.length * b1)) := Nat.mul_le_mul_left _ (Nat.mul_le_mul_left _ h2)
    have g4 : S * (W * (s.length * A * S ^ s.length) * b0) + S * (W * (s.length * A * S ^ s.length) * b1) + S * (W * (A * S ^ s.length * b1)) + W * (A * S ^ (s.length + 1) * b0) + W * ((s.length + 1) * w.natAbs * S ^ (s.length + 1)) * (b0 + b1) = W * ((s.length + 1) * (w.natAbs + A) * S ^ (s.length + 1)) * (b0 + b1) := by
      rw [Nat.pow_succ]
      generalize S ^ s.length = c
      generalize s.length = m
      grind
    have g5 : S * (L.natAbs * x1 + L.natAbs * x2 + W * x3) = S * (L.natAbs * x1) + S * (L.natAbs * x2) + S * (W * x3) := by rw [Nat.mul_add, Nat.mul_add]
    rw [g5]
    omega
theorem sgn_near {a h : Int} {S E b : Nat} (b0 : 0 < b) (h1 : S * (a - h * b).natAbs ≤ E * b) (h2 : E < S * h.natAbs) : (0 < h → 0 < a) ∧ (h < 0 → a < 0) := by
  have h3 : E * b < S * h.natAbs * b := Nat.mul_lt_mul_of_pos_right h2 b0
  have h4 : S * (a - h * b).natAbs < S * (h * b).natAbs := by
    rw [Int.natAbs_mul, Int.natAbs_natCast, ← Nat.mul_assoc]
    omega
  have h5 : (a - h * b).natAbs < (h * b).natAbs := Nat.lt_of_mul_lt_mul_left h4
  have bi : (0 : Int) < b := by omega
  constructor
  · intro z
    have := Int.mul_pos z bi
    omega
  · intro z
    have := Int.mul_neg_of_neg_of_pos z bi
    omega
theorem near0 {L R B : Int} {S : Nat} (hL : L.natAbs ≤ S) (hR : R.natAbs ≤ S) (hB : B.natAbs ≤ S) {w : Int} {r : List Int} (h : (R - L).natAbs * (r.length * nA (w :: r) * S ^ r.length) < S * (hT L B (w :: r)).natAbs) :
    (∀ i, i ≤ r.length → 0 < hc L R B (w :: r) i) ∨ (∀ i, i ≤ r.length → hc L R B (w :: r) i < 0) := by
  have key := fun i (hi : i ≤ r.length) => sgn_near (bn_pos r.length i hi) (hc_near hL hR hB r w i) h
  rcases Int.lt_trichotomy (hT L B (w :: r)) 0 with z | z | z
  · exact .inr fun i hi => (key i hi).2 z
  · rw [z] at h
    exact absurd h (by simp)
  · exact .inl fun i hi => (key i hi).1 z
/-- the weights rise when each is held against Pascal's -/
def Up (n i : Nat) (xs : List Int) : Prop := ∀ j, i + j < n → ((n : Int) - i - j) * cf xs j < ((i : Int) + j + 1) * cf xs (j + 1)
theorem Up.tl {n i : Nat} {w : Int} {r : List Int} (h : Up n i (w :: r)) : Up n (i + 1) r := fun j hj => by
  have := h (j + 1) (by omega)
  rw [show ((i + 1 : Nat) : Int) = (i : Int) + 1 by omega]
  rw [show ((j + 1 : Nat) : Int) = (j : Int) + 1 by omega] at this
  rw [show (n : Int) - ((i : Int) + 1) - j = (n : Int) - i - ((j : Int) + 1) by omega, show (i : Int) + 1 + j + 1 = (i : Int) + ((j : Int) + 1) + 1 by omega]
  exact this
theorem Up.nx {n i : Nat} {w : Int} {r : List Int} (h : Up n i (w :: r)) (hi : i < n) (hw : 0 ≤ w) : 0 < cf r 0 := by
  have := h 0 (by omega)
  rw [cf_0, cf_s] at this
  have h1 : 0 ≤ ((n : Int) - i - (0 : Nat)) * w := Int.mul_nonneg (by omega) hw
  have h2 : 0 < ((i : Int) + (0 : Nat) + 1) * cf r 0 := by omega
  have h3 : (0 : Int) < (i : Int) + (0 : Nat) + 1 := by omega
  exact Int.pos_of_mul_pos_left (by rw [Int.mul_comm] at h2; exact h2) (by omega)
theorem cg_up0 {n : Nat} : ∀ (xs : List Int) (i : Nat) (l : Int), 0 ≤ l → Up n i xs → xs.length + i ≤ n + 1 → 0 ≤ cf xs 0 → cg l xs = 0
  | [], _, _, _, _, _, _ => rfl
  | w :: r, i, l, hl, h, hn, hw => by
    rw [cf_0] at hw
    rw [List.length_cons] at hn
    have e : cg l (w :: r) = (if w * l < 0 then 1 else 0) + cg (if w = 0 then l else w) r := rfl
    rw [e, if_neg (by have := Int.mul_nonneg hw hl; omega)]
    have ih := fun (hr : 0 ≤ cf r 0) => cg_up0 r (i + 1) (if w = 0 then l else w) (by split <;> omega) h.tl (by omega) hr
    cases r with
    | nil => rfl
    | cons u s =>
      rw [List.length_cons] at hn
      rw [ih (Int.le_of_lt (h.nx (by omega) hw))]
theorem cg_up {n : Nat} : ∀ (xs : List Int) (i : Nat) (l : Int), l ≤ 0 → Up n i xs → xs.length + i ≤ n + 1 → cg l xs ≤ 1
  | [], _, _, _, _, _ => Nat.zero_le _
  | w :: r, i, l, hl, h, hn => by
    rw [List.length_cons] at hn
    have e : cg l (w :: r) = (if w * l < 0 then 1 else 0) + cg (if w = 0 then l else w) r := rfl
    rw [e]
    by_cases hw : w ≤ 0
    · rw [if_neg (by have := Int.mul_nonneg_of_nonpos_of_nonpos hw hl; omega)]
      have := cg_up r (i + 1) (if w = 0 then l else w) (by split <;> omega) h.tl (by omega)
      omega
    · rw [if_neg (show ¬ w = 0 by omega)]
      have : cg w r = 0 := by
        cases r with
        | nil => rfl
        | cons u s =>
          rw [List.length_cons] at hn
          exact cg_up0 _ (i + 1) w (by omega) h.tl (by rw [List.length_cons]; omega) (Int.le_of_lt (h.nx (by omega) (by omega)))
      rw [this]
      split <;> omega
theorem cg_upE {n : Nat} : ∀ (xs : List Int) (i : Nat) (l : Int), l ≤ 0 → Up n i xs → xs.length + i ≤ n + 1 → i ≤ n → cf xs (n - i) ≤ 0 → cg l xs = 0
  | [], _, _, _, _, _, _, _ => rfl
  | w :: r, i, l, hl, h, hn, hi, he => by
    rw [List.length_cons] at hn
    have e : cg l (w :: r) = (if w * l < 0 then 1 else 0) + cg (if w = 0 then l else w) r := rfl
    rw [e]
    by_cases hw : w ≤ 0
    · rw [if_neg (by have := Int.mul_nonneg_of_nonpos_of_nonpos hw hl; omega)]
      by_cases hin : i < n
      · rw [show n - i = (n - (i + 1)) + 1 by omega, cf_s] at he
        rw [cg_upE r (i + 1) (if w = 0 then l else w) (by split <;> omega) h.tl (by omega) (by omega) he]
      · cases r with
        | nil => rfl
        | cons u s => rw [List.length_cons] at hn; omega
    · exfalso
      have up : ∀ (xs : List Int) (i : Nat), Up n i xs → i ≤ n → 0 < cf xs 0 → 0 < cf xs (n - i) := by
        intro xs
        induction xs with
        | nil => intro i _ _ h0; rw [cf_nil] at h0; omega
        | cons u s ih =>
          intro i hu hi h0
          rw [cf_0] at h0
          by_cases hin : i < n
          · have := ih (i + 1) hu.tl (by omega) (hu.nx hin (by omega))
            rw [show n - i = (n - (i + 1)) + 1 by omega, cf_s]
            exact this
          · rw [show n - i = 0 by omega]
            exact h0
      have := up (w :: r) i h hi (by rw [cf_0]; omega)
      omega
theorem cg_allp : ∀ (xs : List Int) (l : Int), 0 ≤ l → NN xs → cg l xs = 0
  | [], _, _, _ => rfl
  | w :: r, l, hl, h => by
    have hw := h w (List.mem_cons_self ..)
    have e : cg l (w :: r) = (if w * l < 0 then 1 else 0) + cg (if w = 0 then l else w) r := rfl
    rw [e, if_neg (by have := Int.mul_nonneg hw hl; omega), cg_allp r _ (by split <;> omega) h.tl]
theorem nn_cf {xs : List Int} (h : ∀ i, i < xs.length → 0 ≤ cf xs i) : NN xs := fun w hw => by
  obtain ⟨i, hi, e⟩ := List.getElem_of_mem hw
  have := h i hi
  rw [cf_lt hi, e] at this
  exact this
theorem cf_ng (xs : List Int) (n : Nat) : cf (ngL xs) n = -cf xs n := by
  unfold ngL
  rw [neg_scl]
  omega
namespace Po
theorem at1_add (x : Int) (p q : Po) : at1 x (p + q) = at1 x p + at1 x q := by
  have h := ev_add' (x : Rat) p q
  unfold ev at h
  rw [← hT_ev1, ← hT_ev1, ← hT_ev1, ← Rat.intCast_add] at h
  exact Rat.intCast_inj.mp h
theorem at1_C (x c : Int) : at1 x (C c) = c := by
  have h := ev_C (x : Rat) c
  unfold ev at h
  rw [← hT_ev1] at h
  exact Rat.intCast_inj.mp h
theorem at1_X (x : Int) : at1 x (X 1) = x := by
  have e : (X 1).l = [0, 1] := by
    show trim [0, 1] = [0, 1]
    exact trim_snoc (xs := [0]) (by decide)
  show hT x 1 (X 1).l = x
  rw [e, hT2]
  omega
def hP (L R B : Int) : List Int → Po
  | [] => 0
  | w :: r => hP L R B r * (C L + C R * X 1) + C (w * B ^ r.length) * (X 1 + 1) ^ r.length
theorem at1_pow (x : Int) (p : Po) : ∀ n : Nat, at1 x (p ^ n) = at1 x p ^ n
  | 0 => by
    show at1 x (C 1) = _
    rw [at1_C, Int.pow_zero]
  | n + 1 => by
    show at1 x (p ^ n * p) = _
    rw [at1_mul, at1_pow x p n, Int.pow_succ]
theorem at1_hP (L R B x : Int) : ∀ a : List Int, at1 x (hP L R B a) = hT (L + R * x) (B * (x + 1)) a
  | [] => by
    show at1 x (C 0) = 0
    exact at1_C x 0
  | w :: r => by
    show at1 x (hP L R B r * (C L + C R * X 1) + C (w * B ^ r.length) * (X 1 + 1) ^ r.length) = hT (L + R * x) (B * (x + 1)) r * (L + R * x) + w * (B * (x + 1)) ^ r.length
    rw [at1_add, at1_mul, at1_mul, at1_add, at1_mul, at1_C, at1_C, at1_C, at1_X, at1_pow, at1_add, at1_X, at1_hP L R B x r, show at1 x 1 = 1 from at1_C x 1, Int.mul_pow]
    grind
theorem cf_Y (n : Nat) : ∀ i, ((X 1 + 1) ^ n : Po).cf i = bn n i := by
  induction n with
  | zero =>
    intro i
    show (C 1).cf i = _
    rw [cf_C]
    cases i <;> rfl
  | succ n ih =>
    intro i
    show ((X 1 + 1) ^ n * (X 1 + 1)).cf i = _
    rw [show (X 1 + 1) ^ n * (X 1 + 1) = (X 1 + 1) ^ n + X 1 * (X 1 + 1) ^ n by grind, cf_add, cf_shift, ih, bn_s]
    cases i with
    | zero => rfl
    | succ j =>
      rw [if_pos (by omega), Nat.add_sub_cancel, ih]
      show _ = ((bn n (j + 1) + bn n j : Nat) : Int)
      omega
theorem cf_hP (L R B : Int) : ∀ (a : List Int) (i : Nat), (hP L R B a).cf i = hc L R B a i
  | [], i => cf_0 i
  | w :: r, i => by
    show (hP L R B r * (C L + C R * X 1) + C (w * B ^ r.length) * (X 1 + 1) ^ r.length).cf i = L * hc L R B r i + R * prv 0 (hc L R B r) i + w * B ^ r.length * bn r.length i
    rw [show hP L R B r * (C L + C R * X 1) = C L * hP L R B r + C R * (X 1 * hP L R B r) by grind, cf_add, cf_add, cf_Cmul, cf_Cmul, cf_Cmul, cf_shift, cf_Y, cf_hP L R B r i]
    congr 3
    cases i with
    | zero => rfl
    | succ j =>
      rw [if_pos (by omega), Nat.add_sub_cancel, cf_hP L R B r j]
      rfl
theorem sw_hP (p : Po) (lo hi : Rat) : sw p lo hi = hP (lo.num * lcB lo.den hi.den / lo.den) (hi.num * lcB lo.den hi.den / hi.den) (lcB lo.den hi.den) p.l := at1_nat fun m => by
  rw [at1_sw, at1_hP, Int.mul_one]
theorem cf_btw (p : Po) (lo hi : Rat) (i : Nat) : Rc.cf (btw p lo hi) i = hc (lo.num * lcB lo.den hi.den / lo.den) (hi.num * lcB lo.den hi.den / hi.den) (lcB lo.den hi.den) p.l i := by
  rw [← cf_hP, ← sw_hP]
  rfl
theorem btw_len (p : Po) (lo hi : Rat) : (btw p lo hi).length ≤ p.len := by
  unfold btw
  refine Nat.le_trans (trim_len _) ?_
  rw [betL_len]
  exact Nat.le_refl _
end Po
end Rc

/-! A free polynomial in a small stretch has one change at most. -/
namespace Rc
open PySem
/-- no more than so much either way -/
def Ab (x M : Rat) : Prop := -M ≤ x ∧ x ≤ M
theorem Ab.nn {x M : Rat} (h : Ab x M) : 0 ≤ M := by
  have h1 := h.1
  have h2 := h.2
  grind
theorem Ab.add {x y M N : Rat} (h : Ab x M) (g : Ab y N) : Ab (x + y) (M + N) := by
  have h1 := h.1
  have h2 := h.2
  have h3 := g.1
  have h4 := g.2
  exact ⟨by grind, by grind⟩
theorem Ab.mul {x y M N : Rat} (h : Ab x M) (g : Ab y N) : Ab (x * y) (M * N) := by
  have h1 := h.1
  have h2 := h.2
  have h3 := g.1
  have h4 := g.2
  have a1 := rmul_nn (a := M - x) (b := N + y) (by grind) (by grind)
  have a2 := rmul_nn (a := M + x) (b := N - y) (by grind) (by grind)
  have a3 := rmul_nn (a := M - x) (b := N - y) (by grind) (by grind)
  have a4 := rmul_nn (a := M + x) (b := N + y) (by grind) (by grind)
  exact ⟨by grind, by grind⟩
theorem Ab.mono {x M N : Rat} (h : Ab x M) (g : M ≤ N) : Ab x N := by
  have h1 := h.1
  have h2 := h.2
  exact ⟨by grind, by grind⟩
theorem ncast_le {a b : Nat} : (a : Rat) ≤ b ↔ a ≤ b := by
  have := icast_le (a := (a : Int)) (b := (b : Int))
  rw [Rat.intCast_natCast, Rat.intCast_natCast] at this
  rw [this]
  omega
theorem ncast_lt {a b : Nat} : (a : Rat) < b ↔ a < b := by
  have := icast_lt (a := (a : Int)) (b := (b : Int))
  rw [Rat.intCast_natCast, Rat.intCast_natCast] at this
  rw [this]
  omega
theorem ab_int (w : Int) : Ab (w : Rat) (w.natAbs : Nat) := by
  have h1 := icast_le (a := w) (b := (w.natAbs : Int))
  have h2 := icast_le (a := -(w.natAbs : Int)) (b := w)
  rw [Rat.intCast_natCast] at h1
  rw [Rat.intCast_neg, Rat.intCast_natCast] at h2
  exact ⟨h2.mpr (by omega), h1.mpr (by omega)⟩
theorem ev_ab {q : Rat} {F : Nat} (hF : 1 ≤ F) (h : Ab q F) : ∀ a : List Int, Ab (ev q a) ((nA a * F ^ a.length : Nat) : Rat)
  | [] => by
    show Ab 0 ((0 * 1 : Nat) : Rat)
    exact ⟨by grind, by grind⟩
  | w :: r => by
    have ih := ev_ab hF h r
    have h1 := Ab.add (ab_int w) (Ab.mul h ih)
    refine h1.mono ?_
    rw [← Rat.natCast_mul, ← Rat.natCast_add, ncast_le]
    show w.natAbs + F * (nA r * F ^ r.length) ≤ (w.natAbs + nA r) * F ^ (r.length + 1)
    have p1 : 1 ≤ F ^ (r.length + 1) := Nat.one_le_pow _ _ (by omega)
    have : w.natAbs * 1 ≤ w.natAbs * F ^ (r.length + 1) := Nat.mul_le_mul_left _ p1
    rw [Nat.add_mul, show F * (nA r * F ^ r.length) = nA r * F ^ (r.length + 1) by rw [Nat.pow_succ]; grind]
    omega
theorem rmul_pow (a b : Rat) : ∀ n : Nat, (a * b) ^ n = a ^ n * b ^ n
  | 0 => by rw [Rat.pow_zero, Rat.pow_zero, Rat.pow_zero]; grind
  | n + 1 => by
    rw [Rat.pow_succ, Rat.pow_succ, Rat.pow_succ, rmul_pow a b n]
    grind
theorem near0p {L R B : Int} {S : Nat} (hL : L.natAbs ≤ S) (hR : R.natAbs ≤ S) (hB : B.natAbs ≤ S) (hLR : L ≤ R) {w : Int} {r : List Int} (h : (R - L) * ((r.length * nA (w :: r) * S ^ r.length : Nat) : Int) < (S : Int) * hT L B (w :: r)) :
    ∀ i, i ≤ r.length → 0 < hc L R B (w :: r) i := fun i hi => by
  have a1 : (((R - L).natAbs : Nat) : Int) = R - L := by omega
  have a2 : (0 : Int) ≤ (R - L) * ((r.length * nA (w :: r) * S ^ r.length : Nat) : Int) := Int.mul_nonneg (by omega) (by omega)
  have a3 : 0 < hT L B (w :: r) := by
    refine Classical.byContradiction fun z => ?_
    have : (S : Int) * hT L B (w :: r) ≤ 0 := Int.mul_nonpos_of_nonneg_of_nonpos (by omega) (by omega)
    omega
  refine (sgn_near (bn_pos r.length i hi) (hc_near hL hR hB r w i) ?_).1 a3
  have a4 : (((hT L B (w :: r)).natAbs : Nat) : Int) = hT L B (w :: r) := by omega
  refine Int.ofNat_lt.mp ?_
  rw [Int.natCast_mul (R - L).natAbs, Int.natCast_mul S, a1, a4]
  exact h
theorem near0n {L R B : Int} {S : Nat} (hL : L.natAbs ≤ S) (hR : R.natAbs ≤ S) (hB : B.natAbs ≤ S) (hLR : L ≤ R) {w : Int} {r : List Int} (h : (R - L) * ((r.length * nA (w :: r) * S ^ r.length : Nat) : Int) < (S : Int) * -hT L B (w :: r)) :
    ∀ i, i ≤ r.length → hc L R B (w :: r) i < 0 := fun i hi => by
  have a1 : (((R - L).natAbs : Nat) : Int) = R - L := by omega
  have a2 : (0 : Int) ≤ (R - L) * ((r.length * nA (w :: r) * S ^ r.length : Nat) : Int) := Int.mul_nonneg (by omega) (by omega)
  have a3 : hT L B (w :: r) < 0 := by
    refine Classical.byContradiction fun z => ?_
    have : (S : Int) * -hT L B (w :: r) ≤ 0 := Int.mul_nonpos_of_nonneg_of_nonpos (by omega) (by omega)
    omega
  refine (sgn_near (bn_pos r.length i hi) (hc_near hL hR hB r w i) ?_).2 a3
  have a4 : (((hT L B (w :: r)).natAbs : Nat) : Int) = -hT L B (w :: r) := by omega
  refine Int.ofNat_lt.mp ?_
  rw [Int.natCast_mul (R - L).natAbs, Int.natCast_mul S, a1, a4]
  exact h
theorem hc_zero (L R B : Int) : ∀ a : List Int, hc L R B a 0 = hT L B a
  | [] => rfl
  | w :: r => by
    have b0 : ∀ n, bn n 0 = 1 := fun n => by
      induction n with
      | zero => rfl
      | succ n ih => exact ih
    show L * hc L R B r 0 + R * 0 + w * B ^ r.length * bn r.length 0 = hT L B r * L + w * B ^ r.length
    rw [hc_zero L R B r, b0]
    grind
theorem bn_top : ∀ n, bn n n = 1 ∧ ∀ i, n < i → bn n i = 0
  | 0 => ⟨rfl, fun i hi => by cases i with | zero => omega | succ j => rfl⟩
  | n + 1 => by
    obtain ⟨h1, h2⟩ := bn_top n
    refine ⟨?_, fun i hi => ?_⟩
    · show bn n (n + 1) + bn n n = 1
      rw [h1, h2 _ (by omega)]
    · cases i with
      | zero => omega
      | succ j =>
        show bn n (j + 1) + bn n j = 0
        rw [h2 _ (by omega), h2 _ (by omega)]
theorem hc_top (L R B : Int) : ∀ (r : List Int) (w : Int), hc L R B (w :: r) r.length = hT R B (w :: r) ∧ ∀ i, r.length < i → hc L R B (w :: r) i = 0
  | [], w => by
    have z1 : ∀ i, prv 0 (hc L R B []) i = 0 := fun i => by cases i <;> rfl
    constructor
    · show L * 0 + R * prv 0 (hc L R B []) 0 + w * B ^ 0 * bn 0 0 = 0 * R + w * B ^ 0
      rw [z1, show bn 0 0 = 1 from rfl]
      grind
    · intro i hi
      show L * 0 + R * prv 0 (hc L R B []) i + w * B ^ 0 * bn 0 i = 0
      rw [z1, (bn_top 0).2 i hi]
      simp
  | u :: s, w => by
    obtain ⟨h1, h2⟩ := hc_top L R B s u
    obtain ⟨g1, g2⟩ := bn_top (s.length + 1)
    constructor
    · show L * hc L R B (u :: s) (s.length + 1) + R * hc L R B (u :: s) s.length + w * B ^ (s.length + 1) * bn (s.length + 1) (s.length + 1) = hT R B (u :: s) * R + w * B ^ (s.length + 1)
      rw [h1, h2 _ (by omega), g1]
      grind
    · intro i hi
      have hi : s.length + 1 < i := hi
      show L * hc L R B (u :: s) i + R * prv 0 (hc L R B (u :: s)) i + w * B ^ (s.length + 1) * bn (s.length + 1) i = 0
      rw [h2 _ (by omega), g2 _ hi]
      cases i with
      | zero => omega
      | succ j =>
        show L * 0 + R * hc L R B (u :: s) j + _ = 0
        rw [h2 _ (by omega)]
        simp
theorem hT_evB {L B : Int} {q : Rat} (B0 : B ≠ 0) (e : q * (B : Rat) = L) (w : Int) (r : List Int) : (hT L B (w :: r) : Rat) = ev q (w :: r) * (B : Rat) ^ r.length := by
  have h := hT_evI e (w :: r)
  rw [show (w :: r).length = r.length + 1 from rfl, Rat.pow_succ] at h
  have bz : (B : Rat) ≠ 0 := fun z => B0 (by exact Rat.intCast_inj.mp (by rw [z]; rfl))
  generalize (hT L B (w :: r) : Rat) = t at *
  generalize (B : Rat) ^ r.length = y at *
  generalize (B : Rat) = b at *
  have : (t - ev q (w :: r) * y) * b = 0 := by grind
  rcases Rat.mul_eq_zero.mp this with z | z
  · grind
  · exact absurd z bz
/-- the ends of a stretch and their common bottom, in whole numbers -/
structure Ends (lo hi : Rat) (F : Nat) (L R B : Int) : Prop where
  b0 : 0 < B
  l : lo * (B : Rat) = L
  r : hi * (B : Rat) = R
  lt : lo < hi
  f1 : 1 ≤ F
  a1 : Ab lo F
  a2 : Ab hi F
theorem Ends.nat {lo hi : Rat} {F : Nat} {L R B : Int} (h : Ends lo hi F L R B) : L.natAbs ≤ B.toNat * F ∧ R.natAbs ≤ B.toNat * F ∧ B.natAbs ≤ B.toNat * F ∧ L < R := by
  have b0 := h.b0
  have bp : (0 : Rat) < (B : Rat) := icast_lt.mpr b0
  have eb : ((B.toNat : Nat) : Int) = B := by omega
  have g : ∀ {q : Rat} {X : Int}, q * (B : Rat) = X → Ab q F → X.natAbs ≤ B.toNat * F := fun {q X} e a => by
    have h1 := rmul_nn (a := (F : Rat) - q) (b := (B : Rat)) (by have := a.2; grind) (by grind)
    have h2 := rmul_nn (a := (F : Rat) + q) (b := (B : Rat)) (by have := a.1; grind) (by grind)
    have h3 : ((X : Int) : Rat) ≤ ((B * F : Int) : Rat) := by rw [Rat.intCast_mul, Rat.intCast_natCast, ← e]; grind
    have h4 : ((-(B * F) : Int) : Rat) ≤ ((X : Int) : Rat) := by rw [Rat.intCast_neg, Rat.intCast_mul, Rat.intCast_natCast, ← e]; grind
    have h5 := icast_le.mp h3
    have h6 := icast_le.mp h4
    have : ((B.toNat * F : Nat) : Int) = B * F := by rw [Int.natCast_mul, eb]
    omega
  refine ⟨g h.l h.a1, g h.r h.a2, ?_, ?_⟩
  · have := Nat.mul_le_mul_left B.toNat h.f1
    omega
  · refine icast_lt.mp ?_
    rw [← h.l, ← h.r]
    have := rmul_pos (a := hi - lo) (b := (B : Rat)) (by have := h.lt; grind) bp
    grind
theorem Ends.pow_pos {lo hi : Rat} {F : Nat} {L R B : Int} (h : Ends lo hi F L R B) (n : Nat) : (0 : Rat) < (B : Rat) ^ n := rpow_pos (icast_lt.mpr h.b0) n
theorem Ends.pos {lo hi : Rat} {F : Nat} {L R B : Int} (h : Ends lo hi F L R B) {w : Int} {r : List Int} {m : Rat} (hm : m ≤ ev lo (w :: r)) (hb : (hi - lo) * ((r.length * nA (w :: r) * F ^ r.length : Nat) : Rat) < (F : Rat) * m) : ∀ i, i ≤ r.length → 0 < hc L R B (w :: r) i := by
  obtain ⟨n1, n2, n3, n4⟩ := h.nat
  refine near0p n1 n2 n3 (by omega) ?_
  refine icast_lt.mp ?_
  have b0 := h.b0
  have eb : ((B.toNat : Nat) : Rat) = (B : Rat) := by rw [← Rat.intCast_natCast]; congr 1; omega
  rw [Rat.intCast_mul, Rat.intCast_sub, Rat.intCast_mul, Rat.intCast_natCast, Rat.intCast_natCast, ← h.l, ← h.r, hT_evB (by omega) h.l]
  rw [Rat.natCast_mul, Rat.natCast_mul (B.toNat), Rat.natCast_pow, Rat.natCast_mul (B.toNat), eb, rmul_pow]
  rw [Rat.natCast_mul, Rat.natCast_pow] at hb
  have y0 := h.pow_pos r.length
  have bp : (0 : Rat) < (B : Rat) := icast_lt.mpr b0
  generalize ((r.length * nA (w :: r) : Nat) : Rat) = A at *
  generalize (F : Rat) ^ r.length = Fn at *
  generalize (B : Rat) ^ r.length = y at *
  have fp : (0 : Rat) < (F : Rat) := by
    have := ncast_lt (a := 0) (b := F)
    exact this.mpr h.f1
  generalize (F : Rat) = f at *
  generalize (B : Rat) = b at *
  generalize ev lo (w :: r) = v at *
  have s1 := rmul_pos bp y0
  have s2 := rmul_pos (a := f * m - (hi - lo) * (A * Fn)) (b := b * y) (by grind) s1
  have s3 := rmul_nn (a := f * (v - m)) (b := b * y) (rmul_nn (by grind) (by grind)) (by grind)
  grind
theorem Ends.neg {lo hi : Rat} {F : Nat} {L R B : Int} (h : Ends lo hi F L R B) {w : Int} {r : List Int} {m : Rat} (hm : ev lo (w :: r) ≤ -m) (hb : (hi - lo) * ((r.length * nA (w :: r) * F ^ r.length : Nat) : Rat) < (F : Rat) * m) : ∀ i, i ≤ r.length → hc L R B (w :: r) i < 0 := by
  obtain ⟨n1, n2, n3, n4⟩ := h.nat
  refine near0n n1 n2 n3 (by omega) ?_
  refine icast_lt.mp ?_
  have b0 := h.b0
  have eb : ((B.toNat : Nat) : Rat) = (B : Rat) := by rw [← Rat.intCast_natCast]; congr 1; omega
  rw [Rat.intCast_mul, Rat.intCast_sub, Rat.intCast_mul, Rat.intCast_neg, Rat.intCast_natCast, Rat.intCast_natCast, ← h.l, ← h.r, hT_evB (by omega) h.l]
  rw [Rat.natCast_mul, Rat.natCast_mul (B.toNat), Rat.natCast_pow, Rat.natCast_mul (B.toNat), eb, rmul_pow]
  rw [Rat.natCast_mul, Rat.natCast_pow] at hb
  have y0 := h.pow_pos r.length
  have bp : (0 : Rat) < (B : Rat) := icast_lt.mpr b0
  generalize ((r.length * nA (w :: r) : Nat) : Rat) = A at *
  generalize (F : Rat) ^ r.length = Fn at *
  generalize (B : Rat) ^ r.length = y at *
  have fp : (0 : Rat) < (F : Rat) := by
    have := ncast_lt (a := 0) (b := F)
    exact this.mpr h.f1
  generalize (F : Rat) = f at *
  generalize (B : Rat) = b at *
  generalize ev lo (w :: r) = v at *
  have s1 := rmul_pos bp y0
  have s2 := rmul_pos (a := f * m - (hi - lo) * (A * Fn)) (b := b * y) (by grind) s1
  have s3 := rmul_nn (a := f * (-m - v)) (b := b * y) (rmul_nn (by grind) (by grind)) (by grind)
  grind
theorem Up.of {L R B : Int} (hLR : L < R) {w : Int} {r xs : List Int} (hx : ∀ i, cf xs i = hc L R B (w :: r) i) (h : ∀ i, i < r.length → 0 < hd L R B (w :: r) i) : Up r.length 0 xs := fun j hj => by
  have e := hd_id L R B r w j
  have p := Int.mul_pos (show 0 < R - L by omega) (h j (by omega))
  rw [hx, hx]
  generalize hc L R B (w :: r) (j + 1) = a at *
  generalize hc L R B (w :: r) j = c at *
  generalize (R - L) * hd L R B (w :: r) j = d at *
  grind
theorem cg_E {xs ys : List Int} (h : xs = ys) : cg 0 xs = cg 0 ys := by rw [h]
namespace Po
theorem ends {lo hi : Rat} {F : Nat} (h : lo < hi) (hF : 1 ≤ F) (h1 : Ab lo F) (h2 : Ab hi F) : Ends lo hi F (lo.num * lcB lo.den hi.den / lo.den) (hi.num * lcB lo.den hi.den / hi.den) (lcB lo.den hi.den) := by
  obtain ⟨B0, eL, eR⟩ := ends_ok lo hi
  exact ⟨B0, eL.symm, eR.symm, h, hF, h1, h2⟩
/-- what is known of a stretch that is small -/
structure Thin (p : Po) (lo hi : Rat) : Prop where
  le : cg 0 (btw p lo hi) ≤ 1
  lo0 : ev lo p = 0 → cg 0 (btw p lo hi) = 0
  hi0 : ev hi p = 0 → cg 0 (btw p lo hi) = 0
theorem thin_go {p : Po} (n2 : 2 ≤ p.len) {lo hi : Rat} {F : Nat} (lt : lo < hi) (hF : 1 ≤ F) (h1 : Ab lo F) (h2 : Ab hi F) {m : Rat} (hm : ¬ Ab (ev lo p) m ∨ ¬ Ab (ev lo (der p)) m) {A : Nat} (hA1 : nA p.l ≤ A) (hA2 : nA (der p).l ≤ A)
    (hb : (hi - lo) * ((p.len * A * F ^ p.len : Nat) : Rat) < m) : Thin p lo hi := by
  have E := ends lt hF h1 h2
  have cfb := cf_btw p lo hi
  have bl := btw_len p lo hi
  have ell := hT_evB (L := lo.num * lcB lo.den hi.den / lo.den) (B := lcB lo.den hi.den) (by have := E.b0; omega) E.l
  have err := hT_evB (L := hi.num * lcB lo.den hi.den / hi.den) (B := lcB lo.den hi.den) (by have := E.b0; omega) E.r
  generalize lo.num * lcB lo.den hi.den / lo.den = L at *
  generalize hi.num * lcB lo.den hi.den / hi.den = R at *
  generalize lcB lo.den hi.den = B at *
  have dl := der_ll n2
  unfold ev at hm
  unfold len at n2 hb bl
  cases e : p.l with
  | nil => rw [e] at n2; simp at n2
  | cons w r =>
    rw [e] at hb hm hA1 dl cfb n2 bl
    rw [dL_dk] at dl
    rw [← dl] at hm hA2
    rw [List.length_cons] at hb n2 bl
    have evlo : ∀ {x : Rat}, ev x p = Rc.ev x (w :: r) := fun {x} => by unfold ev; rw [e]
    cases er : dk 1 r with
    | nil => have := dk_len 1 r; rw [er] at this; simp at this; omega
    | cons u s =>
      rw [er] at hm hA2
      have sl : s.length + 1 = r.length := by
        have := dk_len 1 r
        rw [er] at this
        exact this
      have fp : (1 : Rat) ≤ (F : Rat) := ncast_le.mpr hF
      have hw : (0 : Rat) ≤ hi - lo := by grind
      have bound : ∀ (n a : Nat), n ≤ r.length + 1 → a ≤ A → (hi - lo) * ((n * a * F ^ n : Nat) : Rat) < (F : Rat) * m := fun n a hn ha => by
        have h3 : n * a * F ^ n ≤ (r.length + 1) * A * F ^ (r.length + 1) := Nat.mul_le_mul (Nat.mul_le_mul hn ha) (Nat.pow_le_pow_right (by omega) hn)
        have h4 := rmul_le hw (ncast_le.mpr h3)
        have h5 : (0 : Rat) ≤ (hi - lo) * (((r.length + 1) * A * F ^ (r.length + 1) : Nat) : Rat) := rmul_nn hw (by have := ncast_le (a := 0) (b := (r.length + 1) * A * F ^ (r.length + 1)); exact this.mpr (Nat.zero_le _))
        have h6 : (0 : Rat) ≤ ((F : Rat) - 1) * m := rmul_nn (by grind) (by grind)
        grind
      have pz : ∀ {xs : List Int}, (∀ i, i ≤ r.length → 0 < Rc.cf xs i) → xs.length ≤ r.length + 1 → cg 0 xs = 0 := fun {xs} h hl => cg_allp xs 0 (by omega) (nn_cf fun i hi => Int.le_of_lt (h i (by omega)))
      have topL := hc_zero L R B (w :: r)
      have topR := (hc_top L R B r w).1
      have z0 : ev lo p = 0 → hc L R B (w :: r) 0 = 0 := fun z => by
        rw [topL]
        refine Rat.intCast_inj.mp ?_
        rw [ell, ← evlo, z]
        simp
      have z1 : ev hi p = 0 → hc L R B (w :: r) r.length = 0 := fun z => by
        rw [topR]
        refine Rat.intCast_inj.mp ?_
        rw [err, ← evlo, z]
        simp
      have neg0 : ∀ {x M : Rat}, ¬ Ab x M → M ≤ x ∨ x ≤ -M := fun {x M} h => by
        by_cases c : M ≤ x
        · exact .inl c
        · right
          refine Classical.byContradiction fun z => h ⟨by grind, by grind⟩
      rcases hm with hm | hm
      · have all0 : cg 0 (btw p lo hi) = 0 := by
          rcases neg0 hm with g | g
          · have := E.pos g (bound _ _ (by omega) hA1)
            exact pz (fun i hi => by rw [cfb]; exact this i hi) bl
          · have := E.neg g (bound _ _ (by omega) hA1)
            rw [← cg_ng0]
            exact pz (fun i hi => by rw [cf_ng, cfb]; have := this i hi; omega) (by unfold ngL; rw [List.length_map]; exact bl)
        exact ⟨by omega, fun _ => all0, fun _ => all0⟩
      · have hds : ∀ i, hd L R B (w :: r) i = hc L R B (u :: s) i := fun i => by rw [hd_dk, er]
        have core : ∀ {xs : List Int}, Up r.length 0 xs → xs.length ≤ r.length + 1 → (ev lo p = 0 → Rc.cf xs 0 = 0) → (ev hi p = 0 → Rc.cf xs r.length = 0) → cg 0 xs ≤ 1 ∧ (ev lo p = 0 → cg 0 xs = 0) ∧ (ev hi p = 0 → cg 0 xs = 0) := fun {xs} hu hl c0 c1 =>
          ⟨cg_up xs 0 0 (by omega) hu (by omega), fun z => cg_up0 xs 0 0 (by omega) hu (by omega) (by rw [c0 z]; omega), fun z => cg_upE xs 0 0 (by omega) hu (by omega) (by omega) (by rw [Nat.sub_zero, c1 z]; omega)⟩
        rcases neg0 hm with g | g
        · have := E.pos g (bound _ _ (by omega) hA2)
          obtain ⟨c1, c2, c3⟩ := core (Up.of E.nat.2.2.2 cfb fun i hi => by rw [hds]; exact this i (by omega)) bl (fun z => by rw [cfb, z0 z]) (fun z => by rw [cfb, z1 z])
          exact ⟨c1, c2, c3⟩
        · have := E.neg g (bound _ _ (by omega) hA2)
          have hu : Up r.length 0 (ngL (btw p lo hi)) := fun j hj => by
            have e2 := hd_id L R B r w j
            have p2 := Int.mul_neg_of_pos_of_neg (show 0 < R - L by have := E.nat.2.2.2; omega) (this j (by omega))
            rw [cf_ng, cf_ng, cfb, cfb]
            rw [hds] at e2
            generalize hc L R B (w :: r) (j + 1) = a at *
            generalize hc L R B (w :: r) j = c at *
            generalize (R - L) * hc L R B (u :: s) j = d at *
            grind
          obtain ⟨c1, c2, c3⟩ := core hu (by unfold ngL; rw [List.length_map]; exact bl) (fun z => by rw [cf_ng, cfb, z0 z]; rfl) (fun z => by rw [cf_ng, cfb, z1 z]; rfl)
          rw [cg_ng0] at c1 c2 c3
          exact ⟨c1, c2, c3⟩
end Po
theorem nA_le {b : Nat} : ∀ {a : List Int}, (∀ w ∈ a, Bt b w) → nA a ≤ a.length * 2 ^ b
  | [], _ => Nat.zero_le _
  | w :: r, h => by
    have h1 := h w (List.mem_cons_self ..)
    have h2 := nA_le (a := r) fun x hx => h x (List.mem_cons_of_mem _ hx)
    unfold Bt at h1
    show w.natAbs + nA r ≤ (r.length + 1) * 2 ^ b
    rw [Nat.add_mul]
    omega
namespace Po
/-- how small is small enough: a width of 2 to the minus this -/
def dep (N b x f : Nat) : Nat := 3 * N + b + x + 2 * (f * N) + f + 24
/-- a sum of multiples of a polynomial and its derivative that is a number, within bounds -/
structure FB (p : Po) (N b x : Nat) : Prop where
  n0 : p ≠ 0
  hp : B N b p
  bz : ∃ l r c, c ≠ 0 ∧ l * p + r * der p = C c ∧ B (N + 1) x l ∧ B (N + 1) x r
theorem B.ab {n b f : Nat} {p : Po} {q : Rat} (h : B n b p) (hq : Ab q (2 ^ f : Nat)) : Ab (ev q p) ((2 ^ (n + b + f * n) : Nat) : Rat) := by
  refine (ev_ab (Nat.one_le_two_pow) hq p.l).mono (ncast_le.mpr ?_)
  have h1 := nA_le h.bl.2
  have h2 : p.l.length ≤ n := h.1
  have h3 : n < 2 ^ n := Nat.lt_two_pow_self
  rw [← Nat.pow_mul, Nat.pow_add, Nat.pow_add]
  refine Nat.mul_le_mul (Nat.le_trans h1 (Nat.mul_le_mul_right _ (by omega))) (Nat.pow_le_pow_right (by decide) (Nat.mul_le_mul_left _ h2))
theorem FB.thin {p : Po} {N b x f : Nat} (h : FB p N b x) (n2 : 2 ≤ p.len) {lo hi : Rat} (lt : lo < hi) (h1 : Ab lo (2 ^ f : Nat)) (h2 : Ab hi (2 ^ f : Nat)) (hw : (hi - lo) * ((2 ^ dep N b x f : Nat) : Rat) ≤ 1) (hN : N ≤ 100000) : Thin p lo hi := by
  obtain ⟨l, r, c, c0, e, lB, rB⟩ := h.bz
  have hp := h.hp
  have dB := hp.der hN
  have nl : p.len ≤ N := hp.1
  have M : ∀ {y : Po}, B (N + 1) x y → Ab (ev lo y) ((2 ^ (N + 1 + x + f * (N + 1)) : Nat) : Rat) := fun hy => hy.ab h1
  have A1 := nA_le hp.bl.2
  have A2 := nA_le dB.bl.2
  have pl1 : p.l.length ≤ N := hp.1
  have pl2 : (der p).l.length ≤ N := dB.1
  have lN : N < 2 ^ N := Nat.lt_two_pow_self
  have q1 : nA p.l ≤ 2 ^ (N + (17 + b)) := Nat.le_trans A1 (by
    rw [Nat.pow_add]
    exact Nat.mul_le_mul (by omega) (Nat.pow_le_pow_right (by decide) (by omega)))
  have q2 : nA (der p).l ≤ 2 ^ (N + (17 + b)) := Nat.le_trans A2 (by
    rw [Nat.pow_add 2 N]
    exact Nat.mul_le_mul_right _ (by omega))
  -- the number
  have two : (0 : Rat) < ((2 ^ (N + 1 + x + f * (N + 1)) : Nat) : Rat) := by
    have := ncast_lt (a := 0) (b := 2 ^ (N + 1 + x + f * (N + 1)))
    exact this.mpr (Nat.two_pow_pos _)
  obtain ⟨K, hK⟩ : ∃ K : Rat, K = ((2 ^ (N + 1 + x + f * (N + 1)) : Nat) : Rat) := ⟨_, rfl⟩
  rw [← hK] at two
  have ml := M lB
  have mr := M rB
  rw [← hK] at ml mr
  obtain ⟨m, hm⟩ : ∃ m : Rat, m = (4 * K)⁻¹ := ⟨_, rfl⟩
  have k4 : (4 * K) ≠ 0 := by grind
  have mK : 4 * (K * m) = 1 := by
    rw [hm]
    have := Rat.mul_inv_cancel _ k4
    grind
  have m0 : 0 < m := by
    refine Classical.byContradiction fun z => ?_
    have := rmul_nn (a := K) (b := -m) (by grind) (by grind)
    grind
  have hor : ¬ Ab (ev lo p) m ∨ ¬ Ab (ev lo (der p)) m := by
    by_cases a : Ab (ev lo p) m
    · right
      intro a2
      have s := (ml.mul a).add (mr.mul a2)
      have e2 : ev lo l * ev lo p + ev lo r * ev lo (der p) = (c : Rat) := by
        rw [← ev_mul', ← ev_mul', ← ev_add', e, ev_C]
      rw [e2] at s
      have s1 := s.1
      have s2 := s.2
      have c1 : (c : Rat) < ((1 : Int) : Rat) := by
        show (c : Rat) < 1
        grind
      have c2 : ((-1 : Int) : Rat) < (c : Rat) := by
        show (-1 : Rat) < (c : Rat)
        grind
      have := icast_lt.mp c1
      have := icast_lt.mp c2
      omega
    · exact .inl a
  refine thin_go n2 (F := 2 ^ f) lt (Nat.one_le_two_pow) h1 h2 hor q1 q2 ?_
  -- the width
  have h3 : p.len * 2 ^ (N + (17 + b)) * (2 ^ f) ^ p.len ≤ 2 ^ (N + (N + (17 + b)) + f * N) := by
    rw [← Nat.pow_mul, Nat.pow_add 2 (N + (N + (17 + b))), Nat.pow_add 2 N (N + (17 + b))]
    exact Nat.mul_le_mul (Nat.mul_le_mul_right _ (by omega)) (Nat.pow_le_pow_right (by decide) (Nat.mul_le_mul_left _ nl))
  have h4 : 2 ^ (N + (N + (17 + b)) + f * N) * (8 * 2 ^ (N + 1 + x + f * (N + 1))) ≤ 2 ^ dep N b x f := by
    rw [show 8 = 2 ^ 3 from rfl, ← Nat.pow_add, ← Nat.pow_add]
    refine Nat.pow_le_pow_right (by decide) ?_
    unfold dep
    rw [Nat.mul_add f N 1]
    omega
  have w0 : (0 : Rat) ≤ hi - lo := by grind
  have h5 := rmul_le w0 (ncast_le.mpr h3)
  have h6 := rmul_le w0 (ncast_le.mpr h4)
  rw [Rat.natCast_mul, Rat.natCast_mul, ← hK] at h6
  have h7 : ((8 : Nat) : Rat) = 8 := rfl
  rw [h7] at h6
  generalize ((2 ^ (N + (N + (17 + b)) + f * N) : Nat) : Rat) = T at *
  generalize ((p.len * 2 ^ (N + (17 + b)) * (2 ^ f) ^ p.len : Nat) : Rat) = T2 at *
  have h8 : (hi - lo) * T * (8 * K) ≤ 1 := by grind
  refine Classical.byContradiction fun z => ?_
  have z2 : m ≤ (hi - lo) * T := by grind
  have h9 := rmul_nn (a := (hi - lo) * T - m) (b := 8 * K) (by grind) (by grind)
  grind
end Po
end Rc

/-! Weights seen from elsewhere: sizes by places; no root beyond a bound. -/
namespace Rc
open PySem
/-- weights, each times 2 to c times its place, are below 2 to K -/
def PB (K c : Nat) (a : List Int) : Prop := ∀ j, (cf a j).natAbs * 2 ^ (c * j) < 2 ^ K
theorem PB.tl {K c : Nat} {w : Int} {r : List Int} (h : PB K c (w :: r)) : PB K c r := fun j => by
  have := h (j + 1)
  rw [cf_s] at this
  exact Nat.lt_of_le_of_lt (Nat.mul_le_mul_left _ (Nat.pow_le_pow_right (by decide) (Nat.mul_le_mul_left _ (by omega)))) this
theorem PB.mono {K M c : Nat} {a : List Int} (h : PB K c a) (g : K ≤ M) : PB M c a := fun j => Nat.lt_of_lt_of_le (h j) (Nat.pow_le_pow_right (by decide) g)
theorem PB.of {n b c : Nat} {a : List Int} (h : Bl n b a) : PB (b + n * c) c a := fun j => by
  by_cases hj : j < a.length
  · have h1 : Bt b (cf a j) := by
      rw [cf_lt hj]
      exact h.2 _ (List.getElem_mem hj)
    unfold Bt at h1
    have h2 := h.1
    have h3 : 2 ^ (c * j) ≤ 2 ^ (n * c) := Nat.pow_le_pow_right (by decide) (by rw [Nat.mul_comm]; exact Nat.mul_le_mul_right _ (by omega))
    have h4 := Nat.mul_le_mul_left (cf a j).natAbs h3
    have h5 := Nat.mul_lt_mul_of_pos_right h1 (Nat.two_pow_pos (n * c))
    rw [Nat.pow_add]
    omega
  · rw [cf_ge (by omega)]
    have := Nat.two_pow_pos (b + n * c)
    simpa using this
theorem PB.bt {K c : Nat} {a : List Int} (h : PB K c a) : ∀ w ∈ a, Bt K w := fun w hw => by
  obtain ⟨i, hi, rfl⟩ := List.getElem_of_mem hw
  have := h i
  rw [cf_lt hi] at this
  unfold Bt
  have h1 := Nat.two_pow_pos (c * i)
  have h2 : a[i].natAbs * 1 ≤ a[i].natAbs * 2 ^ (c * i) := Nat.mul_le_mul_left _ h1
  omega
theorem syn_pbm {K c : Nat} {z : Int} (hz : Bt c z) : ∀ (t : List Int) (d : Nat), (∀ i, (cf t i).natAbs * 2 ^ (c * (i + d)) < 2 ^ K) → ∀ i, (cf (syn z t) i).natAbs * 2 ^ (c * (i + d)) ≤ t.length * 2 ^ K
  | [], d, _, i => by
    show (cf [] i).natAbs * _ ≤ _
    rw [cf_nil]
    simp
  | v :: t, d, ht, i => by
    have i2 := syn_pbm hz t (d + 1) fun i => by
      have := ht (i + 1)
      rw [cf_s, show i + 1 + d = i + (d + 1) by omega] at this
      exact this
    have e3 : syn z (v :: t) = (v + z * (syn z t).headD 0) :: syn z t := rfl
    have hd3 : (syn z t).headD 0 = cf (syn z t) 0 := by cases syn z t <;> rfl
    rw [e3]
    rw [List.length_cons, Nat.add_mul, Nat.one_mul]
    cases i with
    | zero =>
      rw [cf_0, hd3]
      have i20 := i2 0
      have b1 := ht 0
      rw [cf_0] at b1
      have b2 : (v + z * cf (syn z t) 0).natAbs ≤ v.natAbs + z.natAbs * (cf (syn z t) 0).natAbs := by
        have := Int.natAbs_add_le v (z * cf (syn z t) 0)
        rw [Int.natAbs_mul] at this
        exact this
      have b3 : z.natAbs * (cf (syn z t) 0).natAbs * 2 ^ (c * (0 + d)) ≤ (cf (syn z t) 0).natAbs * 2 ^ (c * (0 + (d + 1))) := by
        rw [Nat.zero_add, Nat.zero_add, Nat.mul_add, Nat.pow_add, Nat.mul_one]
        have : z.natAbs ≤ 2 ^ c := Nat.le_of_lt hz
        calc z.natAbs * (cf (syn z t) 0).natAbs * 2 ^ (c * d) ≤ 2 ^ c * (cf (syn z t) 0).natAbs * 2 ^ (c * d) := Nat.mul_le_mul_right _ (Nat.mul_le_mul_right _ this)
          _ = (cf (syn z t) 0).natAbs * (2 ^ (c * d) * 2 ^ c) := by grind
      have b4 := Nat.mul_le_mul_right (2 ^ (c * (0 + d))) b2
      rw [Nat.add_mul] at b4
      omega
    | succ i =>
      rw [cf_s]
      have i3 := i2 i
      rw [show i + 1 + d = i + (d + 1) by omega]
      have := Nat.two_pow_pos K
      omega
theorem syn_pb {K c L : Nat} {z : Int} {a : List Int} (hz : Bt c z) (h : PB K c a) (hl : a.length < 2 ^ L) : PB (K + L) c (syn z a) := fun j => by
  have := syn_pbm hz a 0 h j
  rw [Nat.add_zero] at this
  have h2 : a.length * 2 ^ K < 2 ^ L * 2 ^ K := Nat.mul_lt_mul_of_pos_right hl (Nat.two_pow_pos K)
  rw [Nat.add_comm, Nat.pow_add]
  omega
theorem push_pb {c L : Nat} {z : Int} (hz : Bt c z) : ∀ (n K : Nat) (a : List Int), PB K c a → a.length < 2 ^ L → ∀ w ∈ pushN z n a, Bt (K + n * L) w
  | 0, K, a, h, _, w, hw => by
    have := h.bt w hw
    exact this.mono (by omega)
  | n + 1, K, a, h, hl, w, hw => by
    have hs := syn_pb hz h hl
    have sl := syn_len z a
    have hw2 : w ∈ (match syn z a with
      | [] => []
      | v :: t => v :: pushN z n t) := hw
    cases e : syn z a with
    | nil => rw [e] at hw2; cases hw2
    | cons v t =>
      rw [e] at hw2 hs sl
      rw [List.length_cons] at sl
      rcases List.mem_cons.mp hw2 with rfl | g
      · exact (hs.bt w (List.mem_cons_self ..)).mono (by rw [Nat.add_mul]; omega)
      · exact (push_pb (L := L) hz n (K + L) t hs.tl (by omega) w g).mono (by rw [Nat.add_mul]; omega)
theorem pushL_pb {b c n : Nat} {z : Int} {a : List Int} (hz : Bt c z) (ha : Bl n b a) : Bl n (b + n * c + n * n) (pushL z a) := ⟨by rw [pushL_len]; exact ha.1, fun w hw => by
  have l := ha.1
  have := push_pb hz a.length (b + n * c) a (PB.of ha) (L := n) (Nat.lt_of_le_of_lt l Nat.lt_two_pow_self) w hw
  have m : a.length * n ≤ n * n := Nat.mul_le_mul_right _ l
  exact this.mono (by omega)⟩
/-- how many figures the weights of a polynomial have, seen between two fractions of s figures -/
def btB (n b s : Nat) : Nat := b + 9 * (n * s) + 2 * (n * n) + 4 * n + 2
theorem bl_bet2 {n b s : Nat} {L R B : Int} {p : List Int} (hp : Bl n b p) (hL : Bt (3 * s) L) (hR : Bt (3 * s) R) (hB : Bt (3 * s) B) : Bl n (btB n b s) (betL L R B p) := by
  have b1 := bl_spr hB hp
  have b2 := pushL_pb hL b1
  have wB : Bt (3 * s + 1) (R - L) := Bt.sub hR hL
  have b3 := bl_str wB b2
  have b4 := bl_rev (pushL_pb (z := 1) (c := 1) (bt_c (by decide)) (bl_rev b3))
  refine b4.mono (Nat.le_refl _) ?_
  unfold btB
  rw [Nat.mul_add n (3 * s) 1, show n * (3 * s) = 3 * (n * s) by grind]
  omega
namespace Po
theorem btw_bt2 {n b s : Nat} {p : Po} {lo hi : Rat} (hp : B n b p) (h1 : Sz s lo) (h2 : Sz s hi) : Bl n (btB n b s) (btw p lo hi) := by
  obtain ⟨g0, B0, d1, d2, BB⟩ := lcB_ok (s := s) (denP lo) (denP hi) h1.2 h2.2
  obtain ⟨x, hx⟩ := d1
  obtain ⟨y, hy⟩ := d2
  have q1 : lo.num * lcB lo.den hi.den / lo.den = lo.num * x := by rw [hx, show lo.num * ((lo.den : Int) * x) = (lo.den : Int) * (lo.num * x) by grind, Int.mul_ediv_cancel_left _ (den0 lo)]
  have q2 : hi.num * lcB lo.den hi.den / hi.den = hi.num * y := by rw [hy, show hi.num * ((hi.den : Int) * y) = (hi.den : Int) * (hi.num * y) by grind, Int.mul_ediv_cancel_left _ (den0 hi)]
  unfold btw
  rw [q1, q2]
  have xB : Bt (2 * s) x := bt_quot BB hx (den0 lo)
  have yB : Bt (2 * s) y := bt_quot BB hy (den0 hi)
  exact bl_trim (bl_bet2 hp.bl ((Bt.mul h1.1 xB).mono (by omega)) ((Bt.mul h2.1 yB).mono (by omega)) (BB.mono (by omega)))
end Po
/-! ### no root beyond a bound -/
theorem syn_up {F : Int} (hF : 1 ≤ F) : ∀ (a : List Int) (M : Int), (∀ w ∈ a, -M ≤ w) → a ≠ [] → (∀ h, M < (F - 1) * a.getLast h) → (∀ h, 0 < a.getLast h) → NN (syn F a) ∧ ∀ h, a.getLast h ≤ (syn F a).headD 0
  | [], _, _, h, _, _ => absurd rfl h
  | [w], M, _, _, h1, h2 => by
    have e : syn F [w] = [w + F * 0] := rfl
    rw [e]
    have := h2 (by simp)
    rw [List.getLast_singleton] at this
    refine ⟨fun x hx => ?_, fun h => ?_⟩
    · rw [List.mem_singleton] at hx
      omega
    · rw [List.getLast_singleton]
      show w ≤ w + F * 0
      omega
  | w :: u :: s, M, hw, _, h1, h2 => by
    have ne : u :: s ≠ [] := by simp
    have l : (w :: u :: s).getLast (by simp) = (u :: s).getLast ne := List.getLast_cons ne
    have g1 := h1 (by simp)
    have g2 := h2 (by simp)
    rw [l] at g1 g2
    obtain ⟨i1, i2⟩ := syn_up hF (u :: s) M (fun x hx => hw x (List.mem_cons_of_mem _ hx)) ne (fun _ => g1) (fun _ => g2)
    have i3 := i2 ne
    have e : syn F (w :: u :: s) = (w + F * (syn F (u :: s)).headD 0) :: syn F (u :: s) := rfl
    have w1 := hw w (List.mem_cons_self ..)
    generalize (syn F (u :: s)).headD 0 = t at *
    generalize (u :: s).getLast ne = v at *
    have m1 : (F - 1) * v ≤ (F - 1) * t := Int.mul_le_mul_of_nonneg_left i3 (by omega)
    have m2 : F * t = (F - 1) * t + t := by grind
    refine ⟨?_, fun h => ?_⟩
    · rw [e]
      exact NN.cons (by omega) i1
    · rw [e, l]
      show v ≤ w + F * t
      omega
theorem syn_nn {F : Int} (hF : 0 ≤ F) : ∀ (a : List Int), NN a → NN (syn F a)
  | [], h => h
  | w :: r, h => by
    have i := syn_nn hF r h.tl
    have e : syn F (w :: r) = (w + F * (syn F r).headD 0) :: syn F r := rfl
    rw [e]
    have hh : 0 ≤ (syn F r).headD 0 := by
      cases e2 : syn F r with
      | nil => exact Int.le_refl 0
      | cons x t => exact i x (by rw [e2]; exact List.mem_cons_self ..)
    have := Int.mul_nonneg hF hh
    have := h w (List.mem_cons_self ..)
    exact NN.cons (by omega) i
theorem pushN_nn {F : Int} (hF : 0 ≤ F) : ∀ (n : Nat) (a : List Int), NN a → NN (pushN F n a)
  | 0, a, h => h
  | n + 1, a, h => by
    have i := syn_nn hF a h
    show NN (match syn F a with
      | [] => []
      | v :: t => v :: pushN F n t)
    cases e : syn F a with
    | nil => exact fun x hx => by cases hx
    | cons v t =>
      rw [e] at i
      exact NN.cons (i v (List.mem_cons_self ..)) (pushN_nn hF n t i.tl)
theorem pushL_nn {F M : Int} {a : List Int} (hF : 1 ≤ F) (h1 : ∀ w ∈ a, -M ≤ w) (h2 : ∀ h, M < (F - 1) * a.getLast h) (h3 : ∀ h, 0 < a.getLast h) : NN (pushL F a) := by
  unfold pushL
  cases a with
  | nil => exact fun x hx => by cases hx
  | cons w r =>
    have i := (syn_up hF (w :: r) M h1 (by simp) h2 h3).1
    show NN (match syn F (w :: r) with
      | [] => []
      | v :: t => v :: pushN F r.length t)
    cases e : syn F (w :: r) with
    | nil => exact fun x hx => by cases hx
    | cons v t =>
      rw [e] at i
      exact NN.cons (i v (List.mem_cons_self ..)) (pushN_nn (by omega) _ t i.tl)
theorem syn_ng (F : Int) : ∀ a : List Int, syn F (ngL a) = ngL (syn F a)
  | [] => rfl
  | w :: r => by
    show (-w + F * (syn F (ngL r)).headD 0) :: syn F (ngL r) = -(w + F * (syn F r).headD 0) :: ngL (syn F r)
    rw [syn_ng F r]
    congr 1
    have : (ngL (syn F r)).headD 0 = -(syn F r).headD 0 := by cases syn F r <;> rfl
    rw [this, Int.mul_neg]
    omega
theorem pushN_ng (F : Int) : ∀ (n : Nat) (a : List Int), pushN F n (ngL a) = ngL (pushN F n a)
  | 0, a => rfl
  | n + 1, a => by
    show (match syn F (ngL a) with
      | [] => []
      | v :: t => v :: pushN F n t) = ngL (match syn F a with
      | [] => []
      | v :: t => v :: pushN F n t)
    rw [syn_ng]
    cases syn F a with
    | nil => rfl
    | cons v t =>
      show -v :: pushN F n (ngL t) = -v :: ngL (pushN F n t)
      rw [pushN_ng F n t]
theorem pushL_ng (F : Int) (a : List Int) : pushL F (ngL a) = ngL (pushL F a) := by
  unfold pushL
  rw [pushN_ng]
  congr 1
  unfold ngL
  rw [List.length_map]
theorem strL_nn {c : Int} (hc : 0 ≤ c) : ∀ (a : List Int) (s : Int), 0 ≤ s → NN a → NN (strL c s a)
  | [], _, _, h => h
  | w :: r, s, hs, h => NN.cons (Int.mul_nonneg (h w (List.mem_cons_self ..)) hs) (strL_nn hc r (s * c) (Int.mul_nonneg hs hc) h.tl)
theorem strL_ng (c : Int) : ∀ (a : List Int) (s : Int), strL c s (ngL a) = ngL (strL c s a)
  | [], _ => rfl
  | w :: r, s => by
    show (-w * s) :: strL c (s * c) (ngL r) = -(w * s) :: ngL (strL c (s * c) r)
    rw [strL_ng c r, Int.neg_mul]
theorem nn_trim {a : List Int} (h : NN a) : NN (trim a) := nn_cf fun i _ => by
  rw [cf_trim]
  by_cases hi : i < a.length
  · rw [cf_lt hi]
    exact h _ (List.getElem_mem hi)
  · rw [cf_ge (by omega)]
    omega
theorem ng_last {a : List Int} (h : ngL a ≠ []) (g : a ≠ []) : (ngL a).getLast h = -a.getLast g := List.getLast_map h
theorem trim_ng (a : List Int) : trim (ngL a) = ngL (trim a) := by
  have h : Pn (ngL (trim a)) := by
    have hl := trim_last a
    cases e : trim a with
    | nil => rfl
    | cons w r =>
      rw [e] at hl
      unfold Pn
      have e2 : ngL (w :: r) = (ngL (w :: r)).dropLast ++ [(ngL (w :: r)).getLast (by unfold ngL; simp)] := (List.dropLast_concat_getLast _).symm
      rw [e2]
      refine trim_snoc ?_
      rw [ng_last (by unfold ngL; simp) (by simp)]
      intro z
      apply hl
      rw [List.getLast?_eq_some_getLast (by simp)]
      congr 1
      omega
  refine pn_ext (pn_trim _) h fun n => ?_
  rw [cf_trim, cf_ng, cf_ng, cf_trim]
theorem cg_nn {a : List Int} (h : NN a ∨ NN (ngL a)) : cg 0 a = 0 := by
  rcases h with h | h
  · exact cg_allp a 0 (by omega) h
  · rw [← cg_ng0]
    exact cg_allp _ 0 (by omega) h
namespace Po
def abv (p : Po) (c : Rat) : List Int := trim (abvL c.num c.den c.den p.l)
def blw (p : Po) (c : Rat) : List Int := trim (abvL c.num c.den (-c.den) p.l)
/-- so far out that no root comes up to it -/
def Far (p : Po) (F : Int) : Prop := 1 ≤ F ∧ ∀ w ∈ p.l, (w.natAbs : Int) < (F - 1) * p.lc.natAbs
theorem spr1 (p : List Int) : sprL 1 p = p := by
  unfold sprL
  have : ∀ (a : List Int), strL 1 1 a = a := by
    intro a
    induction a with
    | nil => rfl
    | cons w r ih =>
      show w * 1 :: strL 1 (1 * 1) r = _
      rw [Int.mul_one, Int.mul_one, ih]
  rw [this, List.reverse_reverse]
theorem abv_far {p : Po} {F : Int} (h : Far p F) (p0 : p ≠ 0) : cg 0 (abv p F) = 0 := by
  have e1 : (F : Rat).num = F := rfl
  have e2 : (((F : Rat).den : Nat) : Int) = 1 := rfl
  unfold abv
  rw [e1, e2]
  unfold abvL
  rw [spr1]
  have l0 := ne0_l.mp p0
  have lcn := lc_ne p0
  have lst := last_l l0
  refine cg_nn ?_
  obtain ⟨F1, hw⟩ := h
  have pos : ∀ {a : List Int} (a0 : a ≠ []) {v : Int}, a.getLast a0 = v → 0 < v → (∀ w ∈ a, (w.natAbs : Int) < (F - 1) * v.natAbs) → NN (trim (strL 1 1 (pushL F a))) := fun {a} a0 {v} e hv hw => by
    refine nn_trim (strL_nn (by decide) _ 1 (by decide) (pushL_nn (M := (F - 1) * v - 1) F1 (fun w hm => ?_) (fun _ => by rw [e]; omega) (fun _ => by rw [e]; exact hv)))
    have := hw w hm
    rw [show (v.natAbs : Int) = v by omega] at this
    omega
  by_cases hp : 0 < p.lc
  · exact .inl (pos l0 lst hp hw)
  · right
    rw [← trim_ng, ← strL_ng, ← pushL_ng]
    have n0 : ngL p.l ≠ [] := by unfold ngL; simpa using l0
    refine pos n0 (v := -p.lc) ?_ (by omega) fun w hm => ?_
    · rw [ng_last n0 l0, lst]
    · obtain ⟨x, hx, rfl⟩ := List.mem_map.mp hm
      have := hw x hx
      rw [Int.natAbs_neg, Int.natAbs_neg]
      exact this
theorem trim_ev {a b : List Int} (h : ∀ x : Nat, hT (x : Int) 1 a = hT (x : Int) 1 b) : trim a = trim b := by
  have : (⟨trim a, pn_trim a⟩ : Po) = ⟨trim b, pn_trim b⟩ := at1_nat fun m => by
    show hT _ 1 (trim a) = hT _ 1 (trim b)
    rw [hT_trim, hT_trim]
    exact h m
  exact congrArg Po.l this
theorem blw_far {p : Po} {F : Int} (h : Far p F) (p0 : p ≠ 0) : cg 0 (blw p (-F : Int)) = 0 := by
  have e1 : ((-F : Int) : Rat).num = -F := rfl
  have e2 : (((-F : Int) : Rat).den : Int) = 1 := rfl
  have l0 := ne0_l.mp p0
  have lst := last_l l0
  -- turned about
  obtain ⟨q, hq⟩ : ∃ q : Po, q.l = strL (-1) 1 p.l := by
    have ab : ∀ (a : List Int) (s : Int), s ≠ 0 → ∀ h, a.getLast h ≠ 0 → ∀ h2, (strL (-1) s a).getLast h2 ≠ 0 := by
      intro a
      induction a with
      | nil => intro s _ h; exact absurd rfl h
      | cons w r ih =>
        intro s s0 h hl h2
        cases r with
        | nil =>
          show w * s ≠ 0
          exact Int.mul_ne_zero hl s0
        | cons u t =>
          have e : strL (-1) s (w :: u :: t) = w * s :: strL (-1) (s * -1) (u :: t) := rfl
          have n2 : strL (-1) (s * -1) (u :: t) ≠ [] := by
            show _ :: _ ≠ []
            simp
          have : (strL (-1) s (w :: u :: t)).getLast h2 = (strL (-1) (s * -1) (u :: t)).getLast n2 := List.getLast_cons n2
          rw [this]
          exact ih (s * -1) (by omega) (by simp) (by rw [List.getLast_cons (by simp)] at hl; exact hl) n2
    refine ⟨⟨strL (-1) 1 p.l, ?_⟩, rfl⟩
    have n0 : strL (-1) 1 p.l ≠ [] := by
      have := strL_len (-1) p.l 1
      intro z
      rw [z] at this
      exact l0 (List.length_eq_zero_iff.mp this.symm)
    unfold Pn
    conv => lhs; rw [← List.dropLast_concat_getLast n0]
    rw [trim_snoc (ab p.l 1 (by decide) l0 (by rw [lst]; exact lc_ne p0) n0)]
    exact List.dropLast_concat_getLast n0
  have mem : ∀ (a : List Int) (s : Int), (s = 1 ∨ s = -1) → ∀ w ∈ strL (-1) s a, ∃ x ∈ a, w.natAbs = x.natAbs := by
    intro a
    induction a with
    | nil => intro s _ w hw; cases hw
    | cons v r ih =>
      intro s hs w hw
      rcases List.mem_cons.mp hw with rfl | hw
      · exact ⟨v, List.mem_cons_self .., by rcases hs with rfl | rfl <;> omega⟩
      · obtain ⟨x, hx, e⟩ := ih (s * -1) (by omega) w hw
        exact ⟨x, List.mem_cons_of_mem _ hx, e⟩
  have q0 : q ≠ 0 := ne0_l.mpr (by
    rw [hq]
    intro z
    have := strL_len (-1) p.l 1
    rw [z] at this
    exact l0 (List.length_eq_zero_iff.mp this.symm))
  have lcq : q.lc.natAbs = p.lc.natAbs := by
    have key : ∀ (a : List Int) (s : Int), (s = 1 ∨ s = -1) → ∀ h h2, ((strL (-1) s a).getLast h2).natAbs = (a.getLast h).natAbs := by
      intro a
      induction a with
      | nil => intro s _ h; exact absurd rfl h
      | cons w r ih =>
        intro s hs h h2
        cases r with
        | nil =>
          show (w * s).natAbs = w.natAbs
          rcases hs with rfl | rfl <;> omega
        | cons u t =>
          have n2 : strL (-1) (s * -1) (u :: t) ≠ [] := by
            show _ :: _ ≠ []
            simp
          have : (strL (-1) s (w :: u :: t)).getLast h2 = (strL (-1) (s * -1) (u :: t)).getLast n2 := List.getLast_cons n2
          rw [this, ih (s * -1) (by omega) (by simp) n2, List.getLast_cons (a := w) (l := u :: t) (by simp)]
    have n2 := ne0_l.mp q0
    rw [← last_l n2, ← lst]
    have := key p.l 1 (.inl rfl) l0 (by rw [← hq]; exact n2)
    simp only [hq]
    exact this
  have fq : Far q F := ⟨h.1, fun w hw => by
    rw [hq] at hw
    obtain ⟨x, hx, e⟩ := mem p.l 1 (.inl rfl) w hw
    rw [e, lcq]
    exact h.2 x hx⟩
  have := abv_far fq q0
  have e3 : blw p (-F : Int) = abv q F := by
    unfold blw abv
    rw [e1, e2]
    refine trim_ev fun x => ?_
    rw [abvL_ev, abvL_ev, hq, strL_ev]
    show _ = 1 * hT (-1 * ((1 : Int) * x + F * 1)) ((1 : Int) * 1) p.l
    rw [Int.one_mul, show (-1 : Int) * (1 * (x : Int) + F * 1) = -1 * (x : Int) + -F * 1 by omega, Int.one_mul]
  rw [e3]
  exact this
end Po
end Rc

/-! Papers of quotients. -/
namespace Rc
open PySem
/-- a polynomial of some size, or what is none -/
def PD (n b : Nat) (d : D) : Prop := (isPolyV d = false ∧ Sh 3 d ∧ ∀ xs, d = .tuple xs → xs.length ≤ 1000) ∨ ∃ a : Po, d = tz a.l ∧ Po.B n b a
theorem PD.sh {n b : Nat} {d : D} (h : PD n b d) : Sh 3 d := by
  rcases h with ⟨_, h, _⟩ | ⟨a, rfl, _⟩
  · exact h
  · exact shTup (shInts a.l)
theorem PD.len {n b : Nat} {d : D} (hn : n ≤ 1000) (h : PD n b d) : ∀ xs, d = .tuple xs → xs.length ≤ 1000 := by
  rcases h with ⟨_, _, h⟩ | ⟨a, rfl, h⟩
  · exact h
  · intro xs e
    cases e
    rw [List.length_map]
    exact Nat.le_trans h.1 hn
theorem PD.mono {n b m c : Nat} {d : D} (h : PD n b d) (h1 : n ≤ m) (h2 : b ≤ c) : PD m c d := h.elim .inl fun ⟨a, e, g⟩ => .inr ⟨a, e, g.mono h1 h2⟩
theorem PD.po {n b : Nat} {a : Po} (h : Po.B n b a) : PD n b (tz a.l) := .inr ⟨a, rfl, h⟩
/-- a number of some size, or what is no whole number -/
def XD (b : Nat) (d : D) : Prop := (isW d = false ∧ ∀ i, d ≠ .int i) ∨ ∃ c : Int, d = .int c ∧ Bt b c
/-- whether a paper is right -/
def QB (p q t b l r : Po) (c : Int) : Bool := decide (c ≠ 0) && ((decide (0 < b.lc) && decide (Nat.gcd t.cont b.cont = 1)) && (decide ((t * q).l = (b * p).l) && decide ((l * t + r * b).l = [c])))
theorem QB_of {p q t b l r : Po} {c : Int} (c0 : c ≠ 0) (g : Po.Qf t b) (e : t * q = b * p) (h : l * t + r * b = Po.C c) : QB p q t b l r c = true := by
  unfold QB
  rw [decide_eq_true c0, decide_eq_true g.lc, decide_eq_true (show Nat.gcd t.cont b.cont = 1 from g.co _ (Nat.gcd_dvd_left ..) (Nat.gcd_dvd_right ..)), decide_eq_true (congrArg Po.l e), h, decide_eq_true (show (Po.C c).l = [c] from Po.C_l c0)]
  rfl
theorem QB_qf {p q t b l r : Po} {c : Int} (h : QB p q t b l r c = true) : Po.Qf t b ∧ t * q = b * p := by
  unfold QB at h
  simp only [Bool.and_eq_true, decide_eq_true_eq] at h
  obtain ⟨c0, ⟨h1, h2⟩, h3, h4⟩ := h
  have e4 : l * t + r * b = Po.C c := Po.extL (h4.trans (show (Po.C c).l = [c] from Po.C_l c0).symm)
  exact ⟨⟨h1, fun d x y => Nat.dvd_one.mp (h2 ▸ Nat.dvd_gcd x y), l, r, c, c0, e4⟩, Po.extL h3⟩
theorem QB_uniq {p q t b l r t0 b0 : Po} {c : Int} (h : QB p q t b l r c = true) (g : Po.Qf t0 b0) (e : t0 * q = b0 * p) (q0 : q ≠ 0) : t = t0 ∧ b = b0 := by
  obtain ⟨h1, h2⟩ := QB_qf h
  refine h1.uniq g (Po.cancel q0 ?_)
  have e1 : q * (t * b0) = (t * q) * b0 := by grind
  have e2 : q * (t0 * b) = (t0 * q) * b := by grind
  rw [e1, e2, h2, e]
  grind
theorem gcdF (xs ys : List Int) : (xs ++ ys).foldl (fun g x => Int.gcd g x) 0 = Nat.gcd (xs.foldl (fun g x => Int.gcd g x) 0) (ys.foldl (fun g x => Int.gcd g x) 0) := Po.nat_ext fun d => by
  rw [gcdG, Nat.dvd_gcd_iff, gcdG, gcdG]
  constructor
  · rintro ⟨h0, h⟩
    exact ⟨⟨h0, fun x hx => h x (List.mem_append_left _ hx)⟩, h0, fun x hx => h x (List.mem_append_right _ hx)⟩
  · rintro ⟨⟨h0, h⟩, _, g⟩
    exact ⟨h0, fun x hx => (List.mem_append.mp hx).elim (h x) (g x)⟩
theorem eqv_nil {xs : List D} : PyData.eqv (.list xs) (.list []) = decide (xs = []) := by
  cases xs <;> rfl
theorem all4 {a b c d : Bool} (h : ([a, b, c, d].all id) = false) : a = false ∨ b = false ∨ c = false ∨ d = false := by
  cases a <;> cases b <;> cases c <;> cases d <;> simp at h ⊢
theorem lc_fltD {t : Tg} {ε : Ev} {C : Ev → (Bool → Ev → Prop) → Prop} {E : Ev → (D → Ev → Prop) → Prop} {K : List D → Prop} {q : Tok (C, E, K)} (p : D → Bool) {xs : List D}
    (h : ∀ a ∈ xs, ∀ (k1 : D → Ev → Prop) (k0 : Prop), (p a = true → ∀ e, k1 a e) → (p a = false → k0) → tgW t a (wipeE (blind ε) (tgs t)) fun ε1 => C ε1 fun b ε2 => if b = true then E ε2 k1 else k0)
    (hl : xs.length ≤ 16777216) (hk : K (xs.filter p)) : lcF t C E K q ε xs [] := by
  have := lc_flt (K := K) (q := q) (t := t) (ε := ε) (fun x : D => x) (fun x : D => x) p (as := xs) h hl (by rw [List.map_id']; exact hk)
  rwa [List.map_id'] at this
theorem filter_isW (xs : List D) : (xs.filter fun x => !isW x) = [] ↔ (asInts xs).isSome = true := by
  rw [← all_isW, List.filter_eq_nil_iff, List.all_eq_true]
  constructor
  · intro h y hy
    obtain ⟨x, hx, rfl⟩ := List.mem_map.mp hy
    have := h x hx
    simpa using this
  · intro h x hx
    have := h (isW x) (List.mem_map.mpr ⟨x, hx, rfl⟩)
    simpa using this
end Rc
namespace Rc
open PySem
theorem Sh.mono {n m : Nat} {d : D} (h : Sh n d) (q : n ≤ m) : Sh m d := ⟨h.1, Nat.le_trans h.2 q⟩
end Rc
namespace Rc
theorem pn_of_last {xs : List Int} (h : xs.getLast? ≠ some 0) : Pn xs := by
  by_cases e : xs = []
  · rw [e]
    rfl
  · have := List.dropLast_concat_getLast e
    unfold Pn
    rw [← this]
    exact trim_snoc fun z => h (by rw [List.getLast?_eq_some_getLast e, z])
end Rc
namespace Rc
open PySem
theorem cut52 {a b c d e : D} : cut [a, b, c, d, e] none (some 2) = [a, b] := rfl
theorem cut54 {a b c d e : D} : cut [a, b, c, d, e] none (some 4) = [a, b, c, d] := rfl
theorem QB_c0 {p q t b l r : Po} : QB p q t b l r 0 = false := rfl
theorem QB_2 {p q t b l r : Po} {c : Int} : QB p q (Po.C 2 * t) (Po.C 2 * b) l r c = false := by
  have e : ¬ Nat.gcd (Po.C 2 * t).cont (Po.C 2 * b).cont = 1 := by
    rw [Po.cont_Cmul, Po.cont_Cmul, Nat.gcd_mul_left]
    show ¬ 2 * Nat.gcd t.cont b.cont = 1
    omega
  unfold QB
  rw [decide_eq_false e]
  simp
theorem QB_m {p q t b l r : Po} {c : Int} (h : 0 < b.lc) : QB p q (Po.C (-1) * t) (Po.C (-1) * b) l r c = false := by
  unfold QB
  have e : ¬ 0 < (Po.C (-1) * b).lc := by
    rw [Po.lc_Cmul]
    omega
  rw [decide_eq_false e]
  simp
end Rc

/-! Cuts: what is told, and the stack that is worked off. -/
namespace Rc
open PySem
namespace Po
/-- cuts that are right for a polynomial -/
structure RR (p : Po) (cs : List Rat) : Prop where
  ne : cs ≠ []
  st : ∀ i (h : i + 1 < cs.length), cs[i] < cs[i + 1] ∧ cg 0 (btw p cs[i] cs[i + 1]) ≤ 1
  bl : cg 0 (blw p (cs.headD 0)) = 0
  ab : cg 0 (abv p (cs.getLastD 0)) = 0
end Po
/-- a fraction over 2 to d, within 2 to f -/
def Dy (f d : Nat) (q : Rat) : Prop := Ab q ((2 ^ f : Nat) : Rat) ∧ ∃ m : Int, q * ((2 ^ d : Nat) : Rat) = m
theorem pow2_pos (d : Nat) : (0 : Rat) < ((2 ^ d : Nat) : Rat) := by
  have := ncast_lt (a := 0) (b := 2 ^ d)
  exact this.mpr (Nat.two_pow_pos _)
theorem pow2_s (d : Nat) : ((2 ^ (d + 1) : Nat) : Rat) = ((2 ^ d : Nat) : Rat) * 2 := by
  rw [Nat.pow_succ, Rat.natCast_mul]
  rfl
theorem Dy.up {f d : Nat} {q : Rat} (h : Dy f d q) : Dy f (d + 1) q := by
  obtain ⟨h1, m, hm⟩ := h
  refine ⟨h1, m * 2, ?_⟩
  rw [pow2_s, Rat.intCast_mul, ← hm]
  show _ = _ * (2 : Rat)
  grind
theorem Dy.mono {f d e : Nat} {q : Rat} (h : Dy f d q) (l : d ≤ e) : Dy f e q := by
  obtain ⟨j, rfl⟩ : ∃ j, e = d + j := ⟨e - d, by omega⟩
  induction j with
  | zero => exact h
  | succ j ih => exact (ih (by omega)).up
theorem Dy.mid {f d : Nat} {p q : Rat} (h : Dy f d p) (g : Dy f d q) : Dy f (d + 1) ((p + q) / 2) := by
  obtain ⟨h1, m, hm⟩ := h
  obtain ⟨g1, n, hn⟩ := g
  have a1 := h1.1
  have a2 := h1.2
  have a3 := g1.1
  have a4 := g1.2
  refine ⟨⟨by grind, by grind⟩, m + n, ?_⟩
  rw [pow2_s, Rat.intCast_add, ← hm, ← hn]
  grind
theorem Dy.sz {f d : Nat} {q : Rat} (h : Dy f d q) : Sz (f + d + 1) q := by
  obtain ⟨h1, m, hm⟩ := h
  have p0 := pow2_pos d
  have b0 : ((2 ^ d : Nat) : Int) ≠ 0 := by have := Nat.two_pow_pos d; omega
  have e : q = Rat.divInt m ((2 ^ d : Nat) : Int) := by
    rw [Rat.divInt_eq_div, ← hm, Rat.intCast_natCast]
    generalize ((2 ^ d : Nat) : Rat) = y at *
    have y0 : y ≠ 0 := by grind
    have := Rat.mul_inv_cancel y y0
    rw [Rat.div_def]
    grind
  rw [e]
  refine sz_divInt b0 ?_ ?_
  · have m1 := Ab.mul h1 (show Ab ((2 ^ d : Nat) : Rat) ((2 ^ d : Nat) : Rat) from ⟨by grind, Rat.le_refl⟩)
    rw [hm, ← Rat.natCast_mul, ← Nat.pow_add] at m1
    have k1 := icast_le (a := m) (b := ((2 ^ (f + d) : Nat) : Int))
    have k2 := icast_le (a := -((2 ^ (f + d) : Nat) : Int)) (b := m)
    rw [Rat.intCast_natCast] at k1
    rw [Rat.intCast_neg, Rat.intCast_natCast] at k2
    have k3 := k1.mp m1.2
    have k4 := k2.mp m1.1
    unfold Bt
    have := Nat.two_pow_pos (f + d)
    rw [Nat.pow_succ]
    omega
  · unfold Bt
    rw [Int.natAbs_natCast]
    exact Nat.pow_lt_pow_right (a := 2) (by decide) (show d < f + d + 1 by omega)
/-- what is left to be done: (lo, hi, how often halved), from x up to F -/
def Ch (f D : Nat) (F : Rat) : Rat → List (Rat × Rat × Nat) → Prop
  | x, [] => x = F
  | x, (lo, hi, d) :: r => lo = x ∧ lo < hi ∧ d ≤ D ∧ Dy f d lo ∧ Dy f d hi ∧ (hi - lo) * ((2 ^ d : Nat) : Rat) = 2 * F ∧ Ch f D F hi r
def todo : List (Rat × Rat × Nat) → List D
  | [] => []
  | (lo, hi, _) :: r => todo r ++ [.tuple [fr lo, fr hi]]
theorem todo_sh : ∀ r : List (Rat × Rat × Nat), ∀ x ∈ todo r, Sh 2 x
  | [], x, h => by cases h
  | (lo, hi, d) :: r, x, h => by
    rcases List.mem_append.mp h with h | h
    · exact todo_sh r x h
    · rw [List.mem_singleton] at h
      rw [h]
      exact shTup (n := 1) fun y hy => by
        simp only [List.mem_cons, List.not_mem_nil, or_false] at hy
        rcases hy with rfl | rfl <;> exact sh_fr _
theorem todo_len : ∀ r : List (Rat × Rat × Nat), (todo r).length = r.length
  | [] => rfl
  | (lo, hi, d) :: r => by
    show (todo r ++ [_]).length = _
    rw [List.length_append, todo_len r]
    rfl
namespace Po
theorem RR.snoc {p : Po} {cs : List Rat} {q : Rat} (ne : cs ≠ []) (st : ∀ i (h : i + 1 < cs.length), cs[i] < cs[i + 1] ∧ cg 0 (btw p cs[i] cs[i + 1]) ≤ 1) (h1 : cs.getLastD 0 < q) (h2 : cg 0 (btw p (cs.getLastD 0) q) ≤ 1) :
    ∀ i (h : i + 1 < (cs ++ [q]).length), (cs ++ [q])[i] < (cs ++ [q])[i + 1] ∧ cg 0 (btw p (cs ++ [q])[i] (cs ++ [q])[i + 1]) ≤ 1 := fun i h => by
  have hp := List.length_pos_iff.mpr ne
  rw [List.length_append, List.length_cons, List.length_nil] at h
  by_cases hi : i + 1 < cs.length
  · rw [List.getElem_append_left (by omega), List.getElem_append_left hi]
    exact st i hi
  · have e : i = cs.length - 1 := by omega
    have e1 : (cs ++ [q])[i]'(by simp; omega) = cs.getLastD 0 := by
      rw [List.getElem_append_left (by omega), List.getLastD_eq_getLast?, List.getLast?_eq_getElem?]
      subst e
      rw [List.getElem?_eq_getElem (by omega)]
      rfl
    have e2 : (cs ++ [q])[i + 1]'(by simp; omega) = q := by
      rw [List.getElem_append_right (by omega)]
      simp
    rw [e1, e2]
    exact ⟨h1, h2⟩
/-- depth below which no stretch has more than one change -/
theorem FB.deep {p : Po} {N b x f d : Nat} (h : FB p N b x) (n2 : 2 ≤ p.len) {lo hi : Rat} (lt : lo < hi) (h1 : Ab lo (2 ^ f : Nat)) (h2 : Ab hi (2 ^ f : Nat)) (hN : N ≤ 100000) (hw : (hi - lo) * ((2 ^ d : Nat) : Rat) = 2 * ((2 ^ f : Nat) : Rat)) (hd : dep N b x f + f + 1 ≤ d) : Thin p lo hi := by
  refine h.thin n2 lt h1 h2 ?_ hN
  obtain ⟨j, hj⟩ : ∃ j, d = dep N b x f + (f + 1) + j := ⟨d - (dep N b x f + f + 1), by omega⟩
  have e : ((2 ^ d : Nat) : Rat) = ((2 ^ dep N b x f : Nat) : Rat) * (((2 ^ f : Nat) : Rat) * 2) * ((2 ^ j : Nat) : Rat) := by
    rw [hj, Nat.pow_add, Nat.pow_add, Rat.natCast_mul, Rat.natCast_mul, pow2_s]
  rw [e] at hw
  have p1 := pow2_pos (dep N b x f)
  have p2 := pow2_pos f
  have p3 : (1 : Rat) ≤ ((2 ^ j : Nat) : Rat) := ncast_le (a := 1).mpr (Nat.two_pow_pos j)
  generalize ((2 ^ dep N b x f : Nat) : Rat) = A at *
  generalize ((2 ^ f : Nat) : Rat) = F at *
  generalize ((2 ^ j : Nat) : Rat) = J at *
  have w0 : 0 ≤ (hi - lo) * A := rmul_nn (by grind) (by grind)
  generalize (hi - lo) = w at *
  have e2 : (w * A * J - 1) * (2 * F) = 0 := by grind
  have f2 : 2 * F ≠ 0 := by grind
  rcases Rat.mul_eq_zero.mp e2 with z | z
  · have := rmul_nn w0 (show 0 ≤ J - 1 by grind)
    grind
  · exact absurd z f2
theorem far_of {p : Po} {b n : Nat} {F : Int} (hF : 1 ≤ F) {m : Int} (hm : ∀ w ∈ p.l, (w.natAbs : Int) ≤ m) (h : m + p.lc.natAbs < F * p.lc.natAbs) : Far p F := ⟨hF, fun w hw => by
  have := hm w hw
  have e : (F - 1) * (p.lc.natAbs : Int) = F * p.lc.natAbs - p.lc.natAbs := by grind
  omega⟩
end Po
theorem amid_eq (p q : Rat) : Rat.divInt (p + q).num ((p + q).den * 2) = (p + q) / 2 := by
  rw [Rat.divInt_eq_div, Rat.intCast_mul, Rat.intCast_natCast, num_eq]
  have := den0 (p + q)
  have d0 : ((p + q).den : Rat) ≠ 0 := fun z => this (by
    have h := Rat.intCast_natCast (p + q).den
    rw [z] at h
    exact Rat.intCast_inj.mp h)
  generalize (p + q) = s at *
  generalize (s.den : Rat) = d at *
  have k := Rat.mul_inv_cancel d d0
  rw [Rat.div_def, Rat.div_def, Rat.inv_mul_rev]
  show s * d * ((2 : Rat)⁻¹ * d⁻¹) = s * 2⁻¹
  grind
end Rc

/-! A stretch cut in two: both halves have no more changes than the whole. -/
namespace Rc
open PySem
/-! ### changes of lists -/
theorem cg_c (l w : Int) (r : List Int) : cg l (w :: r) = (if w * l < 0 then 1 else 0) + cg (if w = 0 then l else w) r := rfl
theorem cg_start {w : Int} (hw : w ≠ 0) : ∀ (xs : List Int) (l : Int), cg l xs ≤ (if w * l < 0 then 1 else 0) + cg w xs
  | [], l => Nat.zero_le _
  | x :: r, l => by
    rw [cg_c, cg_c]
    by_cases x0 : x = 0
    · subst x0
      rw [if_pos rfl, if_pos rfl, if_neg (show ¬ (0 : Int) * l < 0 by rw [Int.zero_mul]; omega), if_neg (show ¬ (0 : Int) * w < 0 by rw [Int.zero_mul]; omega)]
      have := cg_start hw r l
      omega
    · rw [if_neg x0, if_neg x0]
      have h1 := mul_lt0 (a := x) (b := l)
      have h2 := mul_lt0 (a := w) (b := l)
      have h3 := mul_lt0 (a := x) (b := w)
      have key : (if x * l < 0 then 1 else 0) ≤ (if w * l < 0 then 1 else 0) + (if x * w < 0 then 1 else 0) := by
        split
        · rename_i z
          have z1 := h1.mp z
          by_cases c1 : w * l < 0
          · rw [if_pos c1]; omega
          · have c2 : x * w < 0 := h3.mpr (by
              have := mt h2.mpr c1
              omega)
            rw [if_pos c2]; omega
        · omega
      omega
theorem cg_0le (xs : List Int) (l : Int) : cg 0 xs ≤ cg l xs := by
  by_cases hl : l = 0
  · rw [hl]; exact Nat.le_refl _
  · have := cg_start hl xs 0
    simpa using this
theorem cg_sub {xs ys : List Int} (h : xs.Sublist ys) : ∀ l, cg l xs ≤ cg l ys := by
  induction h with
  | slnil => exact fun _ => Nat.le_refl _
  | cons w h ih =>
    intro l
    rw [cg_c]
    by_cases w0 : w = 0
    · subst w0
      rw [if_neg (show ¬ (0 : Int) * l < 0 by rw [Int.zero_mul]; omega), if_pos rfl]
      have := ih l
      omega
    · rw [if_neg w0]
      refine Nat.le_trans (cg_start w0 _ l) ?_
      have h2 := ih w
      omega
  | cons_cons w h ih =>
    intro l
    rw [cg_c, cg_c]
    have := ih (if w = 0 then l else w)
    omega
theorem cg_ins (l x y : Int) (Z : List Int) : cg l (x :: (x + y) :: y :: Z) = cg l (x :: y :: Z) := by
  simp only [cg_c]
  have m := fun (a b : Int) => mul_lt0 (a := a) (b := b)
  simp only [m]
  rcases Int.lt_trichotomy x 0 with hx | hx | hx
  · rcases Int.lt_trichotomy y 0 with hy | hy | hy
    · simp only [show ¬ x = 0 by omega, show ¬ y = 0 by omega, show ¬ x + y = 0 by omega, if_false]
      rw [if_neg (show ¬ ((x + y < 0 ∧ 0 < x) ∨ (0 < x + y ∧ x < 0)) by omega), if_neg (show ¬ ((y < 0 ∧ 0 < x + y) ∨ (0 < y ∧ x + y < 0)) by omega), if_neg (show ¬ ((y < 0 ∧ 0 < x) ∨ (0 < y ∧ x < 0)) by omega)]
      omega
    · subst hy
      simp only [show ¬ x = 0 by omega, Int.add_zero, if_false, if_true]
      rw [if_neg (show ¬ ((x < 0 ∧ 0 < x) ∨ (0 < x ∧ x < 0)) by omega)]
      omega
    · by_cases s : x + y = 0
      · simp only [show ¬ x = 0 by omega, show ¬ y = 0 by omega, s, if_false, if_true]
        rw [if_neg (show ¬ (((0 : Int) < 0 ∧ 0 < x) ∨ ((0 : Int) < 0 ∧ x < 0)) by omega)]
        omega
      · simp only [show ¬ x = 0 by omega, show ¬ y = 0 by omega, s, if_false]
        rw [if_pos (show ((y < 0 ∧ 0 < x) ∨ (0 < y ∧ x < 0)) by omega)]
        by_cases g : 0 < x + y
        · rw [if_pos (show ((x + y < 0 ∧ 0 < x) ∨ (0 < x + y ∧ x < 0)) by omega), if_neg (show ¬ ((y < 0 ∧ 0 < x + y) ∨ (0 < y ∧ x + y < 0)) by omega)]
          omega
        · rw [if_neg (show ¬ ((x + y < 0 ∧ 0 < x) ∨ (0 < x + y ∧ x < 0)) by omega), if_pos (show ((y < 0 ∧ 0 < x + y) ∨ (0 < y ∧ x + y < 0)) by omega)]
          omega
  · subst hx
    rw [Int.zero_add]
    simp only [if_true]
    by_cases hy : y = 0
    · subst hy
      simp
    · simp only [hy, if_false]
      rw [if_neg (show ¬ ((y < 0 ∧ 0 < y) ∨ (0 < y ∧ y < 0)) by omega)]
      omega
  · rcases Int.lt_trichotomy y 0 with hy | hy | hy
    · by_cases s : x + y = 0
      · simp only [show ¬ x = 0 by omega, show ¬ y = 0 by omega, s, if_false, if_true]
        rw [if_neg (show ¬ (((0 : Int) < 0 ∧ 0 < x) ∨ ((0 : Int) < 0 ∧ x < 0)) by omega)]
        omega
      · simp only [show ¬ x = 0 by omega, show ¬ y = 0 by omega, s, if_false]
        rw [if_pos (show ((y < 0 ∧ 0 < x) ∨ (0 < y ∧ x < 0)) by omega)]
        by_cases g : 0 < x + y
        · rw [if_neg (show ¬ ((x + y < 0 ∧ 0 < x) ∨ (0 < x + y ∧ x < 0)) by omega), if_pos (show ((y < 0 ∧ 0 < x + y) ∨ (0 < y ∧ x + y < 0)) by omega)]
          omega
        · rw [if_pos (show ((x + y < 0 ∧ 0 < x) ∨ (0 < x + y ∧ x < 0)) by omega), if_neg (show ¬ ((y < 0 ∧ 0 < x + y) ∨ (0 < y ∧ x + y < 0)) by omega)]
          omega
    · subst hy
      simp only [show ¬ x = 0 by omega, Int.add_zero, if_false, if_true]
      rw [if_neg (show ¬ ((x < 0 ∧ 0 < x) ∨ (0 < x ∧ x < 0)) by omega)]
      omega
    · simp only [show ¬ x = 0 by omega, show ¬ y = 0 by omega, show ¬ x + y = 0 by omega, if_false]
      rw [if_neg (show ¬ ((x + y < 0 ∧ 0 < x) ∨ (0 < x + y ∧ x < 0)) by omega), if_neg (show ¬ ((y < 0 ∧ 0 < x + y) ∨ (0 < y ∧ x + y < 0)) by omega), if_neg (show ¬ ((y < 0 ∧ 0 < x) ∨ (0 < y ∧ x < 0)) by omega)]
      omega
/-- sums of neighbours -/
def av : List Int → List Int
  | [] => []
  | [_] => []
  | x :: y :: r => (x + y) :: av (y :: r)
def itl : List Int → List Int
  | [] => []
  | [x] => [x]
  | x :: y :: r => x :: (x + y) :: itl (y :: r)
theorem av_len : ∀ (r : List Int) (x : Int), (av (x :: r)).length = r.length
  | [], _ => rfl
  | y :: r, x => by show (av (y :: r)).length + 1 = r.length + 1; rw [av_len r y]
theorem itl_cg (Y : List Int) : ∀ (r : List Int) (x l : Int), cg l (itl (x :: r) ++ Y) = cg l (x :: r ++ Y)
  | [], x, l => rfl
  | y :: r, x, l => by
    have ih := itl_cg Y r y
    have h0 : ∃ t, itl (y :: r) = y :: t := by cases r <;> exact ⟨_, rfl⟩
    obtain ⟨t, ht⟩ := h0
    show cg l (x :: (x + y) :: (itl (y :: r) ++ Y)) = cg l (x :: (y :: r ++ Y))
    rw [ht]
    show cg l (x :: (x + y) :: y :: (t ++ Y)) = _
    rw [cg_ins, cg_c, cg_c l x (y :: r ++ Y), ← ih, ht]
    rfl
theorem av_sub : ∀ (r : List Int) (x : Int), (x :: (av (x :: r) ++ [(x :: r).getLast (by simp)])).Sublist (itl (x :: r) ++ [(x :: r).getLast (by simp)])
  | [], x => List.Sublist.refl _
  | y :: r, x => by
    have ih := av_sub r y
    show (x :: (x + y) :: (av (y :: r) ++ [_])).Sublist (x :: (x + y) :: (itl (y :: r) ++ [_]))
    rw [List.getLast_cons (by simp)]
    exact (List.Sublist.cons_cons _ (List.Sublist.cons_cons _ ((List.sublist_cons_self _ _).trans ih)))
theorem cg_dup (l x : Int) (Y : List Int) : cg l (x :: x :: Y) = cg l (x :: Y) := by
  rw [cg_c, cg_c, cg_c]
  by_cases x0 : x = 0
  · subst x0
    simp
  · simp only [x0, if_false]
    rw [if_neg (show ¬ x * x < 0 by
      have := mul_lt0 (a := x) (b := x)
      omega)]
    omega
/-- the first list has in any place no more changes than the second -/
def Lq (X' X : List Int) : Prop := ∀ (l : Int) (Y : List Int), cg l (X' ++ Y) ≤ cg l (X ++ Y)
theorem Lq.cons {X' X : List Int} (h : Lq X' X) (w : Int) : Lq (w :: X') (w :: X) := fun l Y => by
  show cg l (w :: (X' ++ Y)) ≤ cg l (w :: (X ++ Y))
  rw [cg_c, cg_c]
  have := h (if w = 0 then l else w) Y
  omega
theorem Lq.app {X' X : List Int} (h : Lq X' X) (Z : List Int) : Lq (X' ++ Z) (X ++ Z) := fun l Y => by
  rw [List.append_assoc, List.append_assoc]
  exact h l (Z ++ Y)
theorem Lq.trans {X Y Z : List Int} (h : Lq X Y) (g : Lq Y Z) : Lq X Z := fun l W => Nat.le_trans (h l W) (g l W)
theorem last_dup (Y : List Int) : ∀ (r : List Int) (x l : Int), cg l (x :: r ++ ([(x :: r).getLast (by simp)] ++ Y)) = cg l (x :: r ++ Y)
  | [], x, l => cg_dup l x Y
  | y :: r, x, l => by
    have ih := last_dup Y r y
    have e : (x :: y :: r).getLast (by simp) = (y :: r).getLast (by simp) := List.getLast_cons (by simp)
    rw [e]
    show cg l (x :: (y :: r ++ ([_] ++ Y))) = cg l (x :: (y :: r ++ Y))
    rw [cg_c, cg_c, ih]
theorem av_lq (x : Int) (r : List Int) : Lq (x :: (av (x :: r) ++ [(x :: r).getLast (by simp)])) (x :: r) := fun l Y => by
  have h := cg_sub ((av_sub r x).append (List.Sublist.refl Y)) l
  refine Nat.le_trans h ?_
  rw [List.append_assoc, itl_cg, last_dup]
  exact Nat.le_refl _
/-- the triangle's rim -/
def tri : Nat → List Int → List Int
  | 0, M => M
  | n + 1, [] => []
  | n + 1, x :: r => x :: (tri n (av (x :: r)) ++ [(x :: r).getLast (by simp)])
theorem tri_lq : ∀ (n : Nat) (x : Int) (r : List Int), r.length = n → Lq (tri n (x :: r)) (x :: r)
  | 0, x, r, _ => fun _ _ => Nat.le_refl _
  | n + 1, x, r, h => by
    cases r with
    | nil => cases h
    | cons y s =>
      have e : av (x :: y :: s) = (x + y) :: av (y :: s) := rfl
      have ih := tri_lq n (x + y) (av (y :: s)) (by rw [av_len]; simpa using h)
      refine Lq.trans ?_ (av_lq x (y :: s))
      show Lq (x :: (tri n (av (x :: y :: s)) ++ [_])) (x :: (av (x :: y :: s) ++ [_]))
      rw [e]
      exact (ih.app _).cons x
/-! ### forms by points -/
def Dn (n : Nat) (P : Int × Int) (f : Nat → Int) : Nat → Int := fun i => P.1 * ((i : Int) + 1) * f (i + 1) + P.2 * ((n : Int) - i) * f i
theorem Dn_comm (n : Nat) (P Q : Int × Int) (f : Nat → Int) : Dn n P (Dn (n + 1) Q f) = Dn n Q (Dn (n + 1) P f) := funext fun i => by
  unfold Dn
  rw [show ((n + 1 : Nat) : Int) = (n : Int) + 1 by omega, show ((i + 1 : Nat) : Int) = (i : Int) + 1 by omega]
  generalize f (i + 1 + 1) = a
  generalize f (i + 1) = b
  generalize f i = c
  generalize (n : Int) = m
  generalize (i : Int) = j
  grind
def dI : List (Int × Int) → (Nat → Int) → Int
  | [], f => f 0
  | P :: r, f => dI r (Dn (r.length + 1) P f)
theorem dI_perm {a b : List (Int × Int)} (h : a.Perm b) : ∀ f, dI a f = dI b f := by
  induction h with
  | nil => exact fun _ => rfl
  | cons P h ih =>
    intro f
    show dI _ (Dn _ P f) = dI _ (Dn _ P f)
    rw [h.length_eq]
    exact ih _
  | swap P Q l =>
    intro f
    show dI l (Dn (l.length + 1) P (Dn (l.length + 1 + 1) Q f)) = dI l (Dn (l.length + 1) Q (Dn (l.length + 1 + 1) P f))
    rw [Dn_comm]
  | trans _ _ h1 h2 => exact fun f => (h1 f).trans (h2 f)
theorem dI_add : ∀ (r : List (Int × Int)) (f g : Nat → Int), dI r (fun i => f i + g i) = dI r f + dI r g
  | [], f, g => rfl
  | P :: r, f, g => by
    show dI r (Dn _ P _) = dI r _ + dI r _
    rw [← dI_add r]
    congr 1
    funext i
    unfold Dn
    grind
theorem dI_mul : ∀ (r : List (Int × Int)) (c : Int) (f : Nat → Int), dI r (fun i => c * f i) = c * dI r f
  | [], c, f => rfl
  | P :: r, c, f => by
    show dI r (Dn _ P _) = c * dI r _
    rw [← dI_mul r]
    congr 1
    funext i
    unfold Dn
    grind
theorem dI_addP (P Q : Int × Int) (r : List (Int × Int)) (f : Nat → Int) : dI ((P.1 + Q.1, P.2 + Q.2) :: r) f = dI (P :: r) f + dI (Q :: r) f := by
  show dI r (Dn _ _ f) = dI r (Dn _ P f) + dI r (Dn _ Q f)
  rw [← dI_add]
  congr 1
  funext i
  unfold Dn
  grind
theorem dI_mulP (c : Int) (P : Int × Int) (r : List (Int × Int)) (f : Nat → Int) : dI ((c * P.1, c * P.2) :: r) f = c * dI (P :: r) f := by
  show dI r (Dn _ _ f) = c * dI r (Dn _ P f)
  rw [← dI_mul]
  congr 1
  funext i
  unfold Dn
  grind
/-- alike signs -/
def Sg (a b : Int) : Prop := (0 < a ↔ 0 < b) ∧ (a < 0 ↔ b < 0)
theorem Sg.refl (a : Int) : Sg a a := ⟨Iff.rfl, Iff.rfl⟩
theorem Sg.symm {a b : Int} (h : Sg a b) : Sg b a := ⟨h.1.symm, h.2.symm⟩
theorem Sg.trans {a b c : Int} (h : Sg a b) (g : Sg b c) : Sg a c := ⟨h.1.trans g.1, h.2.trans g.2⟩
theorem Sg.mul {c : Int} (hc : 0 < c) (a : Int) : Sg (c * a) a := by
  refine ⟨⟨fun h => ?_, fun h => Int.mul_pos hc h⟩, ⟨fun h => ?_, fun h => Int.mul_neg_of_pos_of_neg hc h⟩⟩
  · refine Classical.byContradiction fun z => ?_
    have := Int.mul_nonpos_of_nonneg_of_nonpos (Int.le_of_lt hc) (show a ≤ 0 by omega)
    omega
  · refine Classical.byContradiction fun z => ?_
    have := Int.mul_nonneg (Int.le_of_lt hc) (show 0 ≤ a by omega)
    omega
theorem Sg.of {c d a b : Int} (hc : 0 < c) (hd : 0 < d) (h : c * a = d * b) : Sg a b := (Sg.mul hc a).symm.trans (h ▸ Sg.mul hd b)
/-- one point in two forms -/
def Pt (P Q : Int × Int) : Prop := ∃ c d : Int, 0 < c ∧ 0 < d ∧ c * P.1 = d * Q.1 ∧ c * P.2 = d * Q.2
theorem dI_pt {P Q : Int × Int} (h : Pt P Q) (r : List (Int × Int)) (f : Nat → Int) : Sg (dI (P :: r) f) (dI (Q :: r) f) := by
  obtain ⟨c, d, hc, hd, e1, e2⟩ := h
  refine Sg.of hc hd ?_
  rw [← dI_mulP, ← dI_mulP, e1, e2]
theorem dI_pts {P Q : Int × Int} (h : Pt P Q) (f : Nat → Int) : ∀ (m : Nat) (r : List (Int × Int)), Sg (dI (List.replicate m P ++ r) f) (dI (List.replicate m Q ++ r) f)
  | 0, r => Sg.refl _
  | m + 1, r => by
    have h1 := dI_pt h (List.replicate m P ++ r) f
    have p1 : (Q :: (List.replicate m P ++ r)).Perm (List.replicate m P ++ Q :: r) := List.perm_middle.symm
    have p2 : (List.replicate m Q ++ Q :: r).Perm (Q :: (List.replicate m Q ++ r)) := List.perm_middle
    have h2 := dI_pts h f m (Q :: r)
    show Sg (dI (P :: (List.replicate m P ++ r)) f) (dI (Q :: (List.replicate m Q ++ r)) f)
    rw [← dI_perm p2, ]
    refine h1.trans ?_
    rw [dI_perm p1]
    exact h2
/-! ### the weights seen within a stretch, by points -/
def Hf (L R B : Int) : Nat → (Nat → Int) → Nat → Int
  | 0, f, i => f 0 * bn 0 i
  | n + 1, f, i => L * Hf L R B n (fun j => f (j + 1)) i + R * prv 0 (Hf L R B n (fun j => f (j + 1))) i + f 0 * B ^ (n + 1) * bn (n + 1) i
theorem hc_Hf (L R B : Int) : ∀ (r : List Int) (w : Int) (i : Nat), hc L R B (w :: r) i = Hf L R B r.length (cf (w :: r)) i
  | [], w, i => by
    show L * 0 + R * prv 0 (hc L R B []) i + w * B ^ 0 * bn 0 i = w * bn 0 i
    have z1 : prv 0 (hc L R B []) i = 0 := by cases i <;> rfl
    rw [z1, Int.pow_zero]
    grind
  | u :: s, w, i => by
    have ih := hc_Hf L R B s u
    show L * hc L R B (u :: s) i + R * prv 0 (hc L R B (u :: s)) i + w * B ^ (s.length + 1) * bn (s.length + 1) i = L * Hf L R B s.length (cf (u :: s)) i + R * prv 0 (Hf L R B s.length (cf (u :: s))) i + w * B ^ (s.length + 1) * bn (s.length + 1) i
    rw [ih i]
    congr 3
    cases i with
    | zero => rfl
    | succ j => exact ih j
theorem Hf_add (L R B : Int) : ∀ (n : Nat) (f g : Nat → Int) (i : Nat), Hf L R B n (fun j => f j + g j) i = Hf L R B n f i + Hf L R B n g i
  | 0, f, g, i => by
    show (f 0 + g 0) * _ = f 0 * _ + g 0 * _
    rw [Int.add_mul]
  | n + 1, f, g, i => by
    have ih := Hf_add L R B n (fun j => f (j + 1)) (fun j => g (j + 1))
    show L * Hf L R B n (fun j => f (j + 1) + g (j + 1)) i + R * prv 0 (Hf L R B n (fun j => f (j + 1) + g (j + 1))) i + (f 0 + g 0) * B ^ (n + 1) * bn (n + 1) i = (L * Hf L R B n (fun j => f (j + 1)) i + R * prv 0 (Hf L R B n (fun j => f (j + 1))) i + f 0 * B ^ (n + 1) * bn (n + 1) i) + (L * Hf L R B n (fun j => g (j + 1)) i + R * prv 0 (Hf L R B n (fun j => g (j + 1))) i + g 0 * B ^ (n + 1) * bn (n + 1) i)
    have h2 : prv 0 (Hf L R B n (fun j => f (j + 1) + g (j + 1))) i = prv 0 (Hf L R B n (fun j => f (j + 1))) i + prv 0 (Hf L R B n (fun j => g (j + 1))) i := by
      cases i with
      | zero => rfl
      | succ j => exact ih j
    rw [ih i, h2]
    grind
theorem Hf_mul (L R B c : Int) : ∀ (n : Nat) (f : Nat → Int) (i : Nat), Hf L R B n (fun j => c * f j) i = c * Hf L R B n f i
  | 0, f, i => by
    show c * f 0 * _ = c * (f 0 * _)
    rw [Int.mul_assoc]
  | n + 1, f, i => by
    have ih := Hf_mul L R B c n (fun j => f (j + 1))
    show L * Hf L R B n (fun j => c * f (j + 1)) i + R * prv 0 (Hf L R B n (fun j => c * f (j + 1))) i + c * f 0 * B ^ (n + 1) * bn (n + 1) i = c * (L * Hf L R B n (fun j => f (j + 1)) i + R * prv 0 (Hf L R B n (fun j => f (j + 1))) i + f 0 * B ^ (n + 1) * bn (n + 1) i)
    have h2 : prv 0 (Hf L R B n (fun j => c * f (j + 1))) i = c * prv 0 (Hf L R B n (fun j => f (j + 1))) i := by
      cases i with
      | zero => show (0 : Int) = c * 0; omega
      | succ j => exact ih j
    rw [ih i, h2]
    grind
theorem Hf_z (L R B : Int) : ∀ (n : Nat) (i : Nat), Hf L R B n (fun _ => 0) i = 0
  | 0, i => by show (0 : Int) * _ = 0; omega
  | n + 1, i => by
    have ih := Hf_z L R B n
    show L * Hf L R B n (fun _ => 0) i + R * prv 0 (Hf L R B n (fun _ => 0)) i + 0 * B ^ (n + 1) * bn (n + 1) i = 0
    have h2 : prv 0 (Hf L R B n (fun _ => 0)) i = 0 := by
      cases i with
      | zero => rfl
      | succ j => exact ih j
    rw [ih i, h2]
    grind
theorem Hf_one (L R B c : Int) : ∀ (n : Nat) (i : Nat), Hf L R B n (fun j => if j = 0 then c else 0) i = c * B ^ n * bn n i
  | 0, i => by
    show c * _ = _
    rw [Int.pow_zero, Int.mul_one]
  | n + 1, i => by
    have z := Hf_z L R B n
    show L * Hf L R B n (fun _ => 0) i + R * prv 0 (Hf L R B n (fun _ => 0)) i + c * B ^ (n + 1) * bn (n + 1) i = _
    have h2 : prv 0 (Hf L R B n (fun _ => 0)) i = 0 := by
      cases i with
      | zero => rfl
      | succ j => exact z j
    rw [z i, h2]
    grind
theorem Hf_sh (L R B : Int) (n : Nat) (g : Nat → Int) (i : Nat) : Hf L R B (n + 1) (prv 0 g) i = L * Hf L R B n g i + R * prv 0 (Hf L R B n g) i := by
  show L * Hf L R B n g i + R * prv 0 (Hf L R B n g) i + 0 * B ^ (n + 1) * bn (n + 1) i = _
  grind
theorem Dn_s (n : Nat) (u v : Int) (f : Nat → Int) : Dn (n + 1) (u, v) f = fun i => (u * f (i + 1) + (if i = 0 then v * ((n : Int) + 1) * f 0 else 0)) + prv 0 (Dn n (u, v) fun j => f (j + 1)) i := funext fun i => by
  unfold Dn
  cases i with
  | zero =>
    show u * (((0 : Nat) : Int) + 1) * f 1 + v * (((n + 1 : Nat) : Int) - ((0 : Nat) : Int)) * f 0 = (u * f 1 + v * ((n : Int) + 1) * f 0) + 0
    rw [show ((n + 1 : Nat) : Int) = (n : Int) + 1 by omega]
    grind
  | succ j =>
    show u * (((j + 1 : Nat) : Int) + 1) * f (j + 1 + 1) + v * (((n + 1 : Nat) : Int) - ((j + 1 : Nat) : Int)) * f (j + 1) = (u * f (j + 1 + 1) + 0) + (u * ((j : Int) + 1) * f (j + 1 + 1) + v * ((n : Int) - j) * f (j + 1))
    rw [show ((n + 1 : Nat) : Int) = (n : Int) + 1 by omega, show ((j + 1 : Nat) : Int) = (j : Int) + 1 by omega]
    grind
theorem Hf_D (L R B : Int) (n : Nat) (u : Int) (f : Nat → Int) (i : Nat) : Hf L R B (n + 1) (Dn (n + 2) (u, B) f) i = u * Hf L R B (n + 1) (fun j => f (j + 1)) i + B * ((n : Int) + 2) * f 0 * B ^ (n + 1) * bn (n + 1) i + (L * Hf L R B n (Dn (n + 1) (u, B) fun j => f (j + 1)) i + R * prv 0 (Hf L R B n (Dn (n + 1) (u, B) fun j => f (j + 1))) i) := by
  rw [Dn_s, Hf_add, Hf_sh, Hf_add, Hf_mul, Hf_one, show ((n + 1 : Nat) : Int) + 1 = (n : Int) + 2 by omega]
theorem bn_abs : ∀ n i, (i + 1) * bn (n + 1) (i + 1) = (n + 1) * bn n i := fun n i => by
  have h1 := bn_step n i
  show (i + 1) * (bn n (i + 1) + bn n i) = _
  generalize bn n (i + 1) = a at *
  generalize bn n i = b at *
  grind
theorem Hf_Q (L R B : Int) : ∀ (n : Nat) (f : Nat → Int) (i : Nat), ((i : Int) + 1) * Hf L R B (n + 1) f (i + 1) = Hf L R B n (Dn (n + 1) (R, B) f) i
  | 0, f, i => by
    show ((i : Int) + 1) * (L * (f 1 * bn 0 (i + 1)) + R * (f 1 * bn 0 i) + f 0 * B ^ 1 * bn 1 (i + 1)) = (R * (((0 : Nat) : Int) + 1) * f 1 + B * (((1 : Nat) : Int) - ((0 : Nat) : Int)) * f 0) * bn 0 i
    cases i with
    | zero =>
      show ((0 : Nat) + 1 : Int) * (L * (f 1 * ((0 : Nat) : Int)) + R * (f 1 * ((1 : Nat) : Int)) + f 0 * B ^ 1 * ((1 : Nat) : Int)) = _ * ((1 : Nat) : Int)
      rw [Int.pow_succ, Int.pow_zero]
      grind
    | succ j =>
      show (((j + 1 : Nat) : Int) + 1) * (L * (f 1 * ((0 : Nat) : Int)) + R * (f 1 * ((0 : Nat) : Int)) + f 0 * B ^ 1 * ((bn 0 (j + 1 + 1) + bn 0 (j + 1) : Nat) : Int)) = _ * ((0 : Nat) : Int)
      rw [show bn 0 (j + 1 + 1) + bn 0 (j + 1) = 0 from rfl]
      simp
  | n + 1, f, i => by
    have ih := Hf_Q L R B n (fun j => f (j + 1))
    rw [Hf_D]
    show ((i : Int) + 1) * (L * Hf L R B (n + 1) (fun j => f (j + 1)) (i + 1) + R * Hf L R B (n + 1) (fun j => f (j + 1)) i + f 0 * B ^ (n + 1 + 1) * bn (n + 1 + 1) (i + 1)) = _
    have h2 : prv 0 (Hf L R B n (Dn (n + 1) (R, B) fun j => f (j + 1))) i = i * Hf L R B (n + 1) (fun j => f (j + 1)) i := by
      cases i with
      | zero => show (0 : Int) = ((0 : Nat) : Int) * _; simp
      | succ j =>
        show Hf L R B n (Dn (n + 1) (R, B) fun j => f (j + 1)) j = _
        rw [← ih j]
        congr 1
    have hb : ((i : Int) + 1) * (bn (n + 1 + 1) (i + 1) : Int) = ((n : Int) + 2) * (bn (n + 1) i : Int) := by
      have := congrArg (Nat.cast : Nat → Int) (bn_abs (n + 1) i)
      rw [Int.natCast_mul, Int.natCast_mul] at this
      rw [show ((i + 1 : Nat) : Int) = (i : Int) + 1 by omega, show ((n + 1 + 1 : Nat) : Int) = (n : Int) + 2 by omega] at this
      exact this
    rw [h2, ← ih i, Int.pow_succ B (n + 1)]
    generalize Hf L R B (n + 1) (fun j => f (j + 1)) (i + 1) = a at *
    generalize Hf L R B (n + 1) (fun j => f (j + 1)) i = c at *
    generalize (bn (n + 1 + 1) (i + 1) : Int) = b1 at *
    generalize (bn (n + 1) i : Int) = b0 at *
    generalize B ^ (n + 1) = y at *
    generalize (i : Int) = k at *
    generalize (n : Int) = m at *
    have e1 : f 0 * B * y * ((k + 1) * b1) = f 0 * B * y * ((m + 2) * b0) := by rw [hb]
    grind
theorem bn_abs2 : ∀ n i : Nat, ((n : Int) + 1 - i) * (bn (n + 1) i : Int) = ((n : Int) + 1) * (bn n i : Int) := fun n i => by
  have h1 := bn_step n i
  have h0 : (i : Int) * (bn (n + 1) i : Int) = ((n : Int) + 1) * ((prv 0 (bn n) i : Nat) : Int) := by
    cases i with
    | zero => show ((0 : Nat) : Int) * _ = _ * ((0 : Nat) : Int); simp
    | succ j =>
      have := congrArg (Nat.cast : Nat → Int) (bn_abs n j)
      rw [Int.natCast_mul, Int.natCast_mul] at this
      exact this
  have h2 := bn_s n i
  have h3 : (bn (n + 1) i : Int) = (bn n i : Int) + ((prv 0 (bn n) i : Nat) : Int) := by rw [h2, Int.natCast_add]
  rw [Int.sub_mul, h0, h3]
  grind
theorem Hf_P (L R B : Int) : ∀ (n : Nat) (f : Nat → Int) (i : Nat), ((n : Int) + 1 - i) * Hf L R B (n + 1) f i = Hf L R B n (Dn (n + 1) (L, B) f) i
  | 0, f, i => by
    show (((0 : Nat) : Int) + 1 - i) * (L * (f 1 * bn 0 i) + R * prv 0 (Hf L R B 0 fun j => f (j + 1)) i + f 0 * B ^ 1 * bn 1 i) = (L * (((0 : Nat) : Int) + 1) * f 1 + B * (((1 : Nat) : Int) - ((0 : Nat) : Int)) * f 0) * bn 0 i
    rw [Int.pow_succ, Int.pow_zero]
    cases i with
    | zero =>
      show (((0 : Nat) : Int) + 1 - ((0 : Nat) : Int)) * (L * (f 1 * ((1 : Nat) : Int)) + R * 0 + f 0 * (1 * B) * ((1 : Nat) : Int)) = _ * ((1 : Nat) : Int)
      grind
    | succ j =>
      cases j with
      | zero =>
        show (((0 : Nat) : Int) + 1 - ((1 : Nat) : Int)) * _ = _ * ((0 : Nat) : Int)
        rw [show ((0 : Nat) : Int) + 1 - ((1 : Nat) : Int) = 0 from rfl]
        simp
      | succ j =>
        show (((0 : Nat) : Int) + 1 - ((j + 1 + 1 : Nat) : Int)) * (L * (f 1 * ((0 : Nat) : Int)) + R * (f 1 * ((0 : Nat) : Int)) + f 0 * (1 * B) * ((bn 0 (j + 1 + 1) + bn 0 (j + 1) : Nat) : Int)) = _ * ((0 : Nat) : Int)
        rw [show bn 0 (j + 1 + 1) + bn 0 (j + 1) = 0 from rfl]
        simp
  | n + 1, f, i => by
    have ih := Hf_P L R B n (fun j => f (j + 1))
    rw [Hf_D]
    show (((n + 1 : Nat) : Int) + 1 - i) * (L * Hf L R B (n + 1) (fun j => f (j + 1)) i + R * prv 0 (Hf L R B (n + 1) (fun j => f (j + 1))) i + f 0 * B ^ (n + 1 + 1) * bn (n + 1 + 1) i) = _
    have h2 : prv 0 (Hf L R B n (Dn (n + 1) (L, B) fun j => f (j + 1))) i = ((n : Int) + 2 - i) * prv 0 (Hf L R B (n + 1) (fun j => f (j + 1))) i := by
      cases i with
      | zero => show (0 : Int) = _ * 0; simp
      | succ j =>
        show Hf L R B n (Dn (n + 1) (L, B) fun j => f (j + 1)) j = _ * Hf L R B (n + 1) (fun j => f (j + 1)) j
        rw [← ih j]
        congr 1
        omega
    have hb := bn_abs2 (n + 1) i
    rw [show ((n + 1 : Nat) : Int) = (n : Int) + 1 by omega] at *
    rw [h2, ← ih i, Int.pow_succ B (n + 1)]
    generalize Hf L R B (n + 1) (fun j => f (j + 1)) i = a at *
    generalize prv 0 (Hf L R B (n + 1) (fun j => f (j + 1))) i = c at *
    generalize (bn (n + 1 + 1) i : Int) = b1 at *
    generalize (bn (n + 1) i : Int) = b0 at *
    generalize B ^ (n + 1) = y at *
    generalize (i : Int) = k at *
    generalize (n : Int) = m at *
    have e1 : f 0 * B * y * ((m + 1 + 1 - k) * b1) = f 0 * B * y * ((m + 1 + 1) * b0) := by rw [hb]
    grind
def fac : Nat → Nat
  | 0 => 1
  | n + 1 => (n + 1) * fac n
theorem fac_pos : ∀ n, 0 < fac n
  | 0 => by decide
  | n + 1 => Nat.mul_pos (by omega) (fac_pos n)
theorem Hf_dI (L R B : Int) : ∀ (i j : Nat) (f : Nat → Int), (fac i : Int) * (fac j : Int) * Hf L R B (i + j) f i = dI (List.replicate i (R, B) ++ List.replicate j (L, B)) f
  | 0, 0, f => by
    show ((1 : Nat) : Int) * ((1 : Nat) : Int) * (f 0 * ((1 : Nat) : Int)) = f 0
    grind
  | 0, j + 1, f => by
    have ih := Hf_dI L R B 0 j (Dn (j + 1) (L, B) f)
    have hp := Hf_P L R B j f 0
    rw [Nat.zero_add] at ih ⊢
    show _ = dI (List.replicate j (L, B)) (Dn ((List.replicate j (L, B)).length + 1) (L, B) f)
    rw [List.length_replicate]
    show _ = dI (List.replicate 0 (R, B) ++ List.replicate j (L, B)) (Dn (j + 1) (L, B) f)
    rw [← ih, ← hp]
    show ((1 : Nat) : Int) * (((j + 1) * fac j : Nat) : Int) * _ = ((1 : Nat) : Int) * _ * (((j : Int) + 1 - ((0 : Nat) : Int)) * _)
    rw [Int.natCast_mul, show ((j + 1 : Nat) : Int) = (j : Int) + 1 by omega]
    grind
  | i + 1, j, f => by
    have ih := Hf_dI L R B i j (Dn (i + j + 1) (R, B) f)
    have hq := Hf_Q L R B (i + j) f i
    show _ = dI (List.replicate i (R, B) ++ List.replicate j (L, B)) (Dn ((List.replicate i (R, B) ++ List.replicate j (L, B)).length + 1) (R, B) f)
    rw [List.length_append, List.length_replicate, List.length_replicate, ← ih, ← hq, show i + 1 + j = i + j + 1 by omega]
    show (((i + 1) * fac i : Nat) : Int) * _ * _ = _
    rw [Int.natCast_mul, show ((i + 1 : Nat) : Int) = (i : Int) + 1 by omega]
    grind
theorem cg_sg : ∀ (xs ys : List Int) (l m : Int), Sg l m → (∀ i, Sg (cf xs i) (cf ys i)) → cg l xs = cg m ys
  | [], [], _, _, _, _ => rfl
  | [], y :: t, l, m, hl, h => by
    have h0 := h 0
    rw [cf_nil, cf_0] at h0
    have y0 : y = 0 := by unfold Sg at h0; omega
    rw [cg_c, y0, if_neg (by rw [Int.zero_mul]; omega), if_pos rfl, Nat.zero_add]
    exact cg_sg [] t l m hl fun i => by have := h (i + 1); rw [cf_s, cf_nil] at this; rw [cf_nil]; exact this
  | x :: r, [], l, m, hl, h => by
    have h0 := h 0
    rw [cf_nil, cf_0] at h0
    have y0 : x = 0 := by unfold Sg at h0; omega
    rw [cg_c, y0, if_neg (by rw [Int.zero_mul]; omega), if_pos rfl, Nat.zero_add]
    exact cg_sg r [] l m hl fun i => by have := h (i + 1); rw [cf_s, cf_nil] at this; rw [cf_nil]; exact this
  | x :: r, y :: t, l, m, hl, h => by
    have h0 := h 0
    rw [cf_0, cf_0] at h0
    have hr : ∀ i, Sg (cf r i) (cf t i) := fun i => h (i + 1)
    rw [cg_c, cg_c]
    have e1 := mul_lt0 (a := x) (b := l)
    have e2 := mul_lt0 (a := y) (b := m)
    have key : (x * l < 0) ↔ (y * m < 0) := by
      unfold Sg at h0 hl
      rw [e1, e2]
      omega
    have ih := cg_sg r t (if x = 0 then l else x) (if y = 0 then m else y) (by
      by_cases x0 : x = 0
      · have y0 : y = 0 := by unfold Sg at h0; omega
        rw [if_pos x0, if_pos y0]
        exact hl
      · have y0 : y ≠ 0 := by unfold Sg at h0; omega
        rw [if_neg x0, if_neg y0]
        exact h0) hr
    rw [ih]
    by_cases k : x * l < 0
    · rw [if_pos k, if_pos (key.mp k)]
    · rw [if_neg k, if_neg (mt key.mpr k)]
/-! ### the rim of the triangle, by points -/
def mT (f : Nat → Int) (P Q : Int × Int) (r a j : Nat) : Int := dI (List.replicate r (P.1 + Q.1, P.2 + Q.2) ++ (List.replicate a P ++ List.replicate j Q)) f
theorem mT_s (f : Nat → Int) (P Q : Int × Int) (r a j : Nat) : mT f P Q (r + 1) a j = mT f P Q r (a + 1) j + mT f P Q r a (j + 1) := by
  unfold mT
  have e : List.replicate (r + 1) (P.1 + Q.1, P.2 + Q.2) ++ (List.replicate a P ++ List.replicate j Q) = (P.1 + Q.1, P.2 + Q.2) :: (List.replicate r (P.1 + Q.1, P.2 + Q.2) ++ (List.replicate a P ++ List.replicate j Q)) := rfl
  rw [e, dI_addP]
  congr 1
  · refine dI_perm ?_ f
    exact List.perm_middle.symm
  · refine dI_perm ?_ f
    have e2 : List.replicate (j + 1) Q = Q :: List.replicate j Q := rfl
    rw [e2]
    rw [← List.append_assoc, ← List.append_assoc]
    exact List.perm_middle.symm
def rowT (f : Nat → Int) (P Q : Int × Int) (r : Nat) : Nat → Nat → List Int
  | a, 0 => [mT f P Q r 0 a]
  | a, n + 1 => mT f P Q r (n + 1) a :: rowT f P Q r (a + 1) n
theorem row_ne (f : Nat → Int) (P Q : Int × Int) (r a n : Nat) : ∃ t, rowT f P Q r a n = mT f P Q r n a :: t ∧ t.length = n := by
  induction n generalizing a with
  | zero => exact ⟨[], rfl, rfl⟩
  | succ n ih =>
    obtain ⟨t, e, hl⟩ := ih (a + 1)
    exact ⟨_, rfl, by rw [e, List.length_cons, hl]⟩
theorem row_av (f : Nat → Int) (P Q : Int × Int) (r : Nat) : ∀ (n a : Nat), av (rowT f P Q r a (n + 1)) = rowT f P Q (r + 1) a n
  | 0, a => by
    show [mT f P Q r 1 a + mT f P Q r 0 (a + 1)] = [mT f P Q (r + 1) 0 a]
    rw [mT_s]
  | n + 1, a => by
    have ih := row_av f P Q r n (a + 1)
    obtain ⟨t, e, _⟩ := row_ne f P Q r (a + 1) (n + 1)
    have e0 : rowT f P Q r a (n + 1 + 1) = mT f P Q r (n + 1 + 1) a :: rowT f P Q r (a + 1) (n + 1) := rfl
    rw [e0, e]
    show (mT f P Q r (n + 1 + 1) a + mT f P Q r (n + 1) (a + 1)) :: av (mT f P Q r (n + 1) (a + 1) :: t) = mT f P Q (r + 1) (n + 1) a :: rowT f P Q (r + 1) (a + 1) n
    rw [← e, ih, mT_s]
theorem row_last (f : Nat → Int) (P Q : Int × Int) (r : Nat) : ∀ (n a : Nat) (h : rowT f P Q r a n ≠ []), (rowT f P Q r a n).getLast h = mT f P Q r 0 (a + n)
  | 0, a, _ => rfl
  | n + 1, a, h => by
    obtain ⟨t, e, _⟩ := row_ne f P Q r (a + 1) n
    have h2 : rowT f P Q r (a + 1) n ≠ [] := by rw [e]; simp
    show (mT f P Q r (n + 1) a :: rowT f P Q r (a + 1) n).getLast _ = _
    rw [List.getLast_cons h2, row_last f P Q r n (a + 1) h2]
    congr 1
    omega
def rimL (f : Nat → Int) (P Q : Int × Int) (r : Nat) : Nat → List Int
  | 0 => [mT f P Q r 0 0]
  | n + 1 => mT f P Q r (n + 1) 0 :: rimL f P Q (r + 1) n
def rimR (f : Nat → Int) (P Q : Int × Int) (r : Nat) : Nat → List Int
  | 0 => []
  | n + 1 => rimR f P Q (r + 1) n ++ [mT f P Q r 0 (n + 1)]
theorem tri_rim (f : Nat → Int) (P Q : Int × Int) : ∀ (n r : Nat), tri n (rowT f P Q r 0 n) = rimL f P Q r n ++ rimR f P Q r n
  | 0, r => rfl
  | n + 1, r => by
    have ih := tri_rim f P Q n (r + 1)
    have e0 : rowT f P Q r 0 (n + 1) = mT f P Q r (n + 1) 0 :: rowT f P Q r 1 n := rfl
    have l := row_last f P Q r (n + 1) 0 (by rw [e0]; simp)
    have e1 : tri (n + 1) (rowT f P Q r 0 (n + 1)) = mT f P Q r (n + 1) 0 :: (tri n (av (rowT f P Q r 0 (n + 1))) ++ [mT f P Q r 0 (0 + (n + 1))]) := by
      rw [← l]
      simp only [e0]
      rfl
    rw [e1, row_av, ih, Nat.zero_add]
    show _ :: (rimL f P Q (r + 1) n ++ rimR f P Q (r + 1) n ++ [_]) = _ :: (rimL f P Q (r + 1) n ++ (rimR f P Q (r + 1) n ++ [_]))
    rw [List.append_assoc]
theorem lz_snoc (x : Int) (hx : x ≠ 0) : ∀ (xs : List Int) (l : Int), lz l (xs ++ [x]) = x
  | [], l => by show (if x = 0 then l else x) = x; rw [if_neg hx]
  | y :: r, l => lz_snoc x hx r _
theorem rimL_last (f : Nat → Int) (P Q : Int × Int) : ∀ (n r : Nat), ∃ t, rimL f P Q r n = t ++ [mT f P Q (r + n) 0 0]
  | 0, r => ⟨[], rfl⟩
  | n + 1, r => by
    obtain ⟨t, e⟩ := rimL_last f P Q n (r + 1)
    refine ⟨mT f P Q r (n + 1) 0 :: t, ?_⟩
    show mT f P Q r (n + 1) 0 :: rimL f P Q (r + 1) n = _
    rw [e, show r + 1 + n = r + (n + 1) by omega]
    rfl
theorem rim_two (f : Nat → Int) (P Q : Int × Int) (n : Nat) : cg 0 (rimL f P Q 0 n) + cg 0 (mT f P Q n 0 0 :: rimR f P Q 0 n) ≤ cg 0 (rowT f P Q 0 0 n) := by
  obtain ⟨t, e, hl⟩ := row_ne f P Q 0 0 n
  have h := tri_lq n (mT f P Q 0 n 0) t hl 0 []
  rw [← e, List.append_nil, List.append_nil, tri_rim, cg_app] at h
  obtain ⟨u, e2⟩ := rimL_last f P Q n 0
  rw [Nat.zero_add] at e2
  refine Nat.le_trans (Nat.add_le_add_left ?_ _) h
  rw [cg_c, if_neg (by simp)]
  by_cases z : mT f P Q n 0 0 = 0
  · rw [if_pos z, Nat.zero_add]
    exact cg_0le _ _
  · rw [if_neg z, e2, lz_snoc _ z, Nat.zero_add]
    exact Nat.le_refl _
theorem cf_rimL (f : Nat → Int) (P Q : Int × Int) : ∀ (n r i : Nat), i ≤ n → cf (rimL f P Q r n) i = mT f P Q (r + i) (n - i) 0
  | 0, r, i, h => by
    have : i = 0 := by omega
    subst this
    rfl
  | n + 1, r, 0, _ => rfl
  | n + 1, r, i + 1, h => by
    show cf (rimL f P Q (r + 1) n) i = _
    rw [cf_rimL f P Q n (r + 1) i (by omega)]
    congr 1
    · omega
    · omega
theorem rimL_len (f : Nat → Int) (P Q : Int × Int) : ∀ (n r : Nat), (rimL f P Q r n).length = n + 1
  | 0, r => rfl
  | n + 1, r => by
    show (rimL f P Q (r + 1) n).length + 1 = _
    rw [rimL_len]
theorem rimR_len (f : Nat → Int) (P Q : Int × Int) : ∀ (n r : Nat), (rimR f P Q r n).length = n
  | 0, r => rfl
  | n + 1, r => by
    show (rimR f P Q (r + 1) n ++ [_]).length = _
    rw [List.length_append, rimR_len]
    rfl
theorem cf_rimR (f : Nat → Int) (P Q : Int × Int) : ∀ (n r i : Nat), i < n → cf (rimR f P Q r n) i = mT f P Q (r + (n - 1 - i)) 0 (i + 1)
  | 0, r, i, h => by omega
  | n + 1, r, i, h => by
    show cf (rimR f P Q (r + 1) n ++ [_]) i = _
    have l := rimR_len f P Q n (r + 1)
    by_cases hi : i < n
    · rw [cf_lt (by rw [List.length_append, l]; simp; omega), List.getElem_append_left (by omega), ← cf_lt (by omega), cf_rimR f P Q n (r + 1) i hi]
      congr 1
      omega
    · have : i = n := by omega
      subst this
      rw [cf_lt (by rw [List.length_append, l]; simp), List.getElem_append_right (by omega)]
      simp only [l, Nat.sub_self, List.getElem_cons_zero]
      congr 1
      omega
theorem cf_row (f : Nat → Int) (P Q : Int × Int) (r : Nat) : ∀ (n a i : Nat), i ≤ n → cf (rowT f P Q r a n) i = mT f P Q r (n - i) (a + i)
  | 0, a, i, h => by
    have : i = 0 := by omega
    subst this
    rfl
  | n + 1, a, 0, _ => rfl
  | n + 1, a, i + 1, h => by
    show cf (rowT f P Q r (a + 1) n) i = _
    rw [cf_row f P Q r n (a + 1) i (by omega)]
    congr 1
    · omega
    · omega
theorem rowT_len (f : Nat → Int) (P Q : Int × Int) (r : Nat) : ∀ (n a : Nat), (rowT f P Q r a n).length = n + 1
  | 0, a => rfl
  | n + 1, a => by
    show (rowT f P Q r (a + 1) n).length + 1 = _
    rw [rowT_len]
namespace Po
/-- a point for a fraction -/
def Fp (P : Int × Int) (q : Rat) : Prop := 0 < P.2 ∧ q * (P.2 : Rat) = P.1
theorem Fp.pt {P Q : Int × Int} {q : Rat} (h : Fp P q) (g : Fp Q q) : Pt P Q := ⟨Q.2, P.2, g.1, h.1, by
  refine Rat.intCast_inj.mp ?_
  rw [Rat.intCast_mul, Rat.intCast_mul, ← h.2, ← g.2]
  grind, Int.mul_comm ..⟩
theorem btw_sg {p : Po} (p0 : p ≠ 0) {lo hi : Rat} {P Q : Int × Int} (hP : Fp P lo) (hQ : Fp Q hi) (i : Nat) (hi2 : i < p.len) : Sg (Rc.cf (btw p lo hi) i) (dI (List.replicate i Q ++ List.replicate (p.len - 1 - i) P) (Rc.cf p.l)) := by
  obtain ⟨B0, eL, eR⟩ := ends_ok lo hi
  rw [cf_btw]
  generalize lo.num * lcB lo.den hi.den / lo.den = L at *
  generalize hi.num * lcB lo.den hi.den / hi.den = R at *
  generalize lcB lo.den hi.den = B at *
  unfold len at *
  cases e : p.l with
  | nil => rw [e] at hi2; simp at hi2
  | cons w r =>
    rw [e] at hi2
    rw [List.length_cons] at hi2 ⊢
    rw [hc_Hf]
    have h := Hf_dI L R B i (r.length - i) (Rc.cf (w :: r))
    rw [show i + (r.length - i) = r.length by omega] at h
    have f1 : (0 : Int) < (fac i : Int) * (fac (r.length - i) : Int) := Int.mul_pos (by have := fac_pos i; omega) (by have := fac_pos (r.length - i); omega)
    have s1 := (Sg.mul f1 (Hf L R B r.length (Rc.cf (w :: r)) i)).symm
    rw [h] at s1
    refine s1.trans ?_
    have a1 : Fp (L, B) lo := ⟨B0, eL.symm⟩
    have a2 : Fp (R, B) hi := ⟨B0, eR.symm⟩
    refine (dI_pts (a2.pt hQ) _ i _).trans ?_
    rw [show r.length + 1 - 1 - i = r.length - i by omega]
    rw [dI_perm (List.perm_append_comm (l₁ := List.replicate i Q) (l₂ := List.replicate (r.length - i) (L, B))), dI_perm (List.perm_append_comm (l₁ := List.replicate i Q) (l₂ := List.replicate (r.length - i) P))]
    exact dI_pts (a1.pt hP) _ _ _
theorem mid_lt {lo hi : Rat} (h : lo < hi) : lo < (lo + hi) / 2 ∧ (lo + hi) / 2 < hi := ⟨by grind, by grind⟩
theorem fp_of (q : Rat) : Fp (q.num, q.den) q := ⟨denP q, by
  show q * (((q.den : Int)) : Rat) = (q.num : Rat)
  rw [num_eq, Rat.intCast_natCast]⟩
/-- both halves -/
theorem two_halves {p : Po} (p0 : p ≠ 0) {lo hi : Rat} : cg 0 (btw p lo ((lo + hi) / 2)) + cg 0 (btw p ((lo + hi) / 2) hi) ≤ cg 0 (btw p lo hi) := by
  obtain ⟨B0, eL, eR⟩ := ends_ok lo hi
  generalize lo.num * lcB lo.den hi.den / lo.den = L at *
  generalize hi.num * lcB lo.den hi.den / hi.den = R at *
  generalize lcB lo.den hi.den = B at *
  have a1 : Fp (L, B) lo := ⟨B0, eL.symm⟩
  have a2 : Fp (R, B) hi := ⟨B0, eR.symm⟩
  have a3 : Fp (L + R, B + B) ((lo + hi) / 2) := ⟨by show 0 < B + B; omega, by
    show (lo + hi) / 2 * ((B + B : Int) : Rat) = ((L + R : Int) : Rat)
    rw [Rat.intCast_add, Rat.intCast_add, eL, eR]
    grind⟩
  have lp := len_pos p0
  obtain ⟨n, hn⟩ : ∃ n, p.len = n + 1 := ⟨p.len - 1, by omega⟩
  have h := rim_two (Rc.cf p.l) (L, B) (R, B) n
  have out : ∀ {xs ys : List Int}, xs.length ≤ n + 1 → ys.length = n + 1 → (∀ i, i ≤ n → Sg (Rc.cf xs i) (Rc.cf ys i)) → cg 0 xs = cg 0 ys := fun {xs ys} l1 l2 hs => cg_sg xs ys 0 0 (Sg.refl 0) fun i => by
    by_cases hi : i ≤ n
    · exact hs i hi
    · rw [Rc.cf_ge (by omega), Rc.cf_ge (by omega)]
      exact Sg.refl 0
  have bl := fun (x y : Rat) => btw_len p x y
  rw [hn] at bl
  have e1 : cg 0 (btw p lo hi) = cg 0 (rowT (Rc.cf p.l) (L, B) (R, B) 0 0 n) := out (bl _ _) (rowT_len ..) fun i hi => by
    have s := btw_sg p0 a1 a2 i (by omega)
    rw [cf_row _ _ _ _ _ _ _ hi]
    unfold mT
    rw [hn, show n + 1 - 1 - i = n - i by omega] at s
    rw [show List.replicate 0 _ ++ (List.replicate (n - i) (L, B) ++ List.replicate (0 + i) (R, B)) = List.replicate (n - i) (L, B) ++ List.replicate i (R, B) by rw [Nat.zero_add]; rfl, dI_perm List.perm_append_comm]
    exact s
  have e2 : cg 0 (btw p lo ((lo + hi) / 2)) = cg 0 (rimL (Rc.cf p.l) (L, B) (R, B) 0 n) := out (bl _ _) (rimL_len ..) fun i hi => by
    have s := btw_sg p0 a1 a3 i (by omega)
    rw [cf_rimL _ _ _ _ _ _ hi]
    unfold mT
    rw [hn, show n + 1 - 1 - i = n - i by omega] at s
    rw [Nat.zero_add, show List.replicate 0 (R, B) = [] from rfl, List.append_nil]
    exact s
  have e3 : cg 0 (btw p ((lo + hi) / 2) hi) = cg 0 (mT (Rc.cf p.l) (L, B) (R, B) n 0 0 :: rimR (Rc.cf p.l) (L, B) (R, B) 0 n) := out (bl _ _) (by rw [List.length_cons, rimR_len]) fun i hi => by
    have s := btw_sg p0 a3 a2 i (by omega)
    rw [hn, show n + 1 - 1 - i = n - i by omega, dI_perm List.perm_append_comm] at s
    cases i with
    | zero =>
      rw [Rc.cf_0]
      unfold mT
      rw [Nat.sub_zero] at s
      exact s
    | succ j =>
      rw [cf_s, cf_rimR _ _ _ _ _ _ (by omega)]
      unfold mT
      rw [Nat.zero_add, show n - 1 - j = n - (j + 1) by omega]
      exact s
  rw [e1, e2, e3]
  exact h
end Po
end Rc

/-! Helpers of the walks through cuts and roots. -/
namespace Rc
open PySem
theorem cg_len : ∀ (xs : List Int) (l : Int), cg l xs ≤ xs.length
  | [], _ => Nat.zero_le _
  | w :: r, l => by
    rw [cg_c, List.length_cons]
    have := cg_len r (if w = 0 then l else w)
    split <;> omega
theorem cg_one (xs : List Int) (h : xs.length ≤ 1) : cg 0 (trim xs) = 0 := by
  have hl := Nat.le_trans (trim_len xs) h
  match e : trim xs, hl with
  | [], _ => rfl
  | [w], _ =>
    rw [cg_c, if_neg (by rw [Int.mul_zero]; omega)]
    rfl
/-- whether fractions rise -/
def riB : List Rat → Bool
  | [] => true
  | [_] => true
  | x :: y :: r => decide (x < y) && riB (y :: r)
theorem riB_iff : ∀ cs : List Rat, riB cs = true ↔ ∀ i (h : i + 1 < cs.length), cs[i] < cs[i + 1]
  | [] => ⟨fun _ i h => by simp at h, fun _ => rfl⟩
  | [_] => ⟨fun _ i h => by simp at h, fun _ => rfl⟩
  | x :: y :: r => by
    show (decide (x < y) && riB (y :: r)) = true ↔ _
    rw [Bool.and_eq_true, decide_eq_true_eq, riB_iff (y :: r)]
    constructor
    · rintro ⟨h1, h2⟩ i hi
      cases i with
      | zero => exact h1
      | succ i => exact h2 i (by simpa using hi)
    · intro h
      exact ⟨h 0 (by simp), fun i hi => h (i + 1) (by simpa using hi)⟩
theorem map_rng1 (m : Nat) : ((List.range m).map fun (i : Nat) => PyData.int (1 + (i : Int))) = (List.range' 1 m).map (fun (i : Nat) => PyData.int i) := by
  rw [List.range'_eq_map_range, List.map_map]
  refine List.map_congr_left fun i _ => ?_
  show PyData.int (1 + (i : Int)) = .int ((1 + i : Nat) : Int)
  congr 1
theorem atI_lastA {xs : List D} (ne : xs ≠ []) : L2.atI xs (-1) = some (xs.getLast ne) := by
  have hp := List.length_pos_iff.mpr ne
  unfold L2.atI L2.ixN
  rw [if_neg (by decide), if_pos (by omega)]
  show xs[((-1 : Int) + xs.length).toNat]? = _
  have : ((-1 : Int) + xs.length).toNat = xs.length - 1 := by omega
  rw [this, List.getElem?_eq_getElem (by omega), List.getLast_eq_getElem]
theorem atI_lastD {cs : List Rat} (ne : cs ≠ []) : L2.atI (cs.map fr) (-1) = some (fr (cs.getLast ne)) := by
  have hp := List.length_pos_iff.mpr ne
  have e := atI_lastA (xs := cs.map fr) (by simpa using ne)
  rw [e, List.getLast_map]
theorem max_of : ∀ {ns : List Int}, ns ≠ [] → ∃ m, m ∈ ns ∧ ∀ y ∈ ns, y ≤ m
  | [], h => absurd rfl h
  | [x], _ => ⟨x, List.mem_cons_self .., fun y hy => by rw [List.mem_singleton] at hy; omega⟩
  | x :: y :: r, _ => by
    obtain ⟨m, h1, h2⟩ := max_of (ns := y :: r) (by simp)
    by_cases hx : m ≤ x
    · exact ⟨x, List.mem_cons_self .., fun z hz => by
        rcases List.mem_cons.mp hz with rfl | hz
        · omega
        · have := h2 z hz
          omega⟩
    · exact ⟨m, List.mem_cons_of_mem _ h1, fun z hz => by
        rcases List.mem_cons.mp hz with rfl | hz
        · omega
        · exact h2 z hz⟩
namespace Po
/-- what a greatest common part comes of, within bounds -/
def BzB (a b d : Po) (n x : Nat) : Prop := ∃ l r c, (d ≠ 0 → c ≠ 0) ∧ l * a + r * b = C c * d ∧ B n x l ∧ B n x r
theorem FB.of_gc {p d : Po} {N b x : Nat} (hp : B N b p) (p0 : p ≠ 0) (g : Gc p (der p) d) (hl : d.len < 2) (h : BzB p (der p) d (N + 1) x) : FB p N b x := by
  obtain ⟨l, r, c, c0, e, lB, rB⟩ := h
  have d0 : d ≠ 0 := fun z => p0 (by
    obtain ⟨u, hu⟩ := g.da
    rw [hu, z]
    grind)
  have dc := len1 (p := d) (by omega)
  refine ⟨p0, hp, l, r, c * d.cf 0, ?_, ?_, lB, rB⟩
  · refine Int.mul_ne_zero (c0 d0) fun z => d0 ?_
    rw [dc, z]
    rfl
  · rw [e, C_mul, ← dc]
end Po
/-- the cost of what is left -/
def left (p : Po) (D : Nat) : List (Rat × Rat × Nat) → Nat
  | [] => 0
  | (lo, hi, d) :: r => (1 + cg 0 (Po.btw p lo hi) * (D - d)) + left p D r
theorem left_len (p : Po) (D : Nat) : ∀ r : List (Rat × Rat × Nat), r.length ≤ left p D r
  | [] => Nat.zero_le _
  | (lo, hi, d) :: r => by
    have := left_len p D r
    show r.length + 1 ≤ (1 + _) + left p D r
    omega
theorem left_two {p : Po} (p0 : p ≠ 0) {D d : Nat} {lo hi : Rat} (r : List (Rat × Rat × Nat)) (hd : d < D) (h : 2 ≤ cg 0 (Po.btw p lo hi)) :
    left p D ((lo, (lo + hi) / 2, d + 1) :: ((lo + hi) / 2, hi, d + 1) :: r) < left p D ((lo, hi, d) :: r) := by
  have t := Po.two_halves p0 (lo := lo) (hi := hi)
  show (1 + cg 0 (Po.btw p lo ((lo + hi) / 2)) * (D - (d + 1))) + ((1 + cg 0 (Po.btw p ((lo + hi) / 2) hi) * (D - (d + 1))) + left p D r) < (1 + cg 0 (Po.btw p lo hi) * (D - d)) + left p D r
  obtain ⟨e, he⟩ : ∃ e, D - d = e + 1 := ⟨D - d - 1, by omega⟩
  rw [show D - (d + 1) = e by omega, he]
  have := Nat.mul_le_mul_right e t
  rw [Nat.add_mul] at this
  rw [Nat.mul_add, Nat.mul_one]
  omega
end Rc

namespace K20
open PySem Rc
local macro_rules | `(tactic| walk_at "s") => `(tactic| simp only [↓wE.eq_1, ↓wE.eq_2, ↓wE.eq_3, ↓wE.eq_4, ↓wE.eq_5, ↓wE.eq_6, ↓wE.eq_7, ↓wE.eq_8, ↓wE.eq_9, ↓wE.eq_10, ↓wE.eq_11, ↓wE.eq_12, ↓wE.eq_13, ↓wE.eq_14, ↓wE.eq_15, ↓wE.eq_16, ↓wE.eq_18, ↓wE.eq_19, ↓wE.eq_22, ↓wE.eq_23, ↓wE.eq_24, ↓wE.eq_25, ↓wE.eq_26, ↓wE.eq_27, ↓wE.eq_28, ↓wE.eq_29, ↓wE.eq_30, ↓wE.eq_31, ↓wE.eq_32, ↓wE.eq_34, ↓wE.eq_35, ↓wE.eq_36, ↓wE.eq_37, ↓wE.eq_38, ↓wE.eq_39, ↓wE.eq_40, ↓wE_call, ↓wE_callP, ↓wE_lc, ↓wE_lcg, ↓wE_isv, ↓wE_ix, ↓ix_fr0, ↓ix_fr1, ↓cmp_fr, ↓cmp_frn, ↓cmp_fr0, ↓cmp_tz, ↓cmp_tzn, ↓cmp_tz0, ↓cmp_tzn0, ↓bi_list_tz, ↓add_tz,  ↓len_tz, ↓len_fr, ↓isT_fr, items_tz, ↓cmp_bb, ↓cmp_bbn, ↓wS_whl, ↓wS_for, ↓wS_forP, ↓wS_asg, ↓wS_par, ↓wS_setIx, ↓wS_app, ↓tgW_one, ↓tgW_tup, pvF_eq, ↓wS.eq_1, ↓wS.eq_2, ↓wS.eq_3, ↓wS.eq_5, ↓wS.eq_7, ↓wS.eq_10, ↓wS.eq_11, ↓wS.eq_12, ↓wS.eq_13, ↓wS.eq_14, ↓wS.eq_15, ↓wS.eq_16, ↓wS.eq_17, ↓wS.eq_20, ↓wS.eq_21, ↓wS.eq_22, ↓wS.eq_23, ↓wS.eq_24, ↓wS.eq_25, ↓wS.eq_26, ↓wS.eq_27, ↓wS.eq_28, ↓wS.eq_29, ↓wS.eq_30, ↓augW.eq_1, ↓augW.eq_2, ↓augW.eq_3, ↓augW.eq_4, ↓inW.eq_1, ↓inW.eq_2, ↓inW.eq_3, ↓zipW.eq_1, ↓zipW.eq_2, ↓cntW.eq_1, ↓dspW.eq_1, ↓opW.eq_1, ↓opW.eq_2, ↓opW.eq_3, ↓opW.eq_4, ↓opW.eq_5, ↓opW.eq_6, ↓opW.eq_7, ↓opW.eq_8, ↓opW.eq_9, ↓opW.eq_10, ↓opW.eq_11, ↓opW.eq_12, ↓opW.eq_13, ↓opW.eq_14, ↓cmpW.eq_1, ↓cmpW.eq_2, ↓cmpW.eq_5, ↓cmpW.eq_6, ↓cmpW.eq_7, ↓cmpW.eq_8, ↓cmpW.eq_9, ↓cmpW.eq_10, ↓cmpW.eq_11, ↓cmpW.eq_12, ↓cmp_ll, ↓cmp_lln, ↓cmp_tt, ↓cmp_ttn, ↓biW.eq_1, ↓biW.eq_2, ↓biW.eq_3, ↓biW.eq_4, ↓biW.eq_5, ↓biW.eq_6, ↓biW.eq_7, ↓biW.eq_8, ↓biW.eq_9, ↓biW.eq_10, ↓biW.eq_11, ↓biW.eq_12, ↓biW.eq_13, ↓biW.eq_14, ↓biW.eq_15, ↓biW.eq_16, ↓biW.eq_17, ↓lenW.eq_1, ↓lenW.eq_2, ↓slW.eq_1, ↓slW.eq_2, ↓revW.eq_1, ↓revW.eq_2, ↓pkW_var, ↓ptW_nil, ↓ptK_i, ↓pkW_cst, ↓pkW_tup, ↓pkW_lst, ↓pkW_bin, ↓pkW_neg, ↓pkW_ix, ↓pkW_sl, ↓pkW_rev, ↓pkW_call, ↓pkW_callP, ↓pkW_bi, ↓pkW_len, ↓pkW_lc, ↓pkW_ite, ↓pkW_gc, ↓pkW_mov, ↓pkW_dsp, ↓pkW_bone, ↓pkW_cmp, ↓pkW_cnt, ↓ptW_cst, ↓ptW_tup, ↓ptW_lst, ↓ptW_bin, ↓ptW_neg, ↓ptW_ix, ↓ptW_sl, ↓ptW_rev, ↓ptW_call, ↓ptW_callP, ↓ptW_bi, ↓ptW_len, ↓ptW_lc, ↓ptW_ite, ↓ptW_gc, ↓ptW_mov, ↓ptW_dsp, ↓ptW_bone, ↓ptW_cmp, ↓ptW_cnt, ↓ptW_var, ↓peek, ↓ownAt, ↓kD.eq_1, ↓kD.eq_2, ↓kM.eq_1, ↓kB.eq_1, ↓kV.eq_1, ↓kV.eq_2, ↓setW, ↓rngW1.eq_1, ↓rngW2.eq_1, ↓rngWd.eq_1, isVar, isNil, isT, gv, pv, setAll, ev0, items.eq_1, items.eq_2, tgs, wipeE, blind_cons, blind_nil, bl1, runB, List.map_cons, List.map_nil, List.replicate, List.cons_append, List.nil_append, if_true, if_false, ite_true, ite_false, reduceCtorEq, Bool.true_and, Bool.and_true, Bool.not_true, Bool.not_false, Bool.false_eq_true, ↓reduceIte, Nat.reduceSub, Nat.reduceAdd, List.length_cons, List.length_nil, decide_eq_true_eq, Bool.not_eq_true', decide_eq_false_iff_not, Bool.and_false, Bool.false_and, true_and, and_true, Nat.sub_self, Nat.succ_eq_add_one, flat, Nat.reduceLeDiff, Int.reduceLE, Int.reduceLT, Int.reduceEq, ne_eq, not_false_eq_true, s10, la_2, la_3, la_4, la_5, la_6, la_7, la_8, la_9, la_10, la_11, la_12, la_13, la_14, la_15, la_16, la_18, la_19, la_20, la_21, la_24, la_25, la_28, la_30, la_35, la_36, la_39, la_40, la_41, la_44, la_45, la_49, la_50, la_52, la_54, la_57, la_63, la_64, la_65, la_72, la_78, la_81, la_90, la_100, la_121, la_123, la_125, la_126, la_144, la_162, la_168, la_176, la_196, la_200, la_216, la_240, la_360, la_369, la_400, la_402, la_441, la_540, la_550, la_900, la_907, la_997, la_1009, la_1100, la_1152, la_1440, la_1764, la_2001, la_2003, la_2200, la_3150, la_4099, la_16807, la_22500, la_24200, la_72600, Nat.reduceLT, ↓ix_t0, ↓ix_t1, ↓ix_t2, ↓ix_t3, ↓ix_t4, ↓ix_t5, ↓ix_t6, ↓ix_l0, ↓ix_l1, ↓ix_l2, ↓ix_l3, ↓ix_l4, ↓ix_l5, ↓ix_l6, ↓add_ttz, ↓isT_tz, ↓sl_tz, isN_non, isN_tup, isN_lst, isN_int, isN_str, isN_bl, isN_fr, isN_tz, ↓hS.eq_1, ↓hS.eq_2, ↓hS.eq_3, ↓hS.eq_4, hE, hB, ↓hide.eq_1, ↓hide.eq_2, isS, Nat.reduceBEq, Bool.or_true, Bool.or_false, Bool.true_or, Bool.false_or, beq_self_eq_true, not_true_eq_false, Int.cast_ofNat_Int])
section
variable {k : Nat} {X : Nat → Prop} {Q : Val → Prop}
theorem p_whole {x : D} (h : Q (.d (.bool (isW x)))) : sem fns (k + 1) 0 [x] X Q := by
  refine sem_at rfl ⟨rfl, ?_⟩
  cases x <;> ((simp only [b_is_whole]; walk_at "s"); exact h)

theorem p_divisor {a b : Int} (h : Q (.d (.int (Int.gcd a b)))) : sem fns (k + 1) 1 [.int a, .int b] X Q := by
  refine sem_at rfl ⟨rfl, ?_⟩
  (simp only [b_divisor]; walk_at "s")
  rw [absI, absI]
  refine whl_at (fun m ε => ∃ x y : Nat, ε = [some (.d (.int x)), some (.d (.int y))] ∧ Nat.gcd x y = Int.gcd a b ∧ m = y) b.natAbs ⟨_, _, rfl, rfl, rfl⟩ ?_
  rintro m ε1 ⟨x, y, rfl, hg, rfl⟩
  (simp only [c_divisor_1, b_divisor_2, b_divisor_3]; walk_at "s")
  split
  · rename_i hp
    refine ⟨by omega, x % m, Nat.mod_lt _ (by omega), _, _, by rw [fmod_nat], ?_, rfl⟩
    rw [← hg, Nat.gcd_comm m, ← Nat.gcd_rec, Nat.gcd_comm]
  · rename_i hp
    have e : m = 0 := by omega
    subst e
    rw [Nat.gcd_zero_right] at hg
    rw [hg]
    exact h

theorem p_divisor_of {xs : List Int} {d : D} (hd : d = .list (xs.map .int) ∨ d = .tuple (xs.map .int)) (h : Q (.d (.int (gcdL xs)))) : sem fns (k + 2) 2 [d] X Q := by
  refine sem_at rfl ⟨rfl, ?_⟩
  have core : forF (.one 2) (fun ε2 D' => wS (sem fns (k + 1)) b_divisor_of_1 ε2 D') { nx := fun ε1 => wS (sem fns (k + 1)) b_divisor_of_2 ε1 { nx := fun _ => Q (.d .none), rt := Q, ex := fun c _ => X c }, rt := Q, ex := fun c _ => X c } .mk (xs.map .int) [some (.d d), some (.d (.int 0)), none] := by
    refine for_at' (fun r ε => ∃ (ys : List Int) (g : Nat) (o : Option Val), r = ys.map .int ∧ ε = [some (.d d), some (.d (.int g)), o] ∧ ys.foldl (fun g x => Int.gcd g x) g = gcdL xs) ?_ ?_ _ _ ⟨xs, 0, none, rfl, rfl, rfl⟩
    · rintro x r ε ⟨ys, g, o, hr, rfl, hg⟩ hnx
      cases ys with
      | nil => cases hr
      | cons y ys =>
        cases hr
        (simp only [b_divisor_of_1]; walk_at "s")
        refine p_divisor ?_
        walk_at "s"
        exact hnx _ ⟨ys, _, _, rfl, rfl, hg⟩
    · rintro ε ⟨ys, g, o, hr, rfl, hg⟩
      cases ys with
      | cons y ys => cases hr
      | nil =>
        (simp only [b_divisor_of_2]; walk_at "s")
        rw [← hg] at h
        exact h
  rcases hd with rfl | rfl
  · (simp only [b_divisor_of]; walk_at "s")
    exact core
  · (simp only [b_divisor_of]; walk_at "s")
    exact core

theorem p_is_fraction {d : D} (h : Q (.d (.bool (fracV d)))) : sem fns (k + 2) 3 [d] X Q := by
  refine sem_at rfl ⟨rfl, ?_⟩
  cases d with
  | tuple xs =>
    (simp only [b_is_fraction]; walk_at "s")
    by_cases hl : xs.length = 2
    · obtain ⟨x, y, rfl⟩ : ∃ x y, xs = [x, y] := by
        match xs, hl with
        | [x, y], _ => exact ⟨x, y, rfl⟩
      walk_at "s"
      refine p_whole ?_
      cases hx : isW x with
      | false =>
        rw [fracV_l hx] at h
        walk_at "s"
        exact h
      | true =>
        cases x with
        | int i =>
          walk_at "s"
          refine p_whole ?_
          cases hy : isW y with
          | false =>
            rw [fracV_r hy] at h
            walk_at "s"
            exact h
          | true =>
            cases y with
            | int j =>
              walk_at "s"
              have h' : Q (.d (.bool (decide (0 < j) && decide (Int.gcd i j = 1)))) := h
              split
              · rename_i hj
                refine p_divisor ?_
                walk_at "s"
                have e : decide ((Int.gcd i j : Int) = 1) = decide (Int.gcd i j = 1) := by
                  by_cases z : Int.gcd i j = 1
                  · simp [z]
                  · rw [decide_eq_false z, decide_eq_false (by omega)]
                rw [e]
                simpa [hj] using h'
              · rename_i hj
                simpa [hj] using h'
            | _ => cases hy
        | _ => cases hx
    · rw [fracV_len hl] at h
      rw [if_pos (by omega)]
      exact h
  | _ =>
    (simp only [b_is_fraction]; walk_at "s")
    exact h

theorem p_fraction0 {t : Int} (h : X 1) : sem fns (k + 2) 4 [.int t, .int 0] X Q := by
  refine sem_at rfl ⟨rfl, ?_⟩
  (simp only [b_fraction]; walk_at "s")
  exact h
theorem p_fraction {t b : Int} (hb : b ≠ 0) (h : Q (.d (fr (Rat.divInt t b)))) : sem fns (k + 2) 4 [.int t, .int b] X Q := by
  refine sem_at rfl ⟨rfl, ?_⟩
  (simp only [b_fraction]; walk_at "s")
  rw [if_neg hb]
  refine p_divisor ?_
  walk_at "s"
  have g0 := gsg0 (t := t) hb
  have e1 := fr_num (t := t) hb
  have e2 := fr_den (t := t) hb
  unfold gsg at g0 e1 e2
  split
  · rename_i hn
    rw [if_pos hn] at g0 e1 e2
    (simp only [b_fraction_1]; walk_at "s")
    refine ⟨g0, g0, ?_⟩
    rw [e1, e2]
    exact h
  · rename_i hn
    rw [if_neg hn] at g0 e1 e2
    (simp only [b_fraction_1]; walk_at "s")
    refine ⟨g0, g0, ?_⟩
    rw [e1, e2]
    exact h

theorem p_plus {a : Nat} {p q : Rat} (hp : Sz a p) (hq : Sz a q) (ha : a ≤ 60000000) (h : Q (.d (fr (p + q)))) : sem fns (k + 3) 5 [fr p, fr q] X Q := by
  refine sem_at rfl ⟨rfl, ?_⟩
  (simp only [b_plus]; walk_at "s")
  refine ⟨mulOk_of hp.1 hq.2 (by omega), mulOk_of hq.1 hp.2 (by omega), mulOk_of hp.2 hq.2 (by omega), ?_⟩
  refine p_fraction (mul_den0 p q) ?_
  rw [frac_add]
  exact h

theorem p_less {a : Nat} {p q : Rat} (hp : Sz a p) (hq : Sz a q) (ha : a ≤ 60000000) (h : Q (.d (.bool (decide (p < q))))) : sem fns (k + 1) 6 [fr p, fr q] X Q := by
  refine sem_at rfl ⟨rfl, ?_⟩
  (simp only [b_less]; walk_at "s")
  refine ⟨mulOk_of hp.1 hq.2 (by omega), mulOk_of hq.1 hp.2 (by omega), ?_⟩
  rw [lt_fr]
  exact h

theorem p_is_poly {d : D} (hd : ∀ xs, d = .tuple xs → xs.length ≤ 16777216) (h : Q (.d (.bool (isPolyV d)))) : sem fns (k + 2) 7 [d] X Q := by
  refine sem_at rfl ⟨rfl, ?_⟩
  cases d with
  | tuple xs =>
    (simp only [b_is_poly]; walk_at "s")
    refine lc_map' (fun d => .bool (isW d)) (fun x hx kk hk => ?_) (hd xs rfl) ?_
    · (simp only [e_is_poly_1]; walk_at "s")
      refine p_whole ?_
      walk_at "s"
      exact hk _
    walk_at "s"
    refine ⟨_, asBools_map isW xs, ?_⟩
    rw [all_isW]
    cases e : asInts xs with
    | none =>
      rw [isPolyV_n e] at h
      simp only [Option.isSome_none, ↓wE.eq_1, ↓wE.eq_2, ↓wE.eq_3, ↓wE.eq_4, ↓wE.eq_5, ↓wE.eq_6, ↓wE.eq_7, ↓wE.eq_8, ↓wE.eq_9, ↓wE.eq_10, ↓wE.eq_11, ↓wE.eq_12, ↓wE.eq_13, ↓wE.eq_14, ↓wE.eq_15, ↓wE.eq_16, ↓wE.eq_18, ↓wE.eq_19, ↓wE.eq_22, ↓wE.eq_23, ↓wE.eq_24, ↓wE.eq_25, ↓wE.eq_26, ↓wE.eq_27, ↓wE.eq_28, ↓wE.eq_29, ↓wE.eq_30, ↓wE.eq_31, ↓wE.eq_32, ↓wE.eq_34, ↓wE.eq_35, ↓wE.eq_36, ↓wE.eq_37, ↓wE.eq_38, ↓wE.eq_39, ↓wE.eq_40, ↓wE_call, ↓wE_callP, ↓wE_lc, ↓wE_lcg, ↓wE_isv, ↓wE_ix, ↓ix_fr0, ↓ix_fr1, ↓cmp_fr, ↓cmp_frn, ↓cmp_fr0, ↓cmp_tz, ↓cmp_tzn, ↓cmp_tz0, ↓cmp_tzn0, ↓bi_list_tz, ↓add_tz,  ↓len_tz, ↓len_fr, ↓isT_fr, items_tz, ↓cmp_bb, ↓cmp_bbn, ↓wS_whl, ↓wS_for, ↓wS_forP, ↓wS_asg, ↓wS_par, ↓wS_setIx, ↓wS_app, ↓tgW_one, ↓tgW_tup, pvF_eq, ↓wS.eq_1, ↓wS.eq_2, ↓wS.eq_3, ↓wS.eq_5, ↓wS.eq_7, ↓wS.eq_10, ↓wS.eq_11, ↓wS.eq_12, ↓wS.eq_13, ↓wS.eq_14, ↓wS.eq_15, ↓wS.eq_16, ↓wS.eq_17, ↓wS.eq_20, ↓wS.eq_21, ↓wS.eq_22, ↓wS.eq_23, ↓wS.eq_24, ↓wS.eq_25, ↓wS.eq_26, ↓wS.eq_27, ↓wS.eq_28, ↓wS.eq_29, ↓wS.eq_30, ↓augW.eq_1, ↓augW.eq_2, ↓augW.eq_3, ↓augW.eq_4, ↓inW.eq_1, ↓inW.eq_2, ↓inW.eq_3, ↓zipW.eq_1, ↓zipW.eq_2, ↓cntW.eq_1, ↓dspW.eq_1, ↓opW.eq_1, ↓opW.eq_2, ↓opW.eq_3, ↓opW.eq_4, ↓opW.eq_5, ↓opW.eq_6, ↓opW.eq_7, ↓opW.eq_8, ↓opW.eq_9, ↓opW.eq_10, ↓opW.eq_11, ↓opW.eq_12, ↓opW.eq_13, ↓opW.eq_14, ↓cmpW.eq_1, ↓cmpW.eq_2, ↓cmpW.eq_5, ↓cmpW.eq_6, ↓cmpW.eq_7, ↓cmpW.eq_8, ↓cmpW.eq_9, ↓cmpW.eq_10, ↓cmpW.eq_11, ↓cmpW.eq_12, ↓cmp_ll, ↓cmp_lln, ↓cmp_tt, ↓cmp_ttn, ↓biW.eq_1, ↓biW.eq_2, ↓biW.eq_3, ↓biW.eq_4, ↓biW.eq_5, ↓biW.eq_6, ↓biW.eq_7, ↓biW.eq_8, ↓biW.eq_9, ↓biW.eq_10, ↓biW.eq_11, ↓biW.eq_12, ↓biW.eq_13, ↓biW.eq_14, ↓biW.eq_15, ↓biW.eq_16, ↓biW.eq_17, ↓lenW.eq_1, ↓lenW.eq_2, ↓slW.eq_1, ↓slW.eq_2, ↓revW.eq_1, ↓revW.eq_2, ↓pkW_var, ↓ptW_nil, ↓ptK_i, ↓pkW_cst, ↓pkW_tup, ↓pkW_lst, ↓pkW_bin, ↓pkW_neg, ↓pkW_ix, ↓pkW_sl, ↓pkW_rev, ↓pkW_call, ↓pkW_callP, ↓pkW_bi, ↓pkW_len, ↓pkW_lc, ↓pkW_ite, ↓pkW_gc, ↓pkW_mov, ↓pkW_dsp, ↓pkW_bone, ↓pkW_cmp, ↓pkW_cnt, ↓ptW_cst, ↓ptW_tup, ↓ptW_lst, ↓ptW_bin, ↓ptW_neg, ↓ptW_ix, ↓ptW_sl, ↓ptW_rev, ↓ptW_call, ↓ptW_callP, ↓ptW_bi, ↓ptW_len, ↓ptW_lc, ↓ptW_ite, ↓ptW_gc, ↓ptW_mov, ↓ptW_dsp, ↓ptW_bone, ↓ptW_cmp, ↓ptW_cnt, ↓ptW_var, ↓peek, ↓ownAt, ↓kD.eq_1, ↓kD.eq_2, ↓kM.eq_1, ↓kB.eq_1, ↓kV.eq_1, ↓kV.eq_2, ↓setW, ↓rngW1.eq_1, ↓rngW2.eq_1, ↓rngWd.eq_1, isVar, isNil, isT, gv, pv, setAll, ev0, items.eq_1, items.eq_2, tgs, wipeE, blind_cons, blind_nil, bl1, runB, List.map_cons, List.map_nil, List.replicate, List.cons_append, List.nil_append, if_true, if_false, ite_true, ite_false, reduceCtorEq, Bool.true_and, Bool.and_true, Bool.not_true, Bool.not_false, Bool.false_eq_true, ↓reduceIte, Nat.reduceSub, Nat.reduceAdd, List.length_cons, List.length_nil, decide_eq_true_eq, Bool.not_eq_true', decide_eq_false_iff_not, Bool.and_false, Bool.false_and, true_and, and_true, Nat.sub_self, Nat.succ_eq_add_one, flat, Nat.reduceLeDiff, Int.reduceLE, Int.reduceLT, Int.reduceEq, ne_eq, not_false_eq_true, s10, la_2, la_3, la_4, la_5, la_6, la_7, la_8, la_9, la_10, la_11, la_12, la_13, la_14, la_15, la_16, la_18, la_19, la_20, la_21, la_24, la_25, la_28, la_30, la_35, la_36, la_39, la_40, la_41, la_44, la_45, la_49, la_50, la_52, la_54, la_57, la_63, la_64, la_65, la_72, la_78, la_81, la_90, la_100, la_121, la_123, la_125, la_126, la_144, la_162, la_168, la_176, la_196, la_200, la_216, la_240, la_360, la_369, la_400, la_402, la_441, la_540, la_550, la_900, la_907, la_997, la_1009, la_1100, la_1152, la_1440, la_1764, la_2001, la_2003, la_2200, la_3150, la_4099, la_16807, la_22500, la_24200, la_72600, Nat.reduceLT, ↓ix_t0, ↓ix_t1, ↓ix_t2, ↓ix_t3, ↓ix_t4, ↓ix_t5, ↓ix_t6, ↓ix_l0, ↓ix_l1, ↓ix_l2, ↓ix_l3, ↓ix_l4, ↓ix_l5, ↓ix_l6, ↓add_ttz, ↓isT_tz, ↓sl_tz, isN_non, isN_tup, isN_lst, isN_int, isN_str, isN_bl, isN_fr, isN_tz, ↓hS.eq_1, ↓hS.eq_2, ↓hS.eq_3, ↓hS.eq_4, hE, hB, ↓hide.eq_1, ↓hide.eq_2, isS, Nat.reduceBEq, Bool.or_true, Bool.or_false, Bool.true_or, Bool.false_or, beq_self_eq_true, not_true_eq_false, Int.cast_ofNat_Int]
      exact h
    | some ns =>
      rw [isPolyV_s e] at h
      have := asInts_some e
      subst this
      simp only [Option.isSome_some, ↓wE.eq_1, ↓wE.eq_2, ↓wE.eq_3, ↓wE.eq_4, ↓wE.eq_5, ↓wE.eq_6, ↓wE.eq_7, ↓wE.eq_8, ↓wE.eq_9, ↓wE.eq_10, ↓wE.eq_11, ↓wE.eq_12, ↓wE.eq_13, ↓wE.eq_14, ↓wE.eq_15, ↓wE.eq_16, ↓wE.eq_18, ↓wE.eq_19, ↓wE.eq_22, ↓wE.eq_23, ↓wE.eq_24, ↓wE.eq_25, ↓wE.eq_26, ↓wE.eq_27, ↓wE.eq_28, ↓wE.eq_29, ↓wE.eq_30, ↓wE.eq_31, ↓wE.eq_32, ↓wE.eq_34, ↓wE.eq_35, ↓wE.eq_36, ↓wE.eq_37, ↓wE.eq_38, ↓wE.eq_39, ↓wE.eq_40, ↓wE_call, ↓wE_callP, ↓wE_lc, ↓wE_lcg, ↓wE_isv, ↓wE_ix, ↓ix_fr0, ↓ix_fr1, ↓cmp_fr, ↓cmp_frn, ↓cmp_fr0, ↓cmp_tz, ↓cmp_tzn, ↓cmp_tz0, ↓cmp_tzn0, ↓bi_list_tz, ↓add_tz,  ↓len_tz, ↓len_fr, ↓isT_fr, items_tz, ↓cmp_bb, ↓cmp_bbn, ↓wS_whl, ↓wS_for, ↓wS_forP, ↓wS_asg, ↓wS_par, ↓wS_setIx, ↓wS_app, ↓tgW_one, ↓tgW_tup, pvF_eq, ↓wS.eq_1, ↓wS.eq_2, ↓wS.eq_3, ↓wS.eq_5, ↓wS.eq_7, ↓wS.eq_10, ↓wS.eq_11, ↓wS.eq_12, ↓wS.eq_13, ↓wS.eq_14, ↓wS.eq_15, ↓wS.eq_16, ↓wS.eq_17, ↓wS.eq_20, ↓wS.eq_21, ↓wS.eq_22, ↓wS.eq_23, ↓wS.eq_24, ↓wS.eq_25, ↓wS.eq_26, ↓wS.eq_27, ↓wS.eq_28, ↓wS.eq_29, ↓wS.eq_30, ↓augW.eq_1, ↓augW.eq_2, ↓augW.eq_3, ↓augW.eq_4, ↓inW.eq_1, ↓inW.eq_2, ↓inW.eq_3, ↓zipW.eq_1, ↓zipW.eq_2, ↓cntW.eq_1, ↓dspW.eq_1, ↓opW.eq_1, ↓opW.eq_2, ↓opW.eq_3, ↓opW.eq_4, ↓opW.eq_5, ↓opW.eq_6, ↓opW.eq_7, ↓opW.eq_8, ↓opW.eq_9, ↓opW.eq_10, ↓opW.eq_11, ↓opW.eq_12, ↓opW.eq_13, ↓opW.eq_14, ↓cmpW.eq_1, ↓cmpW.eq_2, ↓cmpW.eq_5, ↓cmpW.eq_6, ↓cmpW.eq_7, ↓cmpW.eq_8, ↓cmpW.eq_9, ↓cmpW.eq_10, ↓cmpW.eq_11, ↓cmpW.eq_12, ↓cmp_ll, ↓cmp_lln, ↓cmp_tt, ↓cmp_ttn, ↓biW.eq_1, ↓biW.eq_2, ↓biW.eq_3, ↓biW.eq_4, ↓biW.eq_5, ↓biW.eq_6, ↓biW.eq_7, ↓biW.eq_8, ↓biW.eq_9, ↓biW.eq_10, ↓biW.eq_11, ↓biW.eq_12, ↓biW.eq_13, ↓biW.eq_14, ↓biW.eq_15, ↓biW.eq_16, ↓biW.eq_17, ↓lenW.eq_1, ↓lenW.eq_2, ↓slW.eq_1, ↓slW.eq_2, ↓revW.eq_1, ↓revW.eq_2, ↓pkW_var, ↓ptW_nil, ↓ptK_i, ↓pkW_cst, ↓pkW_tup, ↓pkW_lst, ↓pkW_bin, ↓pkW_neg, ↓pkW_ix, ↓pkW_sl, ↓pkW_rev, ↓pkW_call, ↓pkW_callP, ↓pkW_bi, ↓pkW_len, ↓pkW_lc, ↓pkW_ite, ↓pkW_gc, ↓pkW_mov, ↓pkW_dsp, ↓pkW_bone, ↓pkW_cmp, ↓pkW_cnt, ↓ptW_cst, ↓ptW_tup, ↓ptW_lst, ↓ptW_bin, ↓ptW_neg, ↓ptW_ix, ↓ptW_sl, ↓ptW_rev, ↓ptW_call, ↓ptW_callP, ↓ptW_bi, ↓ptW_len, ↓ptW_lc, ↓ptW_ite, ↓ptW_gc, ↓ptW_mov, ↓ptW_dsp, ↓ptW_bone, ↓ptW_cmp, ↓ptW_cnt, ↓ptW_var, ↓peek, ↓ownAt, ↓kD.eq_1, ↓kD.eq_2, ↓kM.eq_1, ↓kB.eq_1, ↓kV.eq_1, ↓kV.eq_2, ↓setW, ↓rngW1.eq_1, ↓rngW2.eq_1, ↓rngWd.eq_1, isVar, isNil, isT, gv, pv, setAll, ev0, items.eq_1, items.eq_2, tgs, wipeE, blind_cons, blind_nil, bl1, runB, List.map_cons, List.map_nil, List.replicate, List.cons_append, List.nil_append, if_true, if_false, ite_true, ite_false, reduceCtorEq, Bool.true_and, Bool.and_true, Bool.not_true, Bool.not_false, Bool.false_eq_true, ↓reduceIte, Nat.reduceSub, Nat.reduceAdd, List.length_cons, List.length_nil, decide_eq_true_eq, Bool.not_eq_true', decide_eq_false_iff_not, Bool.and_false, Bool.false_and, true_and, and_true, Nat.sub_self, Nat.succ_eq_add_one, flat, Nat.reduceLeDiff, Int.reduceLE, Int.reduceLT, Int.reduceEq, ne_eq, not_false_eq_true, s10, la_2, la_3, la_4, la_5, la_6, la_7, la_8, la_9, la_10, la_11, la_12, la_13, la_14, la_15, la_16, la_18, la_19, la_20, la_21, la_24, la_25, la_28, la_30, la_35, la_36, la_39, la_40, la_41, la_44, la_45, la_49, la_50, la_52, la_54, la_57, la_63, la_64, la_65, la_72, la_78, la_81, la_90, la_100, la_121, la_123, la_125, la_126, la_144, la_162, la_168, la_176, la_196, la_200, la_216, la_240, la_360, la_369, la_400, la_402, la_441, la_540, la_550, la_900, la_907, la_997, la_1009, la_1100, la_1152, la_1440, la_1764, la_2001, la_2003, la_2200, la_3150, la_4099, la_16807, la_22500, la_24200, la_72600, Nat.reduceLT, ↓ix_t0, ↓ix_t1, ↓ix_t2, ↓ix_t3, ↓ix_t4, ↓ix_t5, ↓ix_t6, ↓ix_l0, ↓ix_l1, ↓ix_l2, ↓ix_l3, ↓ix_l4, ↓ix_l5, ↓ix_l6, ↓add_ttz, ↓isT_tz, ↓sl_tz, isN_non, isN_tup, isN_lst, isN_int, isN_str, isN_bl, isN_fr, isN_tz, ↓hS.eq_1, ↓hS.eq_2, ↓hS.eq_3, ↓hS.eq_4, hE, hB, ↓hide.eq_1, ↓hide.eq_2, isS, Nat.reduceBEq, Bool.or_true, Bool.or_false, Bool.true_or, Bool.false_or, beq_self_eq_true, not_true_eq_false, Int.cast_ofNat_Int]
      refine ⟨shapedT ns, shapedT [], ?_⟩
      rw [show PyData.eqv (.tuple (ns.map .int)) (.tuple []) = decide (ns = []) from eqvT ns []]
      by_cases h0 : ns = []
      · subst h0
        simp only [decide_true, ↓wE.eq_1, ↓wE.eq_2, ↓wE.eq_3, ↓wE.eq_4, ↓wE.eq_5, ↓wE.eq_6, ↓wE.eq_7, ↓wE.eq_8, ↓wE.eq_9, ↓wE.eq_10, ↓wE.eq_11, ↓wE.eq_12, ↓wE.eq_13, ↓wE.eq_14, ↓wE.eq_15, ↓wE.eq_16, ↓wE.eq_18, ↓wE.eq_19, ↓wE.eq_22, ↓wE.eq_23, ↓wE.eq_24, ↓wE.eq_25, ↓wE.eq_26, ↓wE.eq_27, ↓wE.eq_28, ↓wE.eq_29, ↓wE.eq_30, ↓wE.eq_31, ↓wE.eq_32, ↓wE.eq_34, ↓wE.eq_35, ↓wE.eq_36, ↓wE.eq_37, ↓wE.eq_38, ↓wE.eq_39, ↓wE.eq_40, ↓wE_call, ↓wE_callP, ↓wE_lc, ↓wE_lcg, ↓wE_isv, ↓wE_ix, ↓ix_fr0, ↓ix_fr1, ↓cmp_fr, ↓cmp_frn, ↓cmp_fr0, ↓cmp_tz, ↓cmp_tzn, ↓cmp_tz0, ↓cmp_tzn0, ↓bi_list_tz, ↓add_tz,  ↓len_tz, ↓len_fr, ↓isT_fr, items_tz, ↓cmp_bb, ↓cmp_bbn, ↓wS_whl, ↓wS_for, ↓wS_forP, ↓wS_asg, ↓wS_par, ↓wS_setIx, ↓wS_app, ↓tgW_one, ↓tgW_tup, pvF_eq, ↓wS.eq_1, ↓wS.eq_2, ↓wS.eq_3, ↓wS.eq_5, ↓wS.eq_7, ↓wS.eq_10, ↓wS.eq_11, ↓wS.eq_12, ↓wS.eq_13, ↓wS.eq_14, ↓wS.eq_15, ↓wS.eq_16, ↓wS.eq_17, ↓wS.eq_20, ↓wS.eq_21, ↓wS.eq_22, ↓wS.eq_23, ↓wS.eq_24, ↓wS.eq_25, ↓wS.eq_26, ↓wS.eq_27, ↓wS.eq_28, ↓wS.eq_29, ↓wS.eq_30, ↓augW.eq_1, ↓augW.eq_2, ↓augW.eq_3, ↓augW.eq_4, ↓inW.eq_1, ↓inW.eq_2, ↓inW.eq_3, ↓zipW.eq_1, ↓zipW.eq_2, ↓cntW.eq_1, ↓dspW.eq_1, ↓opW.eq_1, ↓opW.eq_2, ↓opW.eq_3, ↓opW.eq_4, ↓opW.eq_5, ↓opW.eq_6, ↓opW.eq_7, ↓opW.eq_8, ↓opW.eq_9, ↓opW.eq_10, ↓opW.eq_11, ↓opW.eq_12, ↓opW.eq_13, ↓opW.eq_14, ↓cmpW.eq_1, ↓cmpW.eq_2, ↓cmpW.eq_5, ↓cmpW.eq_6, ↓cmpW.eq_7, ↓cmpW.eq_8, ↓cmpW.eq_9, ↓cmpW.eq_10, ↓cmpW.eq_11, ↓cmpW.eq_12, ↓cmp_ll, ↓cmp_lln, ↓cmp_tt, ↓cmp_ttn, ↓biW.eq_1, ↓biW.eq_2, ↓biW.eq_3, ↓biW.eq_4, ↓biW.eq_5, ↓biW.eq_6, ↓biW.eq_7, ↓biW.eq_8, ↓biW.eq_9, ↓biW.eq_10, ↓biW.eq_11, ↓biW.eq_12, ↓biW.eq_13, ↓biW.eq_14, ↓biW.eq_15, ↓biW.eq_16, ↓biW.eq_17, ↓lenW.eq_1, ↓lenW.eq_2, ↓slW.eq_1, ↓slW.eq_2, ↓revW.eq_1, ↓revW.eq_2, ↓pkW_var, ↓ptW_nil, ↓ptK_i, ↓pkW_cst, ↓pkW_tup, ↓pkW_lst, ↓pkW_bin, ↓pkW_neg, ↓pkW_ix, ↓pkW_sl, ↓pkW_rev, ↓pkW_call, ↓pkW_callP, ↓pkW_bi, ↓pkW_len, ↓pkW_lc, ↓pkW_ite, ↓pkW_gc, ↓pkW_mov, ↓pkW_dsp, ↓pkW_bone, ↓pkW_cmp, ↓pkW_cnt, ↓ptW_cst, ↓ptW_tup, ↓ptW_lst, ↓ptW_bin, ↓ptW_neg, ↓ptW_ix, ↓ptW_sl, ↓ptW_rev, ↓ptW_call, ↓ptW_callP, ↓ptW_bi, ↓ptW_len, ↓ptW_lc, ↓ptW_ite, ↓ptW_gc, ↓ptW_mov, ↓ptW_dsp, ↓ptW_bone, ↓ptW_cmp, ↓ptW_cnt, ↓ptW_var, ↓peek, ↓ownAt, ↓kD.eq_1, ↓kD.eq_2, ↓kM.eq_1, ↓kB.eq_1, ↓kV.eq_1, ↓kV.eq_2, ↓setW, ↓rngW1.eq_1, ↓rngW2.eq_1, ↓rngWd.eq_1, isVar, isNil, isT, gv, pv, setAll, ev0, items.eq_1, items.eq_2, tgs, wipeE, blind_cons, blind_nil, bl1, runB, List.map_cons, List.map_nil, List.replicate, List.cons_append, List.nil_append, if_true, if_false, ite_true, ite_false, reduceCtorEq, Bool.true_and, Bool.and_true, Bool.not_true, Bool.not_false, Bool.false_eq_true, ↓reduceIte, Nat.reduceSub, Nat.reduceAdd, List.length_cons, List.length_nil, decide_eq_true_eq, Bool.not_eq_true', decide_eq_false_iff_not, Bool.and_false, Bool.false_and, true_and, and_true, Nat.sub_self, Nat.succ_eq_add_one, flat, Nat.reduceLeDiff, Int.reduceLE, Int.reduceLT, Int.reduceEq, ne_eq, not_false_eq_true, s10, la_2, la_3, la_4, la_5, la_6, la_7, la_8, la_9, la_10, la_11, la_12, la_13, la_14, la_15, la_16, la_18, la_19, la_20, la_21, la_24, la_25, la_28, la_30, la_35, la_36, la_39, la_40, la_41, la_44, la_45, la_49, la_50, la_52, la_54, la_57, la_63, la_64, la_65, la_72, la_78, la_81, la_90, la_100, la_121, la_123, la_125, la_126, la_144, la_162, la_168, la_176, la_196, la_200, la_216, la_240, la_360, la_369, la_400, la_402, la_441, la_540, la_550, la_900, la_907, la_997, la_1009, la_1100, la_1152, la_1440, la_1764, la_2001, la_2003, la_2200, la_3150, la_4099, la_16807, la_22500, la_24200, la_72600, Nat.reduceLT, ↓ix_t0, ↓ix_t1, ↓ix_t2, ↓ix_t3, ↓ix_t4, ↓ix_t5, ↓ix_t6, ↓ix_l0, ↓ix_l1, ↓ix_l2, ↓ix_l3, ↓ix_l4, ↓ix_l5, ↓ix_l6, ↓add_ttz, ↓isT_tz, ↓sl_tz, isN_non, isN_tup, isN_lst, isN_int, isN_str, isN_bl, isN_fr, isN_tz, ↓hS.eq_1, ↓hS.eq_2, ↓hS.eq_3, ↓hS.eq_4, hE, hB, ↓hide.eq_1, ↓hide.eq_2, isS, Nat.reduceBEq, Bool.or_true, Bool.or_false, Bool.true_or, Bool.false_or, beq_self_eq_true, not_true_eq_false, Int.cast_ofNat_Int]
        exact h
      · simp only [h0, decide_false, ↓wE.eq_1, ↓wE.eq_2, ↓wE.eq_3, ↓wE.eq_4, ↓wE.eq_5, ↓wE.eq_6, ↓wE.eq_7, ↓wE.eq_8, ↓wE.eq_9, ↓wE.eq_10, ↓wE.eq_11, ↓wE.eq_12, ↓wE.eq_13, ↓wE.eq_14, ↓wE.eq_15, ↓wE.eq_16, ↓wE.eq_18, ↓wE.eq_19, ↓wE.eq_22, ↓wE.eq_23, ↓wE.eq_24, ↓wE.eq_25, ↓wE.eq_26, ↓wE.eq_27, ↓wE.eq_28, ↓wE.eq_29, ↓wE.eq_30, ↓wE.eq_31, ↓wE.eq_32, ↓wE.eq_34, ↓wE.eq_35, ↓wE.eq_36, ↓wE.eq_37, ↓wE.eq_38, ↓wE.eq_39, ↓wE.eq_40, ↓wE_call, ↓wE_callP, ↓wE_lc, ↓wE_lcg, ↓wE_isv, ↓wE_ix, ↓ix_fr0, ↓ix_fr1, ↓cmp_fr, ↓cmp_frn, ↓cmp_fr0, ↓cmp_tz, ↓cmp_tzn, ↓cmp_tz0, ↓cmp_tzn0, ↓bi_list_tz, ↓add_tz,  ↓len_tz, ↓len_fr, ↓isT_fr, items_tz, ↓cmp_bb, ↓cmp_bbn, ↓wS_whl, ↓wS_for, ↓wS_forP, ↓wS_asg, ↓wS_par, ↓wS_setIx, ↓wS_app, ↓tgW_one, ↓tgW_tup, pvF_eq, ↓wS.eq_1, ↓wS.eq_2, ↓wS.eq_3, ↓wS.eq_5, ↓wS.eq_7, ↓wS.eq_10, ↓wS.eq_11, ↓wS.eq_12, ↓wS.eq_13, ↓wS.eq_14, ↓wS.eq_15, ↓wS.eq_16, ↓wS.eq_17, ↓wS.eq_20, ↓wS.eq_21, ↓wS.eq_22, ↓wS.eq_23, ↓wS.eq_24, ↓wS.eq_25, ↓wS.eq_26, ↓wS.eq_27, ↓wS.eq_28, ↓wS.eq_29, ↓wS.eq_30, ↓augW.eq_1, ↓augW.eq_2, ↓augW.eq_3, ↓augW.eq_4, ↓inW.eq_1, ↓inW.eq_2, ↓inW.eq_3, ↓zipW.eq_1, ↓zipW.eq_2, ↓cntW.eq_1, ↓dspW.eq_1, ↓opW.eq_1, ↓opW.eq_2, ↓opW.eq_3, ↓opW.eq_4, ↓opW.eq_5, ↓opW.eq_6, ↓opW.eq_7, ↓opW.eq_8, ↓opW.eq_9, ↓opW.eq_10, ↓opW.eq_11, ↓opW.eq_12, ↓opW.eq_13, ↓opW.eq_14, ↓cmpW.eq_1, ↓cmpW.eq_2, ↓cmpW.eq_5, ↓cmpW.eq_6, ↓cmpW.eq_7, ↓cmpW.eq_8, ↓cmpW.eq_9, ↓cmpW.eq_10, ↓cmpW.eq_11, ↓cmpW.eq_12, ↓cmp_ll, ↓cmp_lln, ↓cmp_tt, ↓cmp_ttn, ↓biW.eq_1, ↓biW.eq_2, ↓biW.eq_3, ↓biW.eq_4, ↓biW.eq_5, ↓biW.eq_6, ↓biW.eq_7, ↓biW.eq_8, ↓biW.eq_9, ↓biW.eq_10, ↓biW.eq_11, ↓biW.eq_12, ↓biW.eq_13, ↓biW.eq_14, ↓biW.eq_15, ↓biW.eq_16, ↓biW.eq_17, ↓lenW.eq_1, ↓lenW.eq_2, ↓slW.eq_1, ↓slW.eq_2, ↓revW.eq_1, ↓revW.eq_2, ↓pkW_var, ↓ptW_nil, ↓ptK_i, ↓pkW_cst, ↓pkW_tup, ↓pkW_lst, ↓pkW_bin, ↓pkW_neg, ↓pkW_ix, ↓pkW_sl, ↓pkW_rev, ↓pkW_call, ↓pkW_callP, ↓pkW_bi, ↓pkW_len, ↓pkW_lc, ↓pkW_ite, ↓pkW_gc, ↓pkW_mov, ↓pkW_dsp, ↓pkW_bone, ↓pkW_cmp, ↓pkW_cnt, ↓ptW_cst, ↓ptW_tup, ↓ptW_lst, ↓ptW_bin, ↓ptW_neg, ↓ptW_ix, ↓ptW_sl, ↓ptW_rev, ↓ptW_call, ↓ptW_callP, ↓ptW_bi, ↓ptW_len, ↓ptW_lc, ↓ptW_ite, ↓ptW_gc, ↓ptW_mov, ↓ptW_dsp, ↓ptW_bone, ↓ptW_cmp, ↓ptW_cnt, ↓ptW_var, ↓peek, ↓ownAt, ↓kD.eq_1, ↓kD.eq_2, ↓kM.eq_1, ↓kB.eq_1, ↓kV.eq_1, ↓kV.eq_2, ↓setW, ↓rngW1.eq_1, ↓rngW2.eq_1, ↓rngWd.eq_1, isVar, isNil, isT, gv, pv, setAll, ev0, items.eq_1, items.eq_2, tgs, wipeE, blind_cons, blind_nil, bl1, runB, List.map_cons, List.map_nil, List.replicate, List.cons_append, List.nil_append, if_true, if_false, ite_true, ite_false, reduceCtorEq, Bool.true_and, Bool.and_true, Bool.not_true, Bool.not_false, Bool.false_eq_true, ↓reduceIte, Nat.reduceSub, Nat.reduceAdd, List.length_cons, List.length_nil, decide_eq_true_eq, Bool.not_eq_true', decide_eq_false_iff_not, Bool.and_false, Bool.false_and, true_and, and_true, Nat.sub_self, Nat.succ_eq_add_one, flat, Nat.reduceLeDiff, Int.reduceLE, Int.reduceLT, Int.reduceEq, ne_eq, not_false_eq_true, s10, la_2, la_3, la_4, la_5, la_6, la_7, la_8, la_9, la_10, la_11, la_12, la_13, la_14, la_15, la_16, la_18, la_19, la_20, la_21, la_24, la_25, la_28, la_30, la_35, la_36, la_39, la_40, la_41, la_44, la_45, la_49, la_50, la_52, la_54, la_57, la_63, la_64, la_65, la_72, la_78, la_81, la_90, la_100, la_121, la_123, la_125, la_126, la_144, la_162, la_168, la_176, la_196, la_200, la_216, la_240, la_360, la_369, la_400, la_402, la_441, la_540, la_550, la_900, la_907, la_997, la_1009, la_1100, la_1152, la_1440, la_1764, la_2001, la_2003, la_2200, la_3150, la_4099, la_16807, la_22500, la_24200, la_72600, Nat.reduceLT, ↓ix_t0, ↓ix_t1, ↓ix_t2, ↓ix_t3, ↓ix_t4, ↓ix_t5, ↓ix_t6, ↓ix_l0, ↓ix_l1, ↓ix_l2, ↓ix_l3, ↓ix_l4, ↓ix_l5, ↓ix_l6, ↓add_ttz, ↓isT_tz, ↓sl_tz, isN_non, isN_tup, isN_lst, isN_int, isN_str, isN_bl, isN_fr, isN_tz, ↓hS.eq_1, ↓hS.eq_2, ↓hS.eq_3, ↓hS.eq_4, hE, hB, ↓hide.eq_1, ↓hide.eq_2, isS, Nat.reduceBEq, Bool.or_true, Bool.or_false, Bool.true_or, Bool.false_or, beq_self_eq_true, not_true_eq_false, Int.cast_ofNat_Int]
        refine ix_tup (v := .int (ns.getLast h0)) (atI_last h0) ?_
        walk_at "s"
        simpa [h0, List.getLast?_eq_some_getLast h0] using h
  | _ =>
    (simp only [b_is_poly]; walk_at "s")
    exact h

theorem p_poly_any {ws : List Int} {d : D} (hd : d = .list (ws.map .int) ∨ d = .tuple (ws.map .int)) (h : Q (.d (tz (trim ws)))) : sem fns (k + 1) 8 [d] X Q := by
  refine sem_at rfl ⟨rfl, ?_⟩
  have core : ∀ d : D, d = .list (ws.map .int) ∨ d = .tuple (ws.map .int) → wS (sem fns k) (.seq (.whl c_poly_1 b_poly_2) b_poly_3) [some (.d d), some (.d (.int ws.length))] { nx := fun _ => Q (.d .none), rt := Q, ex := fun c _ => X c } := fun d hd => by
    walk_at "s"
    refine whl_at' (fun m ε => ∃ j : Nat, ε = [some (.d d), some (.d (.int j))] ∧ j ≤ ws.length ∧ trim (ws.take j) = trim ws ∧ m = j) _ ⟨ws.length, rfl, Nat.le_refl _, by rw [List.take_length], rfl⟩ ?_
    rintro m ε1 ⟨j, rfl, hj, ht, rfl⟩
    (simp only [c_poly_1, b_poly_2, b_poly_3]; walk_at "s")
    have done : trim (ws.take m) = ws.take m → Q (.d (tz (ws.take m))) := fun e => by
      rw [ht] at e
      rw [← e]
      exact h
    have cutE : cut (ws.map PyData.int) none (some (m : Int)) = (ws.take m).map .int := by
      rw [cut_map, cut_take hj]
    split
    · rename_i hp
      have hm : m - 1 < ws.length := by omega
      have at1 : L2.atI (ws.map PyData.int) ((m : Int) - 1) = some (.int ws[m - 1]) := by
        rw [show (m : Int) - 1 = ((m - 1 : Nat) : Int) by omega]
        exact atI_nat (by simp [hm])
      have tk : ws.take m = ws.take (m - 1) ++ [ws[m - 1]] := by
        conv => lhs; rw [show m = m - 1 + 1 by omega]
        rw [List.take_succ, List.getElem?_eq_getElem hm]
        rfl
      rcases hd with rfl | rfl
      · refine ix_lst at1 ?_
        walk_at "s"
        split
        · rename_i hz
          refine ⟨m - 1, by omega, m - 1, by simp only [show ((m - 1 : Nat) : Int) = (m : Int) - 1 by omega], by omega, ?_, rfl⟩
          rw [← ht, tk, hz, trim_snoc0]
        · rename_i hz
          rw [cutE]
          exact done (by rw [tk, trim_snoc hz])
      · refine ix_tup at1 ?_
        walk_at "s"
        split
        · rename_i hz
          refine ⟨m - 1, by omega, m - 1, by simp only [show ((m - 1 : Nat) : Int) = (m : Int) - 1 by omega], by omega, ?_, rfl⟩
          rw [← ht, tk, hz, trim_snoc0]
        · rename_i hz
          rw [cutE]
          exact done (by rw [tk, trim_snoc hz])
    · rename_i hp
      have e : m = 0 := by omega
      subst e
      have cutE0 : cut (ws.map PyData.int) none (some 0) = (ws.take 0).map .int := cutE
      rcases hd with rfl | rfl
      · walk_at "s"
        rw [cutE0]
        exact done rfl
      · walk_at "s"
        rw [cutE0]
        exact done rfl
  have cc := core d hd
  simp only [↓wE.eq_1, ↓wE.eq_2, ↓wE.eq_3, ↓wE.eq_4, ↓wE.eq_5, ↓wE.eq_6, ↓wE.eq_7, ↓wE.eq_8, ↓wE.eq_9, ↓wE.eq_10, ↓wE.eq_11, ↓wE.eq_12, ↓wE.eq_13, ↓wE.eq_14, ↓wE.eq_15, ↓wE.eq_16, ↓wE.eq_18, ↓wE.eq_19, ↓wE.eq_22, ↓wE.eq_23, ↓wE.eq_24, ↓wE.eq_25, ↓wE.eq_26, ↓wE.eq_27, ↓wE.eq_28, ↓wE.eq_29, ↓wE.eq_30, ↓wE.eq_31, ↓wE.eq_32, ↓wE.eq_34, ↓wE.eq_35, ↓wE.eq_36, ↓wE.eq_37, ↓wE.eq_38, ↓wE.eq_39, ↓wE.eq_40, ↓wE_call, ↓wE_callP, ↓wE_lc, ↓wE_lcg, ↓wE_isv, ↓wE_ix, ↓ix_fr0, ↓ix_fr1, ↓cmp_fr, ↓cmp_frn, ↓cmp_fr0, ↓cmp_tz, ↓cmp_tzn, ↓cmp_tz0, ↓cmp_tzn0, ↓bi_list_tz, ↓add_tz,  ↓len_tz, ↓len_fr, ↓isT_fr, items_tz, ↓cmp_bb, ↓cmp_bbn, ↓wS_whl, ↓wS_for, ↓wS_forP, ↓wS_asg, ↓wS_par, ↓wS_setIx, ↓wS_app, ↓tgW_one, ↓tgW_tup, pvF_eq, ↓wS.eq_1, ↓wS.eq_2, ↓wS.eq_3, ↓wS.eq_5, ↓wS.eq_7, ↓wS.eq_10, ↓wS.eq_11, ↓wS.eq_12, ↓wS.eq_13, ↓wS.eq_14, ↓wS.eq_15, ↓wS.eq_16, ↓wS.eq_17, ↓wS.eq_20, ↓wS.eq_21, ↓wS.eq_22, ↓wS.eq_23, ↓wS.eq_24, ↓wS.eq_25, ↓wS.eq_26, ↓wS.eq_27, ↓wS.eq_28, ↓wS.eq_29, ↓wS.eq_30, ↓augW.eq_1, ↓augW.eq_2, ↓augW.eq_3, ↓augW.eq_4, ↓inW.eq_1, ↓inW.eq_2, ↓inW.eq_3, ↓zipW.eq_1, ↓zipW.eq_2, ↓cntW.eq_1, ↓dspW.eq_1, ↓opW.eq_1, ↓opW.eq_2, ↓opW.eq_3, ↓opW.eq_4, ↓opW.eq_5, ↓opW.eq_6, ↓opW.eq_7, ↓opW.eq_8, ↓opW.eq_9, ↓opW.eq_10, ↓opW.eq_11, ↓opW.eq_12, ↓opW.eq_13, ↓opW.eq_14, ↓cmpW.eq_1, ↓cmpW.eq_2, ↓cmpW.eq_5, ↓cmpW.eq_6, ↓cmpW.eq_7, ↓cmpW.eq_8, ↓cmpW.eq_9, ↓cmpW.eq_10, ↓cmpW.eq_11, ↓cmpW.eq_12, ↓cmp_ll, ↓cmp_lln, ↓cmp_tt, ↓cmp_ttn, ↓biW.eq_1, ↓biW.eq_2, ↓biW.eq_3, ↓biW.eq_4, ↓biW.eq_5, ↓biW.eq_6, ↓biW.eq_7, ↓biW.eq_8, ↓biW.eq_9, ↓biW.eq_10, ↓biW.eq_11, ↓biW.eq_12, ↓biW.eq_13, ↓biW.eq_14, ↓biW.eq_15, ↓biW.eq_16, ↓biW.eq_17, ↓lenW.eq_1, ↓lenW.eq_2, ↓slW.eq_1, ↓slW.eq_2, ↓revW.eq_1, ↓revW.eq_2, ↓pkW_var, ↓ptW_nil, ↓ptK_i, ↓pkW_cst, ↓pkW_tup, ↓pkW_lst, ↓pkW_bin, ↓pkW_neg, ↓pkW_ix, ↓pkW_sl, ↓pkW_rev, ↓pkW_call, ↓pkW_callP, ↓pkW_bi, ↓pkW_len, ↓pkW_lc, ↓pkW_ite, ↓pkW_gc, ↓pkW_mov, ↓pkW_dsp, ↓pkW_bone, ↓pkW_cmp, ↓pkW_cnt, ↓ptW_cst, ↓ptW_tup, ↓ptW_lst, ↓ptW_bin, ↓ptW_neg, ↓ptW_ix, ↓ptW_sl, ↓ptW_rev, ↓ptW_call, ↓ptW_callP, ↓ptW_bi, ↓ptW_len, ↓ptW_lc, ↓ptW_ite, ↓ptW_gc, ↓ptW_mov, ↓ptW_dsp, ↓ptW_bone, ↓ptW_cmp, ↓ptW_cnt, ↓ptW_var, ↓peek, ↓ownAt, ↓kD.eq_1, ↓kD.eq_2, ↓kM.eq_1, ↓kB.eq_1, ↓kV.eq_1, ↓kV.eq_2, ↓setW, ↓rngW1.eq_1, ↓rngW2.eq_1, ↓rngWd.eq_1, isVar, isNil, isT, gv, pv, setAll, ev0, items.eq_1, items.eq_2, tgs, wipeE, blind_cons, blind_nil, bl1, runB, List.map_cons, List.map_nil, List.replicate, List.cons_append, List.nil_append, if_true, if_false, ite_true, ite_false, reduceCtorEq, Bool.true_and, Bool.and_true, Bool.not_true, Bool.not_false, Bool.false_eq_true, ↓reduceIte, Nat.reduceSub, Nat.reduceAdd, List.length_cons, List.length_nil, decide_eq_true_eq, Bool.not_eq_true', decide_eq_false_iff_not, Bool.and_false, Bool.false_and, true_and, and_true, Nat.sub_self, Nat.succ_eq_add_one, flat, Nat.reduceLeDiff, Int.reduceLE, Int.reduceLT, Int.reduceEq, ne_eq, not_false_eq_true, s10, la_2, la_3, la_4, la_5, la_6, la_7, la_8, la_9, la_10, la_11, la_12, la_13, la_14, la_15, la_16, la_18, la_19, la_20, la_21, la_24, la_25, la_28, la_30, la_35, la_36, la_39, la_40, la_41, la_44, la_45, la_49, la_50, la_52, la_54, la_57, la_63, la_64, la_65, la_72, la_78, la_81, la_90, la_100, la_121, la_123, la_125, la_126, la_144, la_162, la_168, la_176, la_196, la_200, la_216, la_240, la_360, la_369, la_400, la_402, la_441, la_540, la_550, la_900, la_907, la_997, la_1009, la_1100, la_1152, la_1440, la_1764, la_2001, la_2003, la_2200, la_3150, la_4099, la_16807, la_22500, la_24200, la_72600, Nat.reduceLT, ↓ix_t0, ↓ix_t1, ↓ix_t2, ↓ix_t3, ↓ix_t4, ↓ix_t5, ↓ix_t6, ↓ix_l0, ↓ix_l1, ↓ix_l2, ↓ix_l3, ↓ix_l4, ↓ix_l5, ↓ix_l6, ↓add_ttz, ↓isT_tz, ↓sl_tz, isN_non, isN_tup, isN_lst, isN_int, isN_str, isN_bl, isN_fr, isN_tz, ↓hS.eq_1, ↓hS.eq_2, ↓hS.eq_3, ↓hS.eq_4, hE, hB, ↓hide.eq_1, ↓hide.eq_2, isS, Nat.reduceBEq, Bool.or_true, Bool.or_false, Bool.true_or, Bool.false_or, beq_self_eq_true, not_true_eq_false, Int.cast_ofNat_Int] at cc
  rcases hd with rfl | rfl
  · simp only [b_poly, List.length_map, ↓wE.eq_1, ↓wE.eq_2, ↓wE.eq_3, ↓wE.eq_4, ↓wE.eq_5, ↓wE.eq_6, ↓wE.eq_7, ↓wE.eq_8, ↓wE.eq_9, ↓wE.eq_10, ↓wE.eq_11, ↓wE.eq_12, ↓wE.eq_13, ↓wE.eq_14, ↓wE.eq_15, ↓wE.eq_16, ↓wE.eq_18, ↓wE.eq_19, ↓wE.eq_22, ↓wE.eq_23, ↓wE.eq_24, ↓wE.eq_25, ↓wE.eq_26, ↓wE.eq_27, ↓wE.eq_28, ↓wE.eq_29, ↓wE.eq_30, ↓wE.eq_31, ↓wE.eq_32, ↓wE.eq_34, ↓wE.eq_35, ↓wE.eq_36, ↓wE.eq_37, ↓wE.eq_38, ↓wE.eq_39, ↓wE.eq_40, ↓wE_call, ↓wE_callP, ↓wE_lc, ↓wE_lcg, ↓wE_isv, ↓wE_ix, ↓ix_fr0, ↓ix_fr1, ↓cmp_fr, ↓cmp_frn, ↓cmp_fr0, ↓cmp_tz, ↓cmp_tzn, ↓cmp_tz0, ↓cmp_tzn0, ↓bi_list_tz, ↓add_tz,  ↓len_tz, ↓len_fr, ↓isT_fr, items_tz, ↓cmp_bb, ↓cmp_bbn, ↓wS_whl, ↓wS_for, ↓wS_forP, ↓wS_asg, ↓wS_par, ↓wS_setIx, ↓wS_app, ↓tgW_one, ↓tgW_tup, pvF_eq, ↓wS.eq_1, ↓wS.eq_2, ↓wS.eq_3, ↓wS.eq_5, ↓wS.eq_7, ↓wS.eq_10, ↓wS.eq_11, ↓wS.eq_12, ↓wS.eq_13, ↓wS.eq_14, ↓wS.eq_15, ↓wS.eq_16, ↓wS.eq_17, ↓wS.eq_20, ↓wS.eq_21, ↓wS.eq_22, ↓wS.eq_23, ↓wS.eq_24, ↓wS.eq_25, ↓wS.eq_26, ↓wS.eq_27, ↓wS.eq_28, ↓wS.eq_29, ↓wS.eq_30, ↓augW.eq_1, ↓augW.eq_2, ↓augW.eq_3, ↓augW.eq_4, ↓inW.eq_1, ↓inW.eq_2, ↓inW.eq_3, ↓zipW.eq_1, ↓zipW.eq_2, ↓cntW.eq_1, ↓dspW.eq_1, ↓opW.eq_1, ↓opW.eq_2, ↓opW.eq_3, ↓opW.eq_4, ↓opW.eq_5, ↓opW.eq_6, ↓opW.eq_7, ↓opW.eq_8, ↓opW.eq_9, ↓opW.eq_10, ↓opW.eq_11, ↓opW.eq_12, ↓opW.eq_13, ↓opW.eq_14, ↓cmpW.eq_1, ↓cmpW.eq_2, ↓cmpW.eq_5, ↓cmpW.eq_6, ↓cmpW.eq_7, ↓cmpW.eq_8, ↓cmpW.eq_9, ↓cmpW.eq_10, ↓cmpW.eq_11, ↓cmpW.eq_12, ↓cmp_ll, ↓cmp_lln, ↓cmp_tt, ↓cmp_ttn, ↓biW.eq_1, ↓biW.eq_2, ↓biW.eq_3, ↓biW.eq_4, ↓biW.eq_5, ↓biW.eq_6, ↓biW.eq_7, ↓biW.eq_8, ↓biW.eq_9, ↓biW.eq_10, ↓biW.eq_11, ↓biW.eq_12, ↓biW.eq_13, ↓biW.eq_14, ↓biW.eq_15, ↓biW.eq_16, ↓biW.eq_17, ↓lenW.eq_1, ↓lenW.eq_2, ↓slW.eq_1, ↓slW.eq_2, ↓revW.eq_1, ↓revW.eq_2, ↓pkW_var, ↓ptW_nil, ↓ptK_i, ↓pkW_cst, ↓pkW_tup, ↓pkW_lst, ↓pkW_bin, ↓pkW_neg, ↓pkW_ix, ↓pkW_sl, ↓pkW_rev, ↓pkW_call, ↓pkW_callP, ↓pkW_bi, ↓pkW_len, ↓pkW_lc, ↓pkW_ite, ↓pkW_gc, ↓pkW_mov, ↓pkW_dsp, ↓pkW_bone, ↓pkW_cmp, ↓pkW_cnt, ↓ptW_cst, ↓ptW_tup, ↓ptW_lst, ↓ptW_bin, ↓ptW_neg, ↓ptW_ix, ↓ptW_sl, ↓ptW_rev, ↓ptW_call, ↓ptW_callP, ↓ptW_bi, ↓ptW_len, ↓ptW_lc, ↓ptW_ite, ↓ptW_gc, ↓ptW_mov, ↓ptW_dsp, ↓ptW_bone, ↓ptW_cmp, ↓ptW_cnt, ↓ptW_var, ↓peek, ↓ownAt, ↓kD.eq_1, ↓kD.eq_2, ↓kM.eq_1, ↓kB.eq_1, ↓kV.eq_1, ↓kV.eq_2, ↓setW, ↓rngW1.eq_1, ↓rngW2.eq_1, ↓rngWd.eq_1, isVar, isNil, isT, gv, pv, setAll, ev0, items.eq_1, items.eq_2, tgs, wipeE, blind_cons, blind_nil, bl1, runB, List.map_cons, List.map_nil, List.replicate, List.cons_append, List.nil_append, if_true, if_false, ite_true, ite_false, reduceCtorEq, Bool.true_and, Bool.and_true, Bool.not_true, Bool.not_false, Bool.false_eq_true, ↓reduceIte, Nat.reduceSub, Nat.reduceAdd, List.length_cons, List.length_nil, decide_eq_true_eq, Bool.not_eq_true', decide_eq_false_iff_not, Bool.and_false, Bool.false_and, true_and, and_true, Nat.sub_self, Nat.succ_eq_add_one, flat, Nat.reduceLeDiff, Int.reduceLE, Int.reduceLT, Int.reduceEq, ne_eq, not_false_eq_true, s10, la_2, la_3, la_4, la_5, la_6, la_7, la_8, la_9, la_10, la_11, la_12, la_13, la_14, la_15, la_16, la_18, la_19, la_20, la_21, la_24, la_25, la_28, la_30, la_35, la_36, la_39, la_40, la_41, la_44, la_45, la_49, la_50, la_52, la_54, la_57, la_63, la_64, la_65, la_72, la_78, la_81, la_90, la_100, la_121, la_123, la_125, la_126, la_144, la_162, la_168, la_176, la_196, la_200, la_216, la_240, la_360, la_369, la_400, la_402, la_441, la_540, la_550, la_900, la_907, la_997, la_1009, la_1100, la_1152, la_1440, la_1764, la_2001, la_2003, la_2200, la_3150, la_4099, la_16807, la_22500, la_24200, la_72600, Nat.reduceLT, ↓ix_t0, ↓ix_t1, ↓ix_t2, ↓ix_t3, ↓ix_t4, ↓ix_t5, ↓ix_t6, ↓ix_l0, ↓ix_l1, ↓ix_l2, ↓ix_l3, ↓ix_l4, ↓ix_l5, ↓ix_l6, ↓add_ttz, ↓isT_tz, ↓sl_tz, isN_non, isN_tup, isN_lst, isN_int, isN_str, isN_bl, isN_fr, isN_tz, ↓hS.eq_1, ↓hS.eq_2, ↓hS.eq_3, ↓hS.eq_4, hE, hB, ↓hide.eq_1, ↓hide.eq_2, isS, Nat.reduceBEq, Bool.or_true, Bool.or_false, Bool.true_or, Bool.false_or, beq_self_eq_true, not_true_eq_false, Int.cast_ofNat_Int]
    exact cc
  · simp only [b_poly, List.length_map, ↓wE.eq_1, ↓wE.eq_2, ↓wE.eq_3, ↓wE.eq_4, ↓wE.eq_5, ↓wE.eq_6, ↓wE.eq_7, ↓wE.eq_8, ↓wE.eq_9, ↓wE.eq_10, ↓wE.eq_11, ↓wE.eq_12, ↓wE.eq_13, ↓wE.eq_14, ↓wE.eq_15, ↓wE.eq_16, ↓wE.eq_18, ↓wE.eq_19, ↓wE.eq_22, ↓wE.eq_23, ↓wE.eq_24, ↓wE.eq_25, ↓wE.eq_26, ↓wE.eq_27, ↓wE.eq_28, ↓wE.eq_29, ↓wE.eq_30, ↓wE.eq_31, ↓wE.eq_32, ↓wE.eq_34, ↓wE.eq_35, ↓wE.eq_36, ↓wE.eq_37, ↓wE.eq_38, ↓wE.eq_39, ↓wE.eq_40, ↓wE_call, ↓wE_callP, ↓wE_lc, ↓wE_lcg, ↓wE_isv, ↓wE_ix, ↓ix_fr0, ↓ix_fr1, ↓cmp_fr, ↓cmp_frn, ↓cmp_fr0, ↓cmp_tz, ↓cmp_tzn, ↓cmp_tz0, ↓cmp_tzn0, ↓bi_list_tz, ↓add_tz,  ↓len_tz, ↓len_fr, ↓isT_fr, items_tz, ↓cmp_bb, ↓cmp_bbn, ↓wS_whl, ↓wS_for, ↓wS_forP, ↓wS_asg, ↓wS_par, ↓wS_setIx, ↓wS_app, ↓tgW_one, ↓tgW_tup, pvF_eq, ↓wS.eq_1, ↓wS.eq_2, ↓wS.eq_3, ↓wS.eq_5, ↓wS.eq_7, ↓wS.eq_10, ↓wS.eq_11, ↓wS.eq_12, ↓wS.eq_13, ↓wS.eq_14, ↓wS.eq_15, ↓wS.eq_16, ↓wS.eq_17, ↓wS.eq_20, ↓wS.eq_21, ↓wS.eq_22, ↓wS.eq_23, ↓wS.eq_24, ↓wS.eq_25, ↓wS.eq_26, ↓wS.eq_27, ↓wS.eq_28, ↓wS.eq_29, ↓wS.eq_30, ↓augW.eq_1, ↓augW.eq_2, ↓augW.eq_3, ↓augW.eq_4, ↓inW.eq_1, ↓inW.eq_2, ↓inW.eq_3, ↓zipW.eq_1, ↓zipW.eq_2, ↓cntW.eq_1, ↓dspW.eq_1, ↓opW.eq_1, ↓opW.eq_2, ↓opW.eq_3, ↓opW.eq_4, ↓opW.eq_5, ↓opW.eq_6, ↓opW.eq_7, ↓opW.eq_8, ↓opW.eq_9, ↓opW.eq_10, ↓opW.eq_11, ↓opW.eq_12, ↓opW.eq_13, ↓opW.eq_14, ↓cmpW.eq_1, ↓cmpW.eq_2, ↓cmpW.eq_5, ↓cmpW.eq_6, ↓cmpW.eq_7, ↓cmpW.eq_8, ↓cmpW.eq_9, ↓cmpW.eq_10, ↓cmpW.eq_11, ↓cmpW.eq_12, ↓cmp_ll, ↓cmp_lln, ↓cmp_tt, ↓cmp_ttn, ↓biW.eq_1, ↓biW.eq_2, ↓biW.eq_3, ↓biW.eq_4, ↓biW.eq_5, ↓biW.eq_6, ↓biW.eq_7, ↓biW.eq_8, ↓biW.eq_9, ↓biW.eq_10, ↓biW.eq_11, ↓biW.eq_12, ↓biW.eq_13, ↓biW.eq_14, ↓biW.eq_15, ↓biW.eq_16, ↓biW.eq_17, ↓lenW.eq_1, ↓lenW.eq_2, ↓slW.eq_1, ↓slW.eq_2, ↓revW.eq_1, ↓revW.eq_2, ↓pkW_var, ↓ptW_nil, ↓ptK_i, ↓pkW_cst, ↓pkW_tup, ↓pkW_lst, ↓pkW_bin, ↓pkW_neg, ↓pkW_ix, ↓pkW_sl, ↓pkW_rev, ↓pkW_call, ↓pkW_callP, ↓pkW_bi, ↓pkW_len, ↓pkW_lc, ↓pkW_ite, ↓pkW_gc, ↓pkW_mov, ↓pkW_dsp, ↓pkW_bone, ↓pkW_cmp, ↓pkW_cnt, ↓ptW_cst, ↓ptW_tup, ↓ptW_lst, ↓ptW_bin, ↓ptW_neg, ↓ptW_ix, ↓ptW_sl, ↓ptW_rev, ↓ptW_call, ↓ptW_callP, ↓ptW_bi, ↓ptW_len, ↓ptW_lc, ↓ptW_ite, ↓ptW_gc, ↓ptW_mov, ↓ptW_dsp, ↓ptW_bone, ↓ptW_cmp, ↓ptW_cnt, ↓ptW_var, ↓peek, ↓ownAt, ↓kD.eq_1, ↓kD.eq_2, ↓kM.eq_1, ↓kB.eq_1, ↓kV.eq_1, ↓kV.eq_2, ↓setW, ↓rngW1.eq_1, ↓rngW2.eq_1, ↓rngWd.eq_1, isVar, isNil, isT, gv, pv, setAll, ev0, items.eq_1, items.eq_2, tgs, wipeE, blind_cons, blind_nil, bl1, runB, List.map_cons, List.map_nil, List.replicate, List.cons_append, List.nil_append, if_true, if_false, ite_true, ite_false, reduceCtorEq, Bool.true_and, Bool.and_true, Bool.not_true, Bool.not_false, Bool.false_eq_true, ↓reduceIte, Nat.reduceSub, Nat.reduceAdd, List.length_cons, List.length_nil, decide_eq_true_eq, Bool.not_eq_true', decide_eq_false_iff_not, Bool.and_false, Bool.false_and, true_and, and_true, Nat.sub_self, Nat.succ_eq_add_one, flat, Nat.reduceLeDiff, Int.reduceLE, Int.reduceLT, Int.reduceEq, ne_eq, not_false_eq_true, s10, la_2, la_3, la_4, la_5, la_6, la_7, la_8, la_9, la_10, la_11, la_12, la_13, la_14, la_15, la_16, la_18, la_19, la_20, la_21, la_24, la_25, la_28, la_30, la_35, la_36, la_39, la_40, la_41, la_44, la_45, la_49, la_50, la_52, la_54, la_57, la_63, la_64, la_65, la_72, la_78, la_81, la_90, la_100, la_121, la_123, la_125, la_126, la_144, la_162, la_168, la_176, la_196, la_200, la_216, la_240, la_360, la_369, la_400, la_402, la_441, la_540, la_550, la_900, la_907, la_997, la_1009, la_1100, la_1152, la_1440, la_1764, la_2001, la_2003, la_2200, la_3150, la_4099, la_16807, la_22500, la_24200, la_72600, Nat.reduceLT, ↓ix_t0, ↓ix_t1, ↓ix_t2, ↓ix_t3, ↓ix_t4, ↓ix_t5, ↓ix_t6, ↓ix_l0, ↓ix_l1, ↓ix_l2, ↓ix_l3, ↓ix_l4, ↓ix_l5, ↓ix_l6, ↓add_ttz, ↓isT_tz, ↓sl_tz, isN_non, isN_tup, isN_lst, isN_int, isN_str, isN_bl, isN_fr, isN_tz, ↓hS.eq_1, ↓hS.eq_2, ↓hS.eq_3, ↓hS.eq_4, hE, hB, ↓hide.eq_1, ↓hide.eq_2, isS, Nat.reduceBEq, Bool.or_true, Bool.or_false, Bool.true_or, Bool.false_or, beq_self_eq_true, not_true_eq_false, Int.cast_ofNat_Int]
    exact cc

theorem q_degree {a : List Int} (h : Q (.d (.int ((a.length : Int) - 1)))) : sem fns (k + 1) 9 [tz a] X Q := by
  refine sem_at rfl ⟨rfl, ?_⟩
  (simp only [b_degree]; walk_at "s")
  exact h

theorem q_weight_of {a : List Int} {n : Nat} (h : Q (.d (.int (cf a n)))) : sem fns (k + 1) 10 [tz a, .int n] X Q := by
  refine sem_at rfl ⟨rfl, ?_⟩
  (simp only [b_weight_of]; walk_at "s")
  split
  · rename_i hl
    have hl2 : n < a.length := by omega
    refine ix_tup (v := .int a[n]) (atI_nat (by simp [hl2])) ?_
    walk_at "s"
    rw [cf_lt hl2] at h
    exact h
  · rename_i hl
    rw [cf_ge (by omega)] at h
    exact h

theorem q_plus {a b : List Int} (ha : a.length ≤ 100000) (hb : b.length ≤ 100000) (h : Q (.d (tz (trim (addL a b))))) : sem fns (k + 2) 11 [tz a, tz b] X Q := by
  refine sem_at rfl ⟨rfl, ?_⟩
  (simp only [b_p_plus]; walk_at "s")
  rw [show (if (b.length : Int) > (a.length : Int) then (b.length : Int) else (a.length : Int)) = ((max a.length b.length : Nat) : Int) by split <;> omega]
  refine ⟨⟨by omega, by omega⟩, ?_⟩
  rw [Int.toNat_natCast]
  refine lc_as (fun i : Nat => .int i) (fun n => .int (cf a n + cf b n)) (fun n _ kk hk => ?_) (by rw [List.length_range]; omega) ?_
  · (simp only [e_p_plus_1]; walk_at "s")
    refine q_weight_of ?_
    walk_at "s"
    refine q_weight_of ?_
    walk_at "s"
    exact hk _
  walk_at "s"
  refine p_poly_any (ws := addL a b) (.inl ?_) h
  unfold addL
  rw [List.map_map]
  rfl

theorem q_scaled {n p q : Nat} {a : List Int} {c : Int} (ha : Bl n p a) (hn : n ≤ 100000) (hc : Bt q c) (hs : p + q ≤ 134217728) (h : Q (.d (tz (trim (sclL a c))))) : sem fns (k + 2) 12 [tz a, .int c] X Q := by
  refine sem_at rfl ⟨rfl, ?_⟩
  (simp only [b_scaled]; walk_at "s")
  refine lc_as .int (fun x => .int (x * c)) (fun x hx kk hk => ?_) (Nat.le_trans ha.1 (by omega)) ?_
  · (simp only [e_scaled_1]; walk_at "s")
    exact ⟨mulOk_of (ha.2 x hx) hc hs, hk _⟩
  walk_at "s"
  refine p_poly_any (ws := sclL a c) (.inl ?_) h
  unfold sclL
  rw [List.map_map]
  rfl

theorem q_minus {n p : Nat} {a b : List Int} (ha : a.length ≤ 100000) (hb : Bl n p b) (hn : n ≤ 100000) (hp : p ≤ 134000000) (h : Q (.d (tz (trim (addL a (trim (sclL b (-1)))))))) : sem fns (k + 3) 13 [tz a, tz b] X Q := by
  refine sem_at rfl ⟨rfl, ?_⟩
  (simp only [b_p_minus]; walk_at "s")
  refine q_scaled hb hn (q := 1) (bt_c (by decide)) (by omega) ?_
  walk_at "s"
  refine q_plus ha ?_ h
  have := trim_len (sclL b (-1))
  have := hb.1
  have : (sclL b (-1)).length = b.length := List.length_map ..
  omega

theorem q_times {n m p q : Nat} {a b : List Int} (ha : Bl n p a) (hb : Bl m q b) (hn : n ≤ 100000) (hm : m ≤ 100000) (hs : p + q ≤ 134217728) (h : Q (.d (tz (trim (mulL a b))))) : sem fns (k + 2) 14 [tz a, tz b] X Q := by
  refine sem_at rfl ⟨rfl, ?_⟩
  (simp only [b_p_times]; walk_at "s")
  have la := ha.1
  have lb := hb.1
  refine ⟨by omega, by omega, by omega, ?_⟩
  rw [rep0, show ((a.length : Int) + (b.length : Int)).toNat = a.length + b.length by omega, enums_map]
  have cf0 : ∀ N i, cf (List.replicate N 0) i = 0 := fun N i => by
    by_cases hi : i < N
    · rw [cf_lt (by simpa using hi)]
      simp
    · exact cf_ge (by simpa using hi)
  refine for_at' (fun r ε => ∃ (K : Nat) (ys : List Int) (fs : List Int) (o1 o2 o3 o4 : Option Val), r = (ys.zipIdx K).map (fun q => PyData.tuple [.int q.2, .int q.1]) ∧ ε = [some (.d (tz a)), some (.d (tz b)), some (.own (fs.map .int)), o1, o2, o3, o4] ∧
    (∀ y ∈ ys, y ∈ a) ∧ K + ys.length = a.length ∧ fs.length = a.length + b.length ∧ ∀ i, cf fs i + sh K (mulF ys (cf b)) i = mulF a (cf b) i) ?_ ?_ _ _ ⟨0, a, List.replicate (a.length + b.length) 0, none, none, none, none, rfl, rfl, fun _ h => h, by omega, by simp, fun i => ?_⟩
  · rintro x r ε ⟨K, ys, fs, o1, o2, o3, o4, hr, rfl, hin, hK, hf, hc⟩ hnx
    cases ys with
    | nil => cases hr
    | cons y ys =>
      cases hr
      (simp only [b_p_times_2]; walk_at "s")
      rw [enums_map]
      refine for_at' (fun r2 ε => ∃ (J : Nat) (zs : List Int) (gs : List Int) (p3 p4 : Option Val), r2 = (zs.zipIdx J).map (fun q => PyData.tuple [.int q.2, .int q.1]) ∧ ε = [some (.d (tz a)), some (.d (tz b)), some (.own (gs.map .int)), some (.d (.int K)), some (.d (.int y)), p3, p4] ∧
        (∀ z ∈ zs, z ∈ b) ∧ J + zs.length = b.length ∧ gs.length = a.length + b.length ∧ ∀ i, cf gs i + sh (K + J) (fun n => y * cf zs n) i = cf fs i + sh K (fun n => y * cf b n) i) ?_ ?_ _ _ ⟨0, b, fs, o3, o4, rfl, rfl, fun _ h => h, by omega, hf, fun i => rfl⟩
      · rintro x2 r2 ε ⟨J, zs, gs, p3, p4, hr2, rfl, hin2, hJ, hg, hc2⟩ hnx2
        cases zs with
        | nil => cases hr2
        | cons z zs =>
          cases hr2
          (simp only [b_p_times_1]; walk_at "s")
          have hyl : (y :: ys).length = ys.length + 1 := rfl
          have hzl : (z :: zs).length = zs.length + 1 := rfl
          have hlt : K + J < gs.length := by omega
          rw [show (K : Int) + (J : Int) = ((K + J : Nat) : Int) by omega]
          refine ix_lst (v := .int gs[K + J]) (atI_nat (by simp [hlt])) ?_
          walk_at "s"
          refine ⟨mulOk_of (ha.2 y (hin y (List.mem_cons_self ..))) (hb.2 z (hin2 z (List.mem_cons_self ..))) hs, K + J, ?_, ?_⟩
          · unfold L2.ixN
            rw [if_pos (by omega), if_pos (by rw [List.length_map]; omega)]
            exact congrArg some (by omega)
          · refine hnx2 _ ⟨J + 1, zs, gs.set (K + J) (gs[K + J] + y * z), _, _, rfl, by rw [List.map_set], fun w hw => hin2 w (List.mem_cons_of_mem _ hw), by omega, by rw [List.length_set]; exact hg, fun i => ?_⟩
            have e := hc2 i
            rw [← e]
            have cs : cf (gs.set (K + J) (gs[K + J] + y * z)) i = cf gs i + (if i = K + J then y * z else 0) := by
              unfold cf
              rw [List.getD_eq_getElem?_getD, List.getD_eq_getElem?_getD, List.getElem?_set]
              by_cases hi : K + J = i
              · subst hi
                simp [hlt]
              · rw [if_neg hi, if_neg (fun h => hi h.symm)]
                simp
            rw [cs]
            have sc : sh (K + J) (fun n => y * cf (z :: zs) n) i = (if i = K + J then y * z else 0) + sh (K + (J + 1)) (fun n => y * cf zs n) i := by
              unfold sh
              by_cases h1 : i = K + J
              · subst h1
                rw [if_pos (by omega), if_pos rfl, if_neg (by omega), Nat.sub_self]
                show y * z = y * z + 0
                omega
              · by_cases h2 : K + J ≤ i
                · rw [if_pos h2, if_neg h1, if_pos (by omega), show i - (K + J) = (i - (K + (J + 1))) + 1 by omega]
                  show y * cf zs _ = 0 + y * cf zs _
                  omega
                · rw [if_neg h2, if_neg h1, if_neg (by omega)]
                  rfl
            rw [sc]
            omega
      · rintro ε ⟨J, zs, gs, p3, p4, hr2, rfl, hin2, hJ, hg, hc2⟩
        cases zs with
        | cons z zs => cases hr2
        | nil =>
          walk_at "s"
          have hyl : (y :: ys).length = ys.length + 1 := rfl
          refine hnx _ ⟨K + 1, ys, gs, _, _, p3, p4, rfl, rfl, fun w hw => hin w (List.mem_cons_of_mem _ hw), by omega, hg, fun i => ?_⟩
          have e := hc2 i
          have z0 : sh (K + J) (fun n => y * cf [] n) i = 0 := by
            unfold sh
            split
            · exact Int.mul_zero y
            · rfl
          rw [z0] at e
          rw [← hc i]
          have e2 : sh K (mulF (y :: ys) (cf b)) i = sh K (fun n => y * cf b n) i + sh (K + 1) (mulF ys (cf b)) i := by
            rw [← sh_sh, ← sh_add]
            rfl
          rw [e2]
          omega
  · rintro ε ⟨K, ys, fs, o1, o2, o3, o4, hr, rfl, hin, hK, hf, hc⟩
    cases ys with
    | cons y ys => cases hr
    | nil =>
      (simp only [b_p_times_3]; walk_at "s")
      refine p_poly_any (ws := fs) (.inl rfl) ?_
      rw [trim_ext (ys := mulL a b) fun i => ?_]
      · exact h
      · rw [cf_mulL, ← hc i]
        have : sh K (mulF [] (cf b)) i = 0 := by
          unfold sh
          split <;> rfl
        omega
  · rw [cf0]
    unfold sh
    rw [if_pos (Nat.zero_le _), Nat.sub_zero]
    omega

theorem q_raised {a : List Int} {m : Int} (h0 : 0 ≤ m) (h1 : m ≤ 1000) (ha : a.length ≤ 100000) (h : Q (.d (tz (if a = [] then [] else List.replicate m.toNat 0 ++ a)))) : sem fns (k + 1) 15 [tz a, .int m] X Q := by
  refine sem_at rfl ⟨rfl, ?_⟩
  (simp only [b_raised]; walk_at "s")
  split
  · rename_i e
    rw [if_pos e] at h
    exact h
  · rename_i e
    rw [if_neg e] at h
    rw [rep0]
    refine ⟨by omega, h1, ?_, ?_⟩
    · rw [List.length_map, List.length_replicate]
      omega
    · rw [← List.map_append]
      exact h

theorem q_derived {n p : Nat} {a : List Int} (ha : Bl n p a) (hn : n ≤ 100000) (hp : p ≤ 10000000) (h : Q (.d (tz (trim (dL a))))) : sem fns (k + 2) 16 [tz a] X Q := by
  refine sem_at rfl ⟨rfl, ?_⟩
  (simp only [b_derived]; walk_at "s")
  have la := ha.1
  refine ⟨⟨by omega, by omega⟩, ?_⟩
  rw [show ((a.length : Int) - 1).toNat = a.length - 1 by omega]
  refine lc_as (fun i : Nat => .int (1 + (i : Int))) (fun n => .int (((n : Int) + 1) * cf a (n + 1))) (fun i hi kk hk => ?_) (by rw [List.length_range]; omega) ?_
  · have hi2 := List.mem_range.mp hi
    (simp only [e_derived_1]; walk_at "s")
    have hl : i + 1 < a.length := by omega
    rw [show (1 : Int) + (i : Int) = ((i + 1 : Nat) : Int) by omega]
    refine ix_tup (v := .int a[i + 1]) (atI_nat (by simp [hl])) ?_
    walk_at "s"
    refine ⟨mulOk_l (by unfold small64; omega), ?_⟩
    rw [show ((i + 1 : Nat) : Int) * a[i + 1] = ((i : Int) + 1) * cf a (i + 1) by rw [cf_lt hl]; rfl]
    exact hk _
  walk_at "s"
  refine p_poly_any (ws := dL a) (.inl ?_) h
  unfold dL
  rw [List.map_map]
  rfl

theorem q_changes {p : Nat} {a : List Int} (ha : ∀ x ∈ a, Bt p x) (hp : p ≤ 60000000) (h : Q (.d (.int (cg 0 a)))) : sem fns (k + 1) 17 [tz a] X Q := by
  refine sem_at rfl ⟨rfl, ?_⟩
  (simp only [b_changes]; walk_at "s")
  refine for_at' (fun r ε => ∃ (ys : List Int) (m : Nat) (l : Int) (o : Option Val), r = ys.map .int ∧ ε = [some (.d (tz a)), some (.d (.int m)), some (.d (.int l)), o] ∧ Bt p l ∧ (∀ y ∈ ys, Bt p y) ∧ m + cg l ys = cg 0 a) ?_ ?_ _ _ ⟨a, 0, 0, none, rfl, rfl, bt0, ha, by omega⟩
  · rintro x r ε ⟨ys, m, l, o, hr, rfl, hl, hy, hm⟩ hnx
    cases ys with
    | nil => cases hr
    | cons w ys =>
      cases hr
      have hw := hy w (List.mem_cons_self ..)
      have hy2 : ∀ y ∈ ys, Bt p y := fun y q => hy y (List.mem_cons_of_mem _ q)
      have hm2 : m + ((if w * l < 0 then 1 else 0) + cg (if w = 0 then l else w) ys) = cg 0 a := hm
      (simp only [b_changes_2]; walk_at "s")
      refine ⟨mulOk_of hw hl (by omega), ?_⟩
      split
      · rename_i h1
        rw [if_pos h1] at hm2
        (simp only [b_changes_1]; walk_at "s")
        split
        · rename_i h2
          rw [if_neg h2] at hm2
          exact hnx _ ⟨ys, m + 1, w, _, rfl, rfl, hw, hy2, by omega⟩
        · rename_i h2
          have h3 : w = 0 := by omega
          rw [if_pos h3] at hm2
          exact hnx _ ⟨ys, m + 1, l, _, rfl, rfl, hl, hy2, by omega⟩
      · rename_i h1
        rw [if_neg h1] at hm2
        (simp only [b_changes_1]; walk_at "s")
        split
        · rename_i h2
          rw [if_neg h2] at hm2
          exact hnx _ ⟨ys, m, w, _, rfl, rfl, hw, hy2, by omega⟩
        · rename_i h2
          have h3 : w = 0 := by omega
          rw [if_pos h3] at hm2
          exact hnx _ ⟨ys, m, l, _, rfl, rfl, hl, hy2, by omega⟩
  · rintro ε ⟨ys, m, l, o, hr, rfl, hl, hy, hm⟩
    cases ys with
    | cons w ys => cases hr
    | nil =>
      (simp only [b_changes_3]; walk_at "s")
      have hm2 : m + 0 = cg 0 a := hm
      rw [show m = cg 0 a by omega]
      exact h

theorem p_pushed {n b c : Nat} {a : List Int} {d : D} {z : Int} (hd : d = .list (a.map .int) ∨ d = .tuple (a.map .int)) (ha : Bl n b a) (hz : Bt c z) (hn : n ≤ 1000) (hs : b + n * c + n * n + c ≤ 100000000) (h : Q (.own ((pushL z a).map .int))) : sem fns (k + 1) 18 [d, .int z] X Q := by
  refine sem_at rfl ⟨rfl, ?_⟩
  have la := ha.1
  have core : forF (.one 3) (fun ε2 D' => wS (sem fns k) b_pushed_2 ε2 D') { nx := fun ε1 => wS (sem fns k) b_pushed_3 ε1 { nx := fun _ => Q (.d .none), rt := Q, ex := fun c _ => X c }, rt := Q, ex := fun c _ => X c } .mk ((List.range a.length).map fun (i : Nat) => PyData.int (i : Int)) [some (.d d), some (.d (.int z)), some (.own (a.map .int)), none, none] := by
    refine for_at' (fun r ε => ∃ (i m : Nat) (pre rest : List Int) (o3 o4 : Option Val), r = (List.range' i m).map (fun (i : Nat) => PyData.int i) ∧ ε = [some (.d d), some (.d (.int z)), some (.own ((pre ++ rest).map .int)), o3, o4] ∧ pre.length = i ∧ rest.length = m ∧ i + m = a.length ∧
      pre ++ pushN z m rest = pushL z a ∧ PB (b + n * c + i * n) c rest) ?_ ?_ _ _ ⟨0, a.length, [], a, none, none, by rw [← List.range_eq_range'], rfl, rfl, rfl, by omega, rfl, (PB.of ha).mono (by omega)⟩
    · rintro x r ε ⟨i, m, pre, rest, o3, o4, hr, rfl, hpre, hrest, him, hpush, hbt⟩ hnx
      cases m with
      | zero => cases hr
      | succ m =>
        rw [rng'_cons] at hr
        cases hr
        have hli : i < a.length := by omega
        (simp only [b_pushed_2]; walk_at "s")
        have hl0 : ((pre ++ rest).length : Int) = a.length := by rw [List.length_append]; omega
        rw [List.length_map, hl0]
        refine ⟨by omega, ?_⟩
        rw [show ((a.length : Int) - 2 - ((i : Int) - 1)).toNat = m by omega]
        -- the inner pass
        refine for_at' (fun r2 ε => ∃ (j : Nat) (old new : List Int) (p4 : Option Val), r2 = ((List.range j).reverse.map fun (q : Nat) => PyData.int ((i + q : Nat) : Int)) ∧ ε = [some (.d d), some (.d (.int z)), some (.own ((pre ++ old ++ new).map .int)), some (.d (.int i)), p4] ∧
          old.length = j ∧ new ≠ [] ∧ j + new.length = m + 1 ∧ (∃ tl, rest = old ++ tl ∧ new = syn z tl)) ?_ ?_ _ _ ⟨m, rest.take m, rest.drop m, o4, ?_, ?_, ?_, ?_, ?_, ?_⟩
        · rintro x2 r2 ε ⟨j, old, new, p4, hr2, rfl, hold, hnew, hj, tl, e1, e2⟩ hnx2
          cases j with
          | zero => cases hr2
          | succ j =>
            rw [List.range_succ, List.reverse_append] at hr2
            cases hr2
            obtain ⟨old', y, rfl⟩ : ∃ old' y, old = old' ++ [y] := ⟨old.dropLast, old.getLast (by intro e; rw [e] at hold; cases hold), (List.dropLast_concat_getLast _).symm⟩
            have ho : old'.length = j := by
              rw [List.length_append] at hold
              simp only [List.length_cons, List.length_nil] at hold
              omega
            obtain ⟨v, t, rfl⟩ : ∃ v t, new = v :: t := by
              cases new with
              | nil => exact absurd rfl hnew
              | cons v t => exact ⟨v, t, rfl⟩
            (simp only [b_pushed_1]; walk_at "s")
            have g1 : (pre ++ (old' ++ [y]) ++ v :: t)[i + j]? = some y := by
              rw [List.append_assoc, List.append_assoc, List.getElem?_append_right (by omega), List.getElem?_append_right (by omega)]
              rw [show i + j - pre.length - old'.length = 0 by omega]
              rfl
            have g2 : (pre ++ (old' ++ [y]) ++ v :: t)[i + j + 1]? = some v := by
              rw [List.append_assoc, List.append_assoc, List.getElem?_append_right (by omega), List.getElem?_append_right (by omega)]
              rw [show i + j + 1 - pre.length - old'.length = 1 by omega]
              rfl
            refine ix_lst (v := .int y) (atI_nat (by rw [List.getElem?_map, g1]; rfl)) ?_
            walk_at "s"
            rw [show ((i + j : Nat) : Int) + 1 = ((i + j + 1 : Nat) : Int) by omega]
            refine ix_lst (v := .int v) (atI_nat (by rw [List.getElem?_map, g2]; rfl)) ?_
            walk_at "s"
            have vB : Bt (b + n * c + n * n) v := by
              have tp : ∀ (old : List Int), PB (b + n * c + i * n) c (old ++ tl) → PB (b + n * c + i * n) c tl := fun old => by
                induction old with
                | nil => exact fun h => h
                | cons _ _ ih => exact fun h => ih h.tl
              have hl : tl.length ≤ a.length := by
                have : rest.length = (old' ++ [y]).length + tl.length := by rw [e1, List.length_append]
                omega
              have sp := syn_pb (L := n) hz (tp _ (by rw [← e1]; exact hbt)) (Nat.lt_of_le_of_lt (Nat.le_trans hl la) Nat.lt_two_pow_self)
              have m2 : (i + 1) * n ≤ n * n := Nat.mul_le_mul_right _ (by omega)
              rw [Nat.add_mul, Nat.one_mul] at m2
              exact (sp.bt v (by rw [← e2]; exact List.mem_cons_self ..)).mono (by omega)
            refine ⟨mulOk_of hz vB (by omega), i + j, ?_, ?_⟩
            · unfold L2.ixN
              rw [if_pos (by omega), if_pos (by simp only [List.length_map, List.length_append, List.length_cons, List.length_nil]; omega)]
              exact congrArg some (by omega)
            · have eset : ((pre ++ (old' ++ [y]) ++ v :: t).map PyData.int).set (i + j) (.int (y + z * v)) = (pre ++ old' ++ (y + z * v) :: v :: t).map .int := by
                rw [← List.map_set]
                refine congrArg (List.map PyData.int) ?_
                rw [List.append_assoc, List.append_assoc, List.set_append_right _ _ (by omega), List.set_append_right _ _ (by omega)]
                rw [show i + j - pre.length - old'.length = 0 by omega, List.append_assoc]
                rfl
              refine hnx2 _ ⟨j, old', (y + z * v) :: v :: t, some (.d (.int ((i + j : Nat) : Int))), rfl, by rw [eset], ho, by simp, by simp only [List.length_cons] at hj ⊢; omega, y :: tl, ?_, ?_⟩
              · rw [e1, List.append_assoc]
                rfl
              · show _ = (y + z * (syn z tl).headD 0) :: syn z tl
                rw [← e2]
                rfl
        · rintro ε ⟨j, old, new, p4, hr2, rfl, hold, hnew, hj, tl, e1, e2⟩
          cases j with
          | succ j =>
            rw [List.range_succ, List.reverse_append] at hr2
            cases hr2
          | zero =>
            have : old = [] := List.length_eq_zero_iff.mp hold
            subst this
            have e1 : rest = tl := e1
            subst e1
            cases new with
            | nil => exact absurd rfl hnew
            | cons v t =>
              have ht : t.length = m := by simp only [List.length_cons] at hj; omega
              refine hnx _ ⟨i + 1, m, pre ++ [v], t, some (.d (.int (i : Int))), p4, rfl, by rw [List.append_nil, List.append_assoc]; rfl, by rw [List.length_append, hpre]; rfl, ht, by omega, ?_, ?_⟩
              · rw [← hpush, List.append_assoc]
                show pre ++ (v :: pushN z m t) = pre ++ (match syn z rest with
                  | [] => []
                  | v :: t => v :: pushN z m t)
                rw [← e2]
              · have sp := syn_pb (L := n) hz hbt (Nat.lt_of_le_of_lt (Nat.le_trans (by omega) la) Nat.lt_two_pow_self)
                rw [← e2] at sp
                exact sp.tl.mono (by rw [Nat.add_mul]; omega)
        · rw [revRange, List.map_map]
          refine List.map_congr_left fun q hq => ?_
          have := List.mem_range.mp hq
          refine congrArg PyData.int ?_
          show (a.length : Int) - 2 - (q : Int) = ((i + (m - 1 - q) : Nat) : Int)
          omega
        · rw [List.append_assoc, List.take_append_drop]
        · rw [List.length_take]; omega
        · intro e
          have := congrArg List.length e
          rw [List.length_drop] at this
          simp only [List.length_nil] at this
          omega
        · rw [List.length_drop]; omega
        · refine ⟨rest.drop m, (List.take_append_drop ..).symm, ?_⟩
          have hl : (rest.drop m).length = 1 := by rw [List.length_drop]; omega
          match e : rest.drop m, hl with
          | [w], _ =>
            show [w] = [w + z * 0]
            rw [Int.mul_zero, Int.add_zero]
    · rintro ε ⟨i, m, pre, rest, o3, o4, hr, rfl, hpre, hrest, him, hpush, hbt⟩
      cases m with
      | succ m => rw [rng'_cons] at hr; cases hr
      | zero =>
        have : rest = [] := List.length_eq_zero_iff.mp hrest
        subst this
        (simp only [b_pushed_3]; walk_at "s")
        have e : pre ++ [] = pushL z a := hpush
        rw [e]
        exact h
  have fin : (a.map PyData.int).length = a.length := List.length_map ..
  rcases hd with rfl | rfl
  · (simp only [b_pushed]; walk_at "s")
    rw [fin]
    refine ⟨⟨by omega, by omega⟩, ?_⟩
    rw [Int.toNat_natCast]
    exact core
  · (simp only [b_pushed]; walk_at "s")
    rw [fin]
    refine ⟨⟨by omega, by omega⟩, ?_⟩
    rw [Int.toNat_natCast]
    exact core

theorem p_spread {n b c : Nat} {a : List Int} {z : Int} (ha : Bl n b a) (hz : Bt c z) (hn : n ≤ 1000) (hs : b + 1 + n * c + c ≤ 100000000) (h : Q (.own ((sprL z a).map .int))) : sem fns (k + 1) 19 [tz a, .int z] X Q := by
  refine sem_at rfl ⟨rfl, ?_⟩
  have la := ha.1
  (simp only [b_spread]; walk_at "s")
  rw [← List.map_reverse]
  refine for_at' (fun r ε => ∃ (ys done : List Int) (s : Int) (o : Option Val), r = ys.map .int ∧ ε = [some (.d (tz a)), some (.d (.int z)), some (.own (done.map .int)), some (.d (.int s)), o] ∧ done.length + ys.length = a.length ∧ Bt (1 + done.length * c) s ∧ (∀ w ∈ ys, Bt b w) ∧ done ++ strL z s ys = strL z 1 a.reverse) ?_ ?_ _ _ ⟨a.reverse, [], 1, none, rfl, rfl, by simp, (bt_c (a := 1) (i := 1) (by decide)).mono (by simp), fun w hw => ha.2 w (List.mem_reverse.mp hw), rfl⟩
  · rintro x r ε ⟨ys, done, s, o, hr, rfl, hl, hsb, hy, he⟩ hnx
    cases ys with
    | nil => cases hr
    | cons y ys =>
      cases hr
      have hl2 : done.length + (ys.length + 1) = a.length := hl
      have m1 : done.length * c + c ≤ n * c := by
        have : (done.length + 1) * c ≤ n * c := Nat.mul_le_mul_right _ (by omega)
        rw [Nat.succ_mul] at this
        exact this
      (simp only [b_spread_1]; walk_at "s")
      refine ⟨mulOk_of (hy y (List.mem_cons_self ..)) hsb (by omega), by rw [List.length_map]; omega, mulOk_of hsb hz (by omega), ?_⟩
      refine hnx _ ⟨ys, done ++ [y * s], s * z, _, rfl, by rw [List.map_append]; rfl, by rw [List.length_append]; simp only [List.length_cons, List.length_nil]; omega, ?_, fun w hw => hy w (List.mem_cons_of_mem _ hw), ?_⟩
      · rw [List.length_append]
        exact (Bt.mul hsb hz).mono (by rw [List.length_cons, List.length_nil, Nat.add_mul]; omega)
      · rw [← he, List.append_assoc]
        rfl
  · rintro ε ⟨ys, done, s, o, hr, rfl, hl, hsb, hy, he⟩
    cases ys with
    | cons y ys => cases hr
    | nil =>
      (simp only [b_spread_2]; walk_at "s")
      have e : done ++ [] = strL z 1 a.reverse := he
      rw [List.append_nil] at e
      rw [e, ← List.map_reverse]
      exact h

theorem p_stretched {n b c : Nat} {a : List Int} {d : D} {z : Int} (hd : d = .list (a.map .int) ∨ d = .tuple (a.map .int)) (ha : Bl n b a) (hz : Bt c z) (hn : n ≤ 1000) (hs : b + 1 + n * c + c ≤ 100000000) (h : Q (.own ((strL z 1 a).map .int))) : sem fns (k + 1) 20 [d, .int z] X Q := by
  refine sem_at rfl ⟨rfl, ?_⟩
  have la := ha.1
  have core : forF (.one 4) (fun ε2 D' => wS (sem fns k) b_stretched_1 ε2 D') { nx := fun ε1 => wS (sem fns k) b_stretched_2 ε1 { nx := fun _ => Q (.d .none), rt := Q, ex := fun c _ => X c }, rt := Q, ex := fun c _ => X c } .mk (a.map .int) [some (.d d), some (.d (.int z)), some (.own []), some (.d (.int 1)), none] := by
    refine for_at' (fun r ε => ∃ (ys done : List Int) (s : Int) (o : Option Val), r = ys.map .int ∧ ε = [some (.d d), some (.d (.int z)), some (.own (done.map .int)), some (.d (.int s)), o] ∧ done.length + ys.length = a.length ∧ Bt (1 + done.length * c) s ∧ (∀ w ∈ ys, Bt b w) ∧ done ++ strL z s ys = strL z 1 a) ?_ ?_ _ _ ⟨a, [], 1, none, rfl, rfl, by simp, (bt_c (a := 1) (i := 1) (by decide)).mono (by simp), ha.2, rfl⟩
    · rintro x r ε ⟨ys, done, s, o, hr, rfl, hl, hsb, hy, he⟩ hnx
      cases ys with
      | nil => cases hr
      | cons y ys =>
        cases hr
        have hl2 : done.length + (ys.length + 1) = a.length := hl
        have m1 : done.length * c + c ≤ n * c := by
          have : (done.length + 1) * c ≤ n * c := Nat.mul_le_mul_right _ (by omega)
          rw [Nat.succ_mul] at this
          exact this
        (simp only [b_stretched_1]; walk_at "s")
        refine ⟨mulOk_of (hy y (List.mem_cons_self ..)) hsb (by omega), by rw [List.length_map]; omega, mulOk_of hsb hz (by omega), ?_⟩
        refine hnx _ ⟨ys, done ++ [y * s], s * z, _, rfl, by rw [List.map_append]; rfl, by rw [List.length_append]; simp only [List.length_cons, List.length_nil]; omega, ?_, fun w hw => hy w (List.mem_cons_of_mem _ hw), ?_⟩
        · rw [List.length_append]
          exact (Bt.mul hsb hz).mono (by rw [List.length_cons, List.length_nil, Nat.add_mul]; omega)
        · rw [← he, List.append_assoc]
          rfl
    · rintro ε ⟨ys, done, s, o, hr, rfl, hl, hsb, hy, he⟩
      cases ys with
      | cons y ys => cases hr
      | nil =>
        (simp only [b_stretched_2]; walk_at "s")
        have e : done ++ [] = strL z 1 a := he
        rw [List.append_nil] at e
        rw [e]
        exact h
  rcases hd with rfl | rfl
  · (simp only [b_stretched]; walk_at "s")
    exact core
  · (simp only [b_stretched]; walk_at "s")
    exact core

theorem p_above {n b s : Nat} {p : Po} {c : Rat} (hp : Po.B n b p) (hc : Sz s c) (hn : n ≤ 1000) (hs : btB n b s + 6 * s ≤ 60000000) (h : (∀ w ∈ Po.abv p c, Bt (btB n b s) w) → Q (.d (tz (Po.abv p c)))) : sem fns (k + 2) 21 [tz p.l, fr c] X Q := by
  refine sem_at rfl ⟨rfl, ?_⟩
  (simp only [b_above]; walk_at "s")
  unfold btB at hs
  refine p_spread hp.bl hc.2 (by omega) (by omega) ?_
  walk_at "s"
  refine p_pushed (.inl rfl) (bl_spr hc.2 hp.bl) hc.1 (by omega) (by omega) ?_
  walk_at "s"
  have b2 := pushL_pb hc.1 (bl_spr hc.2 hp.bl)
  refine p_stretched (.inl rfl) b2 hc.2 (by omega) (by omega) ?_
  walk_at "s"
  refine p_poly_any (.inl rfl) (h fun w hw => ?_)
  refine ((bl_trim (bl_str hc.2 b2)).2 w hw).mono ?_
  unfold btB
  omega

theorem p_below {n b s : Nat} {p : Po} {c : Rat} (hp : Po.B n b p) (hc : Sz s c) (hn : n ≤ 1000) (hs : btB n b s + 6 * s ≤ 60000000) (h : (∀ w ∈ Po.blw p c, Bt (btB n b s) w) → Q (.d (tz (Po.blw p c)))) : sem fns (k + 2) 22 [tz p.l, fr c] X Q := by
  refine sem_at rfl ⟨rfl, ?_⟩
  (simp only [b_below]; walk_at "s")
  unfold btB at hs
  refine p_spread hp.bl hc.2 (by omega) (by omega) ?_
  walk_at "s"
  refine p_pushed (.inl rfl) (bl_spr hc.2 hp.bl) hc.1 (by omega) (by omega) ?_
  walk_at "s"
  have b2 := pushL_pb hc.1 (bl_spr hc.2 hp.bl)
  refine p_stretched (.inl rfl) b2 hc.2.neg (by omega) (by omega) ?_
  walk_at "s"
  refine p_poly_any (.inl rfl) (h fun w hw => ?_)
  refine ((bl_trim (bl_str hc.2.neg b2)).2 w hw).mono ?_
  unfold btB
  omega

theorem p_between {n b s : Nat} {p : Po} {lo hi : Rat} (hp : Po.B n b p) (h1 : Sz s lo) (h2 : Sz s hi) (hn : n ≤ 1000) (hs : btB n b s + 6 * s ≤ 60000000) (h : Q (.d (tz (Po.btw p lo hi)))) : sem fns (k + 2) 23 [tz p.l, fr lo, fr hi] X Q := by
  refine sem_at rfl ⟨rfl, ?_⟩
  (simp only [b_between]; walk_at "s")
  refine p_divisor ?_
  walk_at "s"
  obtain ⟨g0, B0, dv, dd, BB⟩ := lcB_ok (s := s) (denP lo) (denP hi) h1.2 h2.2
  have e1 : (lo.den : Int).fdiv (Int.gcd lo.den hi.den) * hi.den = lcB lo.den hi.den := rfl
  have q1 : Bt s ((lo.den : Int).fdiv (Int.gcd lo.den hi.den)) := h1.2.le (by
    rw [fdiv_pos (by omega)]
    exact Int.natAbs_ediv_le_natAbs ..)
  refine ⟨g0, mulOk_of q1 h2.2 (by omega), ?_⟩
  rw [e1]
  unfold Po.btw at h
  generalize lcB lo.den hi.den = B at *
  obtain ⟨x, rfl⟩ := dv
  obtain ⟨y, hy⟩ := dd
  have vne := den0 lo
  have dne := den0 hi
  have ex : ((lo.den : Int) * x).fdiv lo.den = x := Int.mul_fdiv_cancel_left _ vne
  have ey : ((lo.den : Int) * x).fdiv hi.den = y := by rw [hy, Int.mul_fdiv_cancel_left _ dne]
  have xB : Bt (2 * s) x := bt_quot BB rfl vne
  have yB : Bt (2 * s) y := bt_quot BB hy dne
  have r1 : lo.num * ((lo.den : Int) * x) / lo.den = lo.num * x := by rw [show lo.num * ((lo.den : Int) * x) = lo.den * (lo.num * x) by grind, Int.mul_ediv_cancel_left _ vne]
  have r2 : hi.num * ((lo.den : Int) * x) / hi.den = hi.num * y := by rw [hy, show hi.num * ((hi.den : Int) * y) = hi.den * (hi.num * y) by grind, Int.mul_ediv_cancel_left _ dne]
  rw [r1, r2] at h
  rw [ex]
  refine ⟨vne, mulOk_of h1.1 xB (by omega), dne, ?_⟩
  rw [ey]
  refine ⟨mulOk_of h2.1 yB (by omega), ?_⟩
  have fB : Bt (3 * s) (lo.num * x) := (Bt.mul h1.1 xB).mono (by omega)
  have wB : Bt (3 * s + 1) (hi.num * y - lo.num * x) := Bt.sub ((Bt.mul h2.1 yB).mono (by omega)) fB
  have B3 : Bt (3 * s) ((lo.den : Int) * x) := BB.mono (by omega)
  unfold btB at hs
  have m1 : n * (3 * s) = 3 * (n * s) := by grind
  have m2 : n * (3 * s + 1) = 3 * (n * s) + n := by grind
  refine p_spread hp.bl B3 (by omega) (by omega) ?_
  walk_at "s"
  have b1 := bl_spr B3 hp.bl
  refine p_pushed (.inl rfl) b1 fB (by omega) (by omega) ?_
  walk_at "s"
  have b2 := pushL_pb fB b1
  refine p_stretched (.inl rfl) b2 wB (by omega) (by omega) ?_
  walk_at "s"
  have b3 := bl_str wB b2
  rw [← List.map_reverse]
  refine p_pushed (.inl rfl) (bl_rev b3) (c := 1) (bt_c (by decide)) (by omega) (by omega) ?_
  walk_at "s"
  rw [← List.map_reverse]
  exact p_poly_any (.inl rfl) h

theorem p_content {p : Po} (h : Q (.d (.int p.cont))) : sem fns (k + 3) 24 [tz p.l] X Q := by
  refine sem_at rfl ⟨rfl, ?_⟩
  (simp only [b_content]; walk_at "s")
  exact p_divisor_of (.inr rfl) h

theorem p_divided {p r : Po} {d : Int} {n : Nat} (e : p = Po.C d * r) (hd : d ≠ 0) (hl : p.len ≤ n) (hn : n ≤ 100000) (h : Q (.d (tz r.l))) : sem fns (k + 1) 25 [tz p.l, .int d] X Q := by
  refine sem_at rfl ⟨rfl, ?_⟩
  (simp only [b_divided]; walk_at "s")
  refine lc_as .int (fun w => .int (w.fdiv d)) (fun w hw kk hk => ?_) (show p.l.length ≤ 16777216 from Nat.le_trans hl (by omega)) ?_
  · (simp only [e_divided_1]; walk_at "s")
    exact ⟨hd, hk _⟩
  walk_at "s"
  rw [show (p.l.map fun w => PyData.int (w.fdiv d)) = r.l.map .int by rw [← Po.div_l e hd, List.map_map]; rfl]
  exact h

theorem p_plain {p : Po} {n : Nat} (hp : p.len ≤ n) (hn : n ≤ 100000) (h : Q (.d (tz (Po.pl p).l))) : sem fns (k + 4) 26 [tz p.l] X Q := by
  refine sem_at rfl ⟨rfl, ?_⟩
  (simp only [b_plain]; walk_at "s")
  by_cases p0 : p = 0
  · rw [if_pos (Po.eq0_l.mp p0)]
    rw [p0] at h
    exact h
  rw [if_neg (Po.ne0_l.mp p0)]
  have pn := Po.ne0_l.mp p0
  have lp : L2.atI (p.l.map PyData.int) (-1) = some (.int p.lc) := by rw [atI_last pn, Po.last_l pn]
  refine ix_tup lp ?_
  walk_at "s"
  have c0 := Po.cont_ne p0
  have e := Po.pl_eq p
  split
  · rename_i hs
    unfold Po.sc at e
    rw [if_pos hs] at e
    refine p_content ?_
    walk_at "s"
    exact p_divided e (by omega) hp hn h
  · rename_i hs
    unfold Po.sc at e
    rw [if_neg hs] at e
    refine p_content ?_
    walk_at "s"
    exact p_divided e (by omega) hp hn h

theorem p_least {s : Int} {u v : Po} {n : Nat} (hs : 1 ≤ s) (hu : u.len ≤ n) (hv : v.len ≤ n) (hn : n ≤ 100000)
    (h : ∀ (g : Nat) s1 u1 v1, 1 ≤ g → s = g * s1 → u = Po.C g * u1 → v = Po.C g * v1 → (∀ d : Nat, (d : Int) ∣ s1 → d ∣ u1.cont → d ∣ v1.cont → d = 1) → Q (.d (.tuple [.int s1, tz u1.l, tz v1.l]))) : sem fns (k + 4) 27 [.int s, tz u.l, tz v.l] X Q := by
  refine sem_at rfl ⟨rfl, ?_⟩
  (simp only [b_least_parted]; walk_at "s")
  refine p_content ?_
  walk_at "s"
  refine p_content ?_
  walk_at "s"
  refine p_divisor_of (xs := [s, u.cont, v.cont]) (.inl rfl) ?_
  walk_at "s"
  have hg := fun d => dvd_gcdL (xs := [s, (u.cont : Int), (v.cont : Int)]) (d := d)
  generalize gcdL [s, (u.cont : Int), (v.cont : Int)] = g at *
  have hself := (hg g).mp (Nat.dvd_refl g)
  have d1 : (g : Int) ∣ s := hself s (by simp)
  have d2 : (g : Int) ∣ u.cont := hself _ (by simp)
  have d3 : (g : Int) ∣ v.cont := hself _ (by simp)
  have g0 : g ≠ 0 := fun e => by subst e; have := Int.zero_dvd.mp d1; omega
  have gi : (g : Int) ≠ 0 := by omega
  obtain ⟨s1, e1⟩ := d1
  obtain ⟨u1, e2⟩ := Po.dvd_C fun i => Int.dvd_trans d2 (Po.cont_cf u i)
  obtain ⟨v1, e3⟩ := Po.dvd_C fun i => Int.dvd_trans d3 (Po.cont_cf v i)
  refine ⟨gi, ?_⟩
  refine p_divided e2 gi hu hn ?_
  walk_at "s"
  refine p_divided e3 gi hv hn ?_
  walk_at "s"
  rw [e1, Int.mul_fdiv_cancel_left _ gi]
  refine h g s1 u1 v1 (by omega) e1 e2 e3 fun d h1 h2 h3 => ?_
  have : g * d ∣ g := by
    refine (hg _).mpr fun x hx => ?_
    simp only [List.mem_cons, List.not_mem_nil, or_false] at hx
    have m1 : ((g * d : Nat) : Int) = (g : Int) * d := Int.natCast_mul ..
    rcases hx with rfl | rfl | rfl
    · rw [m1, e1]; exact Int.mul_dvd_mul_left _ h1
    · rw [e2, Po.gcd_mulAll]
      exact Int.ofNat_dvd.mpr (Nat.mul_dvd_mul_left g h2)
    · rw [e3, Po.gcd_mulAll]
      exact Int.ofNat_dvd.mpr (Nat.mul_dvd_mul_left g h3)
  have h5 := Nat.le_of_dvd (by omega) this
  have d0 : d ≠ 0 := fun e => by subst e; rw [Nat.mul_zero] at this; exact g0 (Nat.eq_zero_of_zero_dvd this)
  have : g * d ≤ g * 1 := by omega
  have := Nat.le_of_mul_le_mul_left this (by omega)
  omega

theorem p_parted0 {a : Po} (h : X 1) : sem fns (k + 5) 28 [tz a.l, .tuple []] X Q := by
  refine sem_at rfl ⟨rfl, ?_⟩
  (simp only [b_parted]; walk_at "s")
  refine ⟨shapedT [], shapedT [], ?_⟩
  rw [show PyData.eqv (.tuple []) (.tuple []) = true from rfl]
  walk_at "s"
  exact h
theorem p_parted {L r q d : Nat} {a b : Po} (ha : Po.B L r a) (hb : Po.B L q b) (b0 : b ≠ 0) (hL : L ≤ 900) (hd : a.len + 1 ≤ b.len + d) (hs : r + 1 + d * (q + 2) ≤ 60000000)
    (h : ∀ s u v, Po.Pd a b s u v → Po.B L (r + (d - 1) * (q + 2) + 1) u → Po.B L (r + d * (q + 2)) v → Bt (1 + d * (q + 2)) s → Q (.d (.tuple [.int s, tz u.l, tz v.l]))) : sem fns (k + 5) 28 [tz a.l, tz b.l] X Q := by
  refine sem_at rfl ⟨rfl, ?_⟩
  (simp only [b_parted]; walk_at "s")
  rw [if_neg (Po.ne0_l.mp b0)]
  have hbl := Po.len_pos b0
  have blc := Po.lc_ne b0
  have bet : ∀ m, m ≤ a.len → b.len ≤ m + 1 → r + 1 + (a.len - m) * (q + 2) ≤ r + 1 + d * (q + 2) := fun m _ hm => by
    have : (a.len - m) * (q + 2) ≤ d * (q + 2) := Nat.mul_le_mul_right _ (by omega)
    omega
  refine whl_at' (fun m ε => ∃ (s : Int) (u v : Po) (o5 o6 o7 : Option Val), ε = [some (.d (tz a.l)), some (.d (tz b.l)), some (.d (.int s)), some (.d (tz u.l)), some (.d (tz v.l)), o5, o6, o7] ∧ 1 ≤ s ∧ Po.C s * a = u * b + v ∧
    Po.B L (r + (a.len - max v.len (b.len - 1)) * (q + 2)) v ∧ Po.B L (r + (a.len - max v.len (b.len - 1) - 1) * (q + 2) + 1) u ∧ (a.len - max v.len (b.len - 1) = 0 → u = 0) ∧ Bt (1 + (a.len - max v.len (b.len - 1)) * (q + 2)) s ∧ v.len ≤ a.len ∧ m = v.len) _ ⟨1, 0, a, none, none, none, rfl, by omega, by rw [Po.C1]; grind, ⟨ha.1, fun i => (ha.2 i).mono (by omega)⟩, Po.B.zero, fun _ => rfl, (bt_c (a := 1) (by decide)).mono (by omega), Nat.le_refl _, rfl⟩ ?_
  rintro m ε1 ⟨s, u, v, o5, o6, o7, rfl, hs1, he, hv, hu, hu0, hsb, hva, rfl⟩
  have hvl := hv.1
  (simp only [c_parted_1]; walk_at "s")
  refine q_degree ?_
  walk_at "s"
  refine q_degree ?_
  walk_at "s"
  by_cases hd : b.len ≤ v.len
  · rw [Nat.max_eq_left (show b.len - 1 ≤ v.len by omega)] at hv hu hu0 hsb
    rw [if_pos (show (b.l.length : Int) - 1 ≤ (v.l.length : Int) - 1 by have : b.l.length ≤ v.l.length := hd; omega)]
    have v0 : v ≠ 0 := Po.ne0.mpr (by omega)
    have vl := Po.ne0_l.mp v0
    have bl := Po.ne0_l.mp b0
    (simp only [b_parted_2]; walk_at "s")
    have lv : L2.atI (v.l.map PyData.int) (-1) = some (.int v.lc) := by rw [atI_last vl, Po.last_l vl]
    have lb : L2.atI (b.l.map PyData.int) (-1) = some (.int b.lc) := by rw [atI_last bl, Po.last_l bl]
    refine ix_tup lv ?_
    walk_at "s"
    refine ix_tup lb ?_
    walk_at "s"
    refine p_divisor ?_
    walk_at "s"
    refine ix_tup lb ?_
    walk_at "s"
    obtain ⟨w1, w2, w3, w4⟩ := Po.step_w (x := v.lc) blc
    have g0 : (Int.gcd v.lc b.lc : Int) ≠ 0 := by
      have : Int.gcd v.lc b.lc ≠ 0 := fun e => blc (Int.gcd_eq_zero_iff.mp e).2
      omega
    have gB : Bt q (Int.gcd v.lc b.lc : Int) := hb.lc.le (by
      have := Nat.le_of_dvd (by omega) (Int.natAbs_dvd_natAbs.mpr (Int.gcd_dvd_right (a := v.lc) (b := b.lc)))
      omega)
    refine ⟨g0, ?_⟩
    rw [absI]
    have f0 : ((b.lc.fdiv (Int.gcd v.lc b.lc)).natAbs : Int) ≠ 0 := by omega
    have fB : Bt q ((b.lc.fdiv (Int.gcd v.lc b.lc)).natAbs : Int) := hb.lc.le (by omega)
    have f1 : 1 ≤ ((b.lc.fdiv (Int.gcd v.lc b.lc)).natAbs : Int) := by omega
    generalize ((b.lc.fdiv (Int.gcd v.lc b.lc)).natAbs : Int) = f at *
    have bb := bet v.len hva (by omega)
    have mono1 : (a.len - v.len - 1) * (q + 2) ≤ (a.len - v.len) * (q + 2) := Nat.mul_le_mul_right _ (by omega)
    have hq1 : (a.len - v.len) * (q + 2) + (q + 2) ≤ d * (q + 2) := by
      have : (a.len - v.len + 1) * (q + 2) ≤ d * (q + 2) := Nat.mul_le_mul_right _ (by omega)
      rw [Nat.add_mul, Nat.one_mul] at this
      exact this
    refine ix_tup lv ?_
    walk_at "s"
    refine ⟨mulOk_of fB hv.lc (by omega), ?_⟩
    refine ix_tup lb ?_
    walk_at "s"
    refine ⟨blc, ?_⟩
    have wB : Bt (r + (a.len - v.len) * (q + 2)) ((f * v.lc).fdiv b.lc) := hv.lc.le w3
    generalize (f * v.lc).fdiv b.lc = w at *
    refine p_poly_any (ws := [w]) (.inl rfl) ?_
    walk_at "s"
    refine q_degree ?_
    walk_at "s"
    refine q_degree ?_
    walk_at "s"
    have hle : b.l.length ≤ v.l.length := hd
    have hvl2 : v.l.length ≤ L := hvl
    have hd0 : (v.l.length : Int) - 1 - ((b.l.length : Int) - 1) = ((v.len - b.len : Nat) : Int) := by
      show _ = ((v.l.length - b.l.length : Nat) : Int)
      omega
    rw [hd0]
    refine q_raised (a := (Po.C w).l) (by omega) (by omega) (by have := Po.len_Cle w; unfold Po.len at this; omega) ?_
    rw [Int.toNat_natCast, Po.up_l]
    walk_at "s"
    refine ⟨mulOk_of hsb fB (by omega), ?_⟩
    refine q_scaled hu.bl (by omega) fB (by omega) ?_
    rw [Po.scl_l]
    walk_at "s"
    have fu := hu.scl fB
    have sB : Po.B L (r + (a.len - v.len) * (q + 2)) (Po.X (v.len - b.len) * Po.C w) := ((Po.B.C (n := 0) wB).shift (v.len - b.len)).mono (by omega) (Nat.le_refl _)
    refine q_plus (Nat.le_trans fu.1 (by omega)) (Nat.le_trans sB.1 (by omega)) ?_
    walk_at "s"
    refine q_scaled hv.bl (by omega) fB (by omega) ?_
    rw [Po.scl_l]
    walk_at "s"
    refine q_times sB.bl hb.bl (by omega) (by omega) (by omega) ?_
    walk_at "s"
    have fv := hv.scl fB
    have tB : Po.B L (r + (a.len - v.len) * (q + 2) + q) (Po.X (v.len - b.len) * Po.C w * b) := by
      rw [show Po.X (v.len - b.len) * Po.C w * b = Po.C w * (Po.X (v.len - b.len) * b) by grind]
      have := (hb.shift (v.len - b.len)).scl wB
      refine ⟨?_, this.2⟩
      refine Po.len_le fun n hn => ?_
      rw [Po.cf_Cmul, Po.cf_shift]
      split
      · rw [Po.cf_ge (by omega), Int.mul_zero]
      · exact Int.mul_zero _
    refine q_minus (a := (Po.C f * v).l) (b := (Po.X (v.len - b.len) * Po.C w * b).l) (Nat.le_trans fv.1 (by omega)) tB.bl (by omega) (by omega) ?_
    walk_at "s"
    have nl := Po.step_len b0 hd w1 f0
    have grow : (a.len - v.len) * (q + 2) + (q + 2) ≤ (a.len - max (Po.C f * v - Po.X (v.len - b.len) * Po.C w * b).len (b.len - 1)) * (q + 2) := by
      have : (a.len - v.len + 1) * (q + 2) ≤ (a.len - max (Po.C f * v - Po.X (v.len - b.len) * Po.C w * b).len (b.len - 1)) * (q + 2) := Nat.mul_le_mul_right _ (by omega)
      rw [Nat.add_mul, Nat.one_mul] at this
      exact this
    have grow1 : (a.len - v.len) * (q + 2) ≤ (a.len - max (Po.C f * v - Po.X (v.len - b.len) * Po.C w * b).len (b.len - 1) - 1) * (q + 2) := Nat.mul_le_mul_right _ (by omega)
    have uq : Po.B L (r + (a.len - v.len) * (q + 2)) (Po.C f * u) := by
      by_cases z : a.len - v.len = 0
      · rw [hu0 z, show Po.C f * 0 = 0 by grind]
        exact Po.B.zero
      · have e1 : (a.len - v.len) * (q + 2) = (a.len - v.len - 1) * (q + 2) + (q + 2) := by
          conv => lhs; rw [show a.len - v.len = (a.len - v.len - 1) + 1 by omega, Nat.add_mul, Nat.one_mul]
        exact (hu.scl fB).mono (Nat.le_refl _) (by omega)
    refine ⟨_, nl, s * f, Po.C f * u + Po.X (v.len - b.len) * Po.C w, Po.C f * v - Po.X (v.len - b.len) * Po.C w * b, _, _, _, rfl, ?_, ?_, ?_, ?_, ?_, ?_, by omega, rfl⟩
    · have := Int.mul_le_mul hs1 f1 (by omega) (by omega)
      omega
    · rw [Po.C_mul]
      grind
    · exact (Po.B.sub (b := r + (a.len - v.len) * (q + 2) + q) (fv.mono (Nat.le_refl _) (by omega)) tB).mono (Nat.le_refl _) (by omega)
    · exact (Po.B.add uq sB).mono (Nat.le_refl _) (by omega)
    · intro z
      omega
    · exact (Bt.mul hsb fB).mono (by omega)
  · rw [if_neg (show ¬ (b.l.length : Int) - 1 ≤ (v.l.length : Int) - 1 by have : ¬ b.l.length ≤ v.l.length := hd; omega)]
    (simp only [b_parted_3]; walk_at "s")
    have bb : (a.len - max v.len (b.len - 1)) * (q + 2) ≤ d * (q + 2) := Nat.mul_le_mul_right _ (by omega)
    have bb1 : (a.len - max v.len (b.len - 1) - 1) * (q + 2) ≤ (d - 1) * (q + 2) := Nat.mul_le_mul_right _ (by omega)
    refine p_least hs1 hu.1 hvl (by omega) fun g s1 u1 v1 g1 e1 e2 e3 hco => ?_
    have gi : (g : Int) ≠ 0 := by omega
    refine h s1 u1 v1 ⟨?_, ?_, ?_, hco⟩ ((hu.quot e2 gi).mono (Nat.le_refl _) (by omega)) ((hv.quot e3 gi).mono (Nat.le_refl _) (by omega)) ((bt_quot hsb e1 gi).mono (by omega))
    · refine Classical.byContradiction fun hn => ?_
      have := Int.mul_nonpos_of_nonneg_of_nonpos (show 0 ≤ (g : Int) by omega) (show s1 ≤ 0 by omega)
      omega
    · refine Po.cancel (Po.C_ne gi) ?_
      rw [e1, Po.C_mul, e2, e3] at he
      grind
    · rw [e3, Po.len_Cmul gi] at hd
      omega

theorem p_lightened {f l r : Po} {n : Nat} (hf : f.len ≤ n) (hl : l.len ≤ n) (hr : r.len ≤ n) (hn : n ≤ 100000)
    (h : ∀ (t : Nat) f1 l1 r1, 1 ≤ t → f = Po.C t * f1 → l = Po.C t * l1 → r = Po.C t * r1 → Q (.d (.tuple [tz f1.l, tz l1.l, tz r1.l]))) : sem fns (k + 4) 29 [.tuple [tz f.l, tz l.l, tz r.l]] X Q := by
  refine sem_at rfl ⟨rfl, ?_⟩
  (simp only [b_lightened]; walk_at "s")
  refine lc_as (as := [f, l, r]) (fun p => tz p.l) (fun p => .int p.cont) (fun p _ kk hk => ?_) (by simp) ?_
  · (simp only [e_lightened_1]; walk_at "s")
    refine p_content ?_
    walk_at "s"
    exact hk _
  walk_at "s"
  refine p_divisor_of (xs := [(f.cont : Int), (l.cont : Int), (r.cont : Int)]) (.inl rfl) ?_
  walk_at "s"
  have hg := fun d => dvd_gcdL (xs := [(f.cont : Int), (l.cont : Int), (r.cont : Int)]) (d := d)
  generalize gcdL [(f.cont : Int), (l.cont : Int), (r.cont : Int)] = g at *
  have hself := (hg g).mp (Nat.dvd_refl g)
  have d1 : (g : Int) ∣ f.cont := hself _ (by simp)
  have d2 : (g : Int) ∣ l.cont := hself _ (by simp)
  have d3 : (g : Int) ∣ r.cont := hself _ (by simp)
  by_cases g0 : g = 0
  · subst g0
    rw [if_pos (show ((0 : Nat) : Int) = 0 from rfl)]
    have one : ∀ p : Po, p = Po.C ((1 : Nat) : Int) * p := fun p => by
      show p = Po.C 1 * p
      rw [Po.C1]
      grind
    exact h 1 f l r (by omega) (one f) (one l) (one r)
  · have gi : (g : Int) ≠ 0 := by omega
    rw [if_neg gi]
    obtain ⟨f1, e1⟩ := Po.dvd_C fun i => Int.dvd_trans d1 (Po.cont_cf f i)
    obtain ⟨l1, e2⟩ := Po.dvd_C fun i => Int.dvd_trans d2 (Po.cont_cf l i)
    obtain ⟨r1, e3⟩ := Po.dvd_C fun i => Int.dvd_trans d3 (Po.cont_cf r i)
    refine p_divided e1 gi hf hn ?_
    walk_at "s"
    refine p_divided e2 gi hl hn ?_
    walk_at "s"
    refine p_divided e3 gi hr hn ?_
    walk_at "s"
    exact h g f1 l1 r1 (by omega) e1 e2 e3

theorem p_shared_rows {N b0 : Nat} {a b : Po} (ha : Po.B N b0 a) (hb : Po.B N b0 b) (hN : N ≤ 800) (hb0 : 1 ≤ b0) (hs : Po.pell N * (b0 + 7) ≤ 50000000)
    (h : ∀ f l r x, Po.Gc a b (Po.pl f) → Po.Row a b f l r → x + 5 ≤ Po.pell (N - f.len) * (b0 + 7) → Po.B N x f → Po.B (N + 1) x l → Po.B (N + 1) x r → Q (.d (.tuple [tz f.l, tz l.l, tz r.l]))) : sem fns (k + 6) 30 [tz a.l, tz b.l] X Q := by
  refine sem_at rfl ⟨rfl, ?_⟩
  (simp only [b_shared_rows]; walk_at "s")
  have one1 : Po.B 1 b0 (1 : Po) := by
    have := Po.B.C (n := 0) (b := 1) (x := 1) (bt_c (by decide))
    exact (show Po.B 1 1 (1 : Po) from this).mono (Nat.le_refl _) hb0
  refine whl_at' (fun m ε => ∃ (f1 l1 r1 f2 l2 r2 : Po) (x1 x2 : Nat) (o4 o5 o6 o7 o8 : Option Val),
    ε = [some (.d (tz a.l)), some (.d (tz b.l)), some (.d (.tuple [tz f1.l, tz l1.l, tz r1.l])), some (.d (.tuple [tz f2.l, tz l2.l, tz r2.l])), o4, o5, o6, o7, o8] ∧
    Po.Row a b f1 l1 r1 ∧ Po.Row a b f2 l2 r2 ∧ Po.Com a b f1 f2 ∧ (f1 = 0 → f2 = 0 → a = 0 ∧ b = 0) ∧ f1.len ≤ N ∧ f2.len ≤ N ∧
    (Po.B N x1 f1 ∧ Po.B N x2 f2 ∧ Po.B (N + 1) x1 l1 ∧ Po.B (N + 1) x2 l2 ∧ Po.B (N + 1) x1 r1 ∧ Po.B (N + 1) x2 r2) ∧
    (f2 ≠ 0 → x1 + (f1.len + 1 - f2.len) * (x2 + 3) + 7 ≤ Po.pell (N - f2.len + 1) * (b0 + 7) ∧ x2 + 5 ≤ Po.pell (N - f2.len) * (b0 + 7)) ∧ x1 + 5 ≤ Po.pell (N - f1.len) * (b0 + 7) ∧
    (∀ u : Po, u.len + f2.len ≤ f1.len + 1 ∨ u = 0 → (u * l2).len + f2.len ≤ N + 1 ∨ u * l2 = 0) ∧ (∀ u : Po, u.len + f2.len ≤ f1.len + 1 ∨ u = 0 → (u * r2).len + f2.len ≤ N + 1 ∨ u * r2 = 0) ∧
    (f2 ≠ 0 → l1.len + f2.len ≤ N + 1 ∧ r1.len + f2.len ≤ N + 1 ∧ l2.len + f2.len ≤ N + 1 ∧ r2.len + f2.len ≤ N + 1) ∧ m = f2.len) _
    ⟨a, 1, 0, b, 0, 1, b0, b0, none, none, none, none, none, rfl, ⟨by grind⟩, ⟨by grind⟩, fun d _ h1 h2 => ⟨h1, h2⟩, fun h1 h2 => ⟨h1, h2⟩, ha.1, hb.1, ⟨ha, hb, one1.mono (by omega) (Nat.le_refl _), Po.B.zero, Po.B.zero, one1.mono (by omega) (Nat.le_refl _)⟩, ?_, ?_, ?_, ?_, ?_, rfl⟩ ?_
  · intro _
    have h1 := ha.1
    have h2 := hb.1
    have p1 := Po.pell_lin (N - b.len)
    have p2 := Po.pell_pos (N - b.len)
    have m1 : (a.len + 1 - b.len) * (b0 + 3) ≤ (N - b.len + 1) * (b0 + 7) := Nat.mul_le_mul (by omega) (by omega)
    have m2 : (N - b.len + 1 + 1) * (b0 + 7) ≤ Po.pell (N - b.len + 1) * (b0 + 7) := Nat.mul_le_mul_right _ p1
    have m3 : 1 * (b0 + 7) ≤ Po.pell (N - b.len) * (b0 + 7) := Nat.mul_le_mul_right _ p2
    rw [Nat.add_mul, Nat.one_mul] at m2
    omega
  · have m3 : 1 * (b0 + 7) ≤ Po.pell (N - a.len) * (b0 + 7) := Nat.mul_le_mul_right _ (Po.pell_pos _)
    omega
  · intro u _
    right
    grind
  · intro u hu
    rcases hu with hu | rfl
    · left
      rw [show u * 1 = u by grind]
      have := ha.1
      omega
    · right
      grind
  · intro b0
    have h1 := one1.1
    have h2 := hb.1
    have h3 : (0 : Po).len = 0 := rfl
    refine ⟨by omega, by omega, by omega, by omega⟩
  rintro m ε1 ⟨f1, l1, r1, f2, l2, r2, x1, x2, o4, o5, o6, o7, o8, rfl, row1, row2, com, h0, n1, n2, ⟨B1, B2, B3, B4, B5, B6⟩, hx, hxN, hl2, hr2, hlens, rfl⟩
  (simp only [c_shared_rows_1]; walk_at "s")
  by_cases z : f2 = 0
  · rw [if_neg (fun y => y (Po.eq0_l.mp z))]
    (simp only [b_shared_rows_3]; walk_at "s")
    subst z
    exact h f1 l1 r1 x1 (com.gc row1 fun e => h0 e rfl) row1 hxN B1 B3 B5
  · rw [if_pos (Po.ne0_l.mp z)]
    have f2p := Po.len_pos z
    (simp only [b_shared_rows_2]; walk_at "s")
    obtain ⟨d, hd⟩ : ∃ d, d = f1.len + 1 - f2.len := ⟨_, rfl⟩
    obtain ⟨hx, hx2⟩ := hx z
    rw [← hd] at hx
    have y' : Po.pell (N - f2.len + 1) * (b0 + 7) ≤ Po.pell N * (b0 + 7) := Nat.mul_le_mul_right _ (Po.pell_mono (by omega))
    have y2 : Po.pell (N - f2.len) * (b0 + 7) ≤ Po.pell N * (b0 + 7) := Nat.mul_le_mul_right _ (Po.pell_mono (by omega))
    have y1 : Po.pell (N - f1.len) * (b0 + 7) ≤ Po.pell N * (b0 + 7) := Nat.mul_le_mul_right _ (Po.pell_mono (by omega))
    have e3 : d * (x2 + 3) = d * (x2 + 2) + d := Nat.mul_succ d (x2 + 2)
    have e4 : (d - 1) * (x2 + 2) + (x2 + 2) = d * (x2 + 2) ∨ d = 0 := by
      by_cases d0 : d = 0
      · exact .inr d0
      · left
        conv => rhs; rw [show d = (d - 1) + 1 by omega, Nat.add_mul, Nat.one_mul]
    refine p_parted (L := N) (r := x1) (q := x2) (d := d) B1 B2 z (by omega) (by omega) (by omega) fun s u v pd hu hv hsb => ?_
    walk_at "s"
    have ul := pd.ulen
    have ud : u.len ≤ d := by
      rcases ul with q | q
      · omega
      · rw [q]; exact Nat.zero_le _
    have s0 : s ≠ 0 := by have := pd.pos; omega
    refine q_scaled B3.bl (by omega) hsb (by omega) ?_
    rw [Po.scl_l]
    walk_at "s"
    have d1 : u ≠ 0 → (d - 1) * (x2 + 2) + (x2 + 2) = d * (x2 + 2) := fun u0 => by
      rcases e4 with q | q
      · exact q
      · have := Po.len_pos u0
        omega
    have hud : Po.B d (x1 + d * (x2 + 2) - (x2 + 2) + 1) u := by
      by_cases u0 : u = 0
      · rw [u0]; exact Po.B.zero
      · have := d1 u0
        exact ⟨ud, fun i => (hu.2 i).mono (by omega)⟩
    have w1 : x1 + d * (x2 + 2) - (x2 + 2) + 1 + x2 ≤ x1 + x2 + d * (x2 + 2) + 1 := by omega
    refine q_times hud.bl B4.bl (by omega) (by omega) (by omega) ?_
    walk_at "s"
    have c3 := B3.scl hsb
    have m4 := hud.mul B4
    refine q_minus (a := (Po.C s * l1).l) (b := (u * l2).l) (Nat.le_trans c3.1 (by omega)) m4.bl (by omega) (by omega) ?_
    walk_at "s"
    refine q_scaled B5.bl (by omega) hsb (by omega) ?_
    rw [Po.scl_l]
    walk_at "s"
    refine q_times hud.bl B6.bl (by omega) (by omega) (by omega) ?_
    walk_at "s"
    have c5 := B5.scl hsb
    have m6 := hud.mul B6
    refine q_minus (a := (Po.C s * r1).l) (b := (u * r2).l) (Nat.le_trans c5.1 (by omega)) m6.bl (by omega) (by omega) ?_
    walk_at "s"
    obtain ⟨g1, g2, g3, g4⟩ := hlens z
    have ll : (Po.C s * l1 - u * l2).len + f2.len ≤ N + 1 := by
      have t1 := Po.len_sub (Po.C s * l1) (u * l2)
      rw [Po.len_Cmul s0] at t1
      rcases hl2 u ul with q | q
      · omega
      · have q0 : (u * l2).len = 0 := by rw [q]; rfl
        omega
    have lr : (Po.C s * r1 - u * r2).len + f2.len ≤ N + 1 := by
      have t1 := Po.len_sub (Po.C s * r1) (u * r2)
      rw [Po.len_Cmul s0] at t1
      rcases hr2 u ul with q | q
      · omega
      · have q0 : (u * r2).len = 0 := by rw [q]; rfl
        omega
    refine p_lightened (f := v) (l := Po.C s * l1 - u * l2) (r := Po.C s * r1 - u * r2) (n := N + 1) (by have := pd.lt; omega) (by omega) (by omega) (by omega) fun t f3 l3 r3 t1 e1 e2 e3 => ?_
    walk_at "s"
    have ti : (t : Int) ≠ 0 := by omega
    have f3l : f3.len = v.len := by rw [e1, Po.len_Cmul ti]
    have l3l : l3.len = (Po.C s * l1 - u * l2).len := by rw [e2, Po.len_Cmul ti]
    have r3l : r3.len = (Po.C s * r1 - u * r2).len := by rw [e3, Po.len_Cmul ti]
    have vlt := pd.lt
    have uz : ∀ w : Po, Po.B (N + 1) x2 w → ∀ i, Bt (x1 + d * (x2 + 2) + d) ((u * w).cf i) := fun w hw i => by
      by_cases u0 : u = 0
      · rw [u0, show (0 : Po) * w = 0 by grind, Po.cf_0]; exact bt0
      · have := d1 u0
        exact ((hud.mul hw).2 i).mono (by omega)
    have bitsL : Po.B (N + 1) (x1 + d * (x2 + 3) + 2) (Po.C s * l1 - u * l2) := ⟨by omega, fun i => by
      rw [Po.cf_sub]
      exact (Bt.sub (a := x1 + d * (x2 + 2) + d + 1) ((c3.2 i).mono (by omega)) ((uz l2 B4 i).mono (by omega))).mono (by omega)⟩
    have bitsR : Po.B (N + 1) (x1 + d * (x2 + 3) + 2) (Po.C s * r1 - u * r2) := ⟨by omega, fun i => by
      rw [Po.cf_sub]
      exact (Bt.sub (a := x1 + d * (x2 + 2) + d + 1) ((c5.2 i).mono (by omega)) ((uz r2 B6 i).mono (by omega))).mono (by omega)⟩
    have bitsF : Po.B N (x1 + d * (x2 + 3) + 2) v := hv.mono (Nat.le_refl _) (by omega)
    have mulE : ∀ {p w : Po}, Po.C (t : Int) * p = Po.C (t : Int) * w → p = w := fun e => Po.cancel (Po.C_ne ti) e
    refine ⟨f3.len, by omega, f2, l2, r2, f3, l3, r3, x2, x1 + d * (x2 + 3) + 2, _, _, _, _, _, rfl, row2, ⟨?_⟩, com.step s0 pd.eq e1, fun y => absurd y z, n2, by omega,
      ⟨B2, bitsF.quot e1 ti, B4, bitsL.quot e2 ti, B6, bitsR.quot e3 ti⟩, ?_, hx2, ?_, ?_, ?_, rfl⟩
    · refine mulE ?_
      rw [← e1]
      have q1 := row1.eq
      have q2 := row2.eq
      have q3 := pd.eq
      have : Po.C (t : Int) * (l3 * a + r3 * b) = (Po.C (t : Int) * l3) * a + (Po.C (t : Int) * r3) * b := by grind
      rw [this, ← e2, ← e3]
      have q4 : (Po.C s * l1 - u * l2) * a + (Po.C s * r1 - u * r2) * b = Po.C s * (l1 * a + r1 * b) - u * (l2 * a + r2 * b) := by grind
      rw [q4, q1, q2, q3]
      grind
    · intro z3
      have f3p := Po.len_pos z3
      obtain ⟨j, hj⟩ : ∃ j, f2.len = f3.len + 1 + j := ⟨f2.len - f3.len - 1, by omega⟩
      have g1 := Po.pell_step (N - f2.len) j
      have g2 : (Po.pell (N - f2.len) + (j + 2) * Po.pell (N - f2.len + 1)) * (b0 + 7) ≤ Po.pell (N - f2.len + 2 + j) * (b0 + 7) := Nat.mul_le_mul_right _ g1
      rw [Nat.add_mul, Nat.mul_assoc] at g2
      rw [show N - f3.len + 1 = N - f2.len + 2 + j by omega, show f2.len + 1 - f3.len = j + 2 by omega]
      have g3 : (j + 2) * (x1 + d * (x2 + 3) + 2 + 5) ≤ (j + 2) * (Po.pell (N - f2.len + 1) * (b0 + 7)) := Nat.mul_le_mul_left _ hx
      have g4 : (j + 2) * (x1 + d * (x2 + 3) + 2 + 5) = (j + 2) * (x1 + d * (x2 + 3) + 2 + 3) + (j + 2) * 2 := Nat.mul_add (j + 2) (x1 + d * (x2 + 3) + 2 + 3) 2
      refine ⟨by omega, ?_⟩
      have : Po.pell (N - f2.len + 1) * (b0 + 7) ≤ Po.pell (N - f3.len) * (b0 + 7) := Nat.mul_le_mul_right _ (Po.pell_mono (by omega))
      omega
    · intro w hw
      by_cases w0 : w * l3 = 0
      · exact .inr w0
      · left
        have a1 : w ≠ 0 := fun y => w0 (by rw [y]; grind)
        have a2 : l3 ≠ 0 := fun y => w0 (by rw [y]; grind)
        have := Po.len_mul a1 a2
        rcases hw with q | q
        · omega
        · exact absurd q a1
    · intro w hw
      by_cases w0 : w * r3 = 0
      · exact .inr w0
      · left
        have a1 : w ≠ 0 := fun y => w0 (by rw [y]; grind)
        have a2 : r3 ≠ 0 := fun y => w0 (by rw [y]; grind)
        have := Po.len_mul a1 a2
        rcases hw with q | q
        · omega
        · exact absurd q a1
    · intro _
      exact ⟨by omega, by omega, by omega, by omega⟩

theorem p_sharedR {N b0 : Nat} {a b : Po} (ha : Po.B N b0 a) (hb : Po.B N b0 b) (hN : N ≤ 800) (hb0 : 1 ≤ b0) (hs : Po.pell N * (b0 + 7) ≤ 50000000)
    (h : ∀ d, Po.Gc a b d → Po.B N (b0 + Po.gro N) d → Po.BzB a b d (N + 1) (Po.pell N * (b0 + 7)) → Q (.d (tz d.l))) : sem fns (k + 7) 31 [tz a.l, tz b.l] X Q := by
  refine sem_at rfl ⟨rfl, ?_⟩
  (simp only [b_shared]; walk_at "s")
  refine p_shared_rows ha hb hN hb0 hs fun f l r x g row hx hf hl hr => ?_
  walk_at "s"
  refine p_plain (n := N) hf.1 (by omega) ?_
  have x1 : Po.pell (N - f.len) * (b0 + 7) ≤ Po.pell N * (b0 + 7) := Nat.mul_le_mul_right _ (Po.pell_mono (by omega))
  refine h _ g ?_ ⟨l, r, f.sc, ?_, ?_, hl.mono (Nat.le_refl _) (by omega), hr.mono (Nat.le_refl _) (by omega)⟩
  · by_cases p0 : Po.pl f = 0
    · rw [p0]
      exact Po.B.zero
    · exact Po.B_gc ha hb g p0
  · intro z
    refine Po.sc_ne fun y => z ?_
    rw [y, Po.pl0]
  · rw [row.eq]
    exact Po.pl_eq f
theorem p_shared {N b0 : Nat} {a b : Po} (ha : Po.B N b0 a) (hb : Po.B N b0 b) (hN : N ≤ 800) (hb0 : 1 ≤ b0) (hs : Po.pell N * (b0 + 7) ≤ 50000000)
    (h : ∀ d, Po.Gc a b d → Po.B N (b0 + Po.gro N) d → Q (.d (tz d.l))) : sem fns (k + 7) 31 [tz a.l, tz b.l] X Q := p_sharedR ha hb hN hb0 hs fun d h1 h2 _ => h d h1 h2

theorem p_is_free {N b0 : Nat} {p : Po} (hp : Po.B N b0 p) (hN : N ≤ 100) (hb : b0 ≤ 1000000) (hs : Po.pell N * (17 + b0 + 7) ≤ 50000000) (h : ∀ b : Bool, (b = true ↔ Po.Free p) → (b = true → Po.FB p N b0 (Po.pell N * (17 + b0 + 7))) → Q (.d (.bool b))) : sem fns (k + 8) 32 [tz p.l] X Q := by
  refine sem_at rfl ⟨rfl, ?_⟩
  (simp only [b_is_free]; walk_at "s")
  by_cases p0 : p = 0
  · rw [if_neg (fun z => z (Po.eq0_l.mp p0))]
    exact h false ⟨fun e => (by cases e), fun e => absurd p0 e.1⟩ fun e => (by cases e)
  · rw [if_pos (Po.ne0_l.mp p0)]
    refine q_derived hp.bl (by omega) (by omega) ?_
    rw [Po.der_l]
    walk_at "s"
    refine p_sharedR (hp.mono (Nat.le_refl _) (by omega)) (hp.der (by omega)) (by omega) (by omega) hs fun d g dB bz => ?_
    walk_at "s"
    refine q_degree ?_
    walk_at "s"
    refine h _ ⟨fun e => ⟨p0, d, g, ?_⟩, fun e => ?_⟩ fun e => Po.FB.of_gc hp p0 g ?_ bz
    · have := of_decide_eq_true e
      unfold Po.len
      omega
    · obtain ⟨_, d2, g2, hl⟩ := e
      obtain rfl := g2.uniq g
      refine decide_eq_true ?_
      unfold Po.len at hl
      omega
    · have := of_decide_eq_true e
      unfold Po.len
      omega

theorem p_rise {s : Nat} {cs : List Rat} (hs : ∀ q ∈ cs, Sz s q) (hs2 : s ≤ 60000000) (hl : cs.length ≤ 16777216) (h : Q (.d (.bool (riB cs)))) : sem fns (k + 3) 33 [.list (cs.map fr)] X Q := by
  refine sem_at rfl ⟨rfl, ?_⟩
  (simp only [b_rise]; walk_at "s")
  refine lc_as fr (fun _ => .bool true) (fun q hq kk hk => ?_) hl ?_
  · (simp only [e_rise_1]; walk_at "s")
    refine p_is_fraction ?_
    rw [fracV_fr]
    walk_at "s"
    exact hk _
  walk_at "s"
  refine ⟨cs.map fun _ => true, asBools_map (fun _ => true) cs, ?_⟩
  rw [show (cs.map fun _ => true).all id = true by simp]
  walk_at "s"
  rw [List.length_map]
  refine ⟨⟨by omega, by omega⟩, ?_⟩
  refine for_at' (fun r ε => ∃ (K : Nat) (o1 o : Option Val), r = (List.range' K (cs.length - K)).map (fun (i : Nat) => PyData.int i) ∧ 1 ≤ K ∧ ε = [some (.d (.list (cs.map fr))), o1, o] ∧ (∀ i (h : i + 1 < cs.length), i + 1 < K → cs[i] < cs[i + 1])) ?_ ?_ _ _ ⟨1, none, none, ?_, by omega, rfl, fun i _ h => by omega⟩
  · rintro x r ε ⟨K, o1, o, hr, hK, rfl, hup⟩ hnx
    have hK2 : K < cs.length := by
      refine Classical.byContradiction fun z => ?_
      rw [show cs.length - K = 0 by omega] at hr
      cases hr
    rw [show cs.length - K = (cs.length - (K + 1)) + 1 by omega, rng'_cons] at hr
    cases hr
    (simp only [b_rise_2]; walk_at "s")
    refine ix_lst (v := fr (cs[K - 1]'(by omega))) ?_ ?_
    · rw [show (K : Int) - 1 = ((K - 1 : Nat) : Int) by omega]
      exact atI_nat (by simp [show K - 1 < cs.length by omega])
    walk_at "s"
    refine ix_lst (v := fr cs[K]) (atI_nat (by simp [hK2])) ?_
    walk_at "s"
    refine p_less (hs _ (List.getElem_mem _)) (hs _ (List.getElem_mem _)) hs2 ?_
    by_cases e : cs[K - 1]'(by omega) < cs[K]
    · rw [decide_eq_true e]
      walk_at "s"
      refine hnx _ ⟨K + 1, _, _, rfl, by omega, rfl, fun i hi h2 => ?_⟩
      by_cases h3 : i + 1 < K
      · exact hup i hi h3
      · have : i = K - 1 := by omega
        subst this
        simp only [show K - 1 + 1 = K by omega]
        exact e
    · rw [decide_eq_false e]
      walk_at "s"
      rw [show riB cs = false by
        refine Bool.eq_false_iff.mpr fun z => e ?_
        have := (riB_iff cs).mp z (K - 1) (by omega)
        simp only [show K - 1 + 1 = K by omega] at this
        exact this] at h
      exact h
  · rintro ε ⟨K, o1, o, hr, hK, rfl, hup⟩
    have hK2 : cs.length ≤ K := by
      refine Classical.byContradiction fun z => ?_
      rw [show cs.length - K = (cs.length - (K + 1)) + 1 by omega, rng'_cons] at hr
      cases hr
    (simp only [b_rise_3]; walk_at "s")
    rw [show riB cs = true by
      exact (riB_iff cs).mpr fun i hi => hup i hi (by omega)] at h
    exact h
  · rw [show ((cs.length : Int) - 1).toNat = cs.length - 1 by omega]
    refine map_rng1 _

theorem p_roots_right {n b s : Nat} {p : Po} {cs : List Rat} (hp : Po.B n b p) (p0 : p ≠ 0) (hs : ∀ q ∈ cs, Sz s q) (hn : n ≤ 1000) (hs2 : btB n b s + 6 * s ≤ 50000000) (hl : cs.length ≤ 16777216) (h : ∀ w : Bool, (w = true ↔ Po.RR p cs) → Q (.d (.bool w))) : sem fns (k + 4) 34 [tz p.l, .list (cs.map fr)] X Q := by
  refine sem_at rfl ⟨rfl, ?_⟩
  (simp only [b_roots_right]; walk_at "s")
  have pl := hp.1
  have no : ¬ Po.RR p cs → Q (.d (.bool false)) := fun z => h false ⟨fun e => (by cases e), fun e => absurd e z⟩
  refine p_is_poly (fun xs e => by cases e; rw [List.length_map]; unfold Po.len at *; omega) ?_
  rw [isPolyV_tp p.pn]
  walk_at "s"
  rw [if_neg (Po.ne0_l.mp p0)]
  refine p_rise hs (by omega) hl ?_
  cases er : riB cs with
  | false =>
    walk_at "s"
    refine no fun z => ?_
    have : riB cs = true := (riB_iff cs).mpr fun i hi => (z.st i hi).1
    rw [er] at this
    cases this
  | true =>
  have hup := (riB_iff cs).mp er
  walk_at "s"
  refine ⟨shaped_of (shLst (n := 1) fun x hx => by
    obtain ⟨q, _, rfl⟩ := List.mem_map.mp hx
    exact sh_fr q) (by decide), shapedL [], ?_⟩
  rw [eqv_nil]
  cases cs with
  | nil =>
    rw [decide_eq_true (show [].map fr = [] from rfl)]
    walk_at "s"
    exact no fun z => z.ne rfl
  | cons c0 ct =>
  rw [decide_eq_false (show (c0 :: ct).map fr ≠ [] by simp)]
  walk_at "s"
  have ne : c0 :: ct ≠ [] := by simp
  have m0 := hs c0 (List.mem_cons_self ..)
  refine p_below hp m0 hn (by omega) fun wB => ?_
  walk_at "s"
  refine q_changes wB (by omega) ?_
  walk_at "s"
  by_cases e1 : cg 0 (Po.blw p c0) = 0
  · rw [if_neg (by omega)]
    have lst : L2.atI ((c0 :: ct).map fr) (-1) = some (fr ((c0 :: ct).getLast ne)) := atI_lastD ne
    rw [show fr c0 :: ct.map fr = (c0 :: ct).map fr from rfl]
    refine ix_lst lst ?_
    walk_at "s"
    refine p_above hp (hs _ (List.getLast_mem ne)) hn (by omega) fun wB2 => ?_
    walk_at "s"
    refine q_changes wB2 (by omega) ?_
    walk_at "s"
    by_cases e2 : cg 0 (Po.abv p ((c0 :: ct).getLast ne)) = 0
    · rw [if_neg (by omega)]
      rw [show (ct.map fr).length + 1 = (c0 :: ct).length by simp]
      refine ⟨⟨by omega, by omega⟩, ?_⟩
      rw [show fr c0 :: ct.map fr = (c0 :: ct).map fr from rfl]
      generalize hcs : c0 :: ct = cs at *
      refine for_at' (fun r ε => ∃ (K : Nat) (o : Option Val), r = (List.range' K (cs.length - K)).map (fun (i : Nat) => PyData.int i) ∧ 1 ≤ K ∧ ε = [some (.d (tz p.l)), some (.d (.list (cs.map fr))), o] ∧ (∀ i (h : i + 1 < cs.length), i + 1 < K → cg 0 (Po.btw p cs[i] cs[i + 1]) ≤ 1)) ?_ ?_ _ _ ⟨1, none, ?_, by omega, rfl, fun i _ h => by omega⟩
      · rintro x r ε ⟨K, o, hr, hK, rfl, hbt⟩ hnx
        have hK2 : K < cs.length := by
          refine Classical.byContradiction fun z => ?_
          rw [show cs.length - K = 0 by omega] at hr
          cases hr
        rw [show cs.length - K = (cs.length - (K + 1)) + 1 by omega, rng'_cons] at hr
        cases hr
        (simp only [b_roots_right_1]; walk_at "s")
        refine ix_lst (v := fr (cs[K - 1]'(by omega))) ?_ ?_
        · rw [show (K : Int) - 1 = ((K - 1 : Nat) : Int) by omega]
          exact atI_nat (by simp [show K - 1 < cs.length by omega])
        walk_at "s"
        refine ix_lst (v := fr cs[K]) (atI_nat (by simp [hK2])) ?_
        walk_at "s"
        have s1 := hs (cs[K - 1]'(by omega)) (List.getElem_mem _)
        have s2 := hs cs[K] (List.getElem_mem _)
        refine p_between hp s1 s2 hn (by omega) ?_
        walk_at "s"
        refine q_changes (Po.btw_bt2 hp s1 s2).2 (by omega) ?_
        walk_at "s"
        by_cases e : cg 0 (Po.btw p (cs[K - 1]'(by omega)) cs[K]) ≤ 1
        · rw [if_neg (by omega)]
          refine hnx _ ⟨K + 1, _, rfl, by omega, rfl, fun i hi h2 => ?_⟩
          by_cases h3 : i + 1 < K
          · exact hbt i hi h3
          · have : i = K - 1 := by omega
            subst this
            simp only [show K - 1 + 1 = K by omega]
            exact e
        · rw [if_pos (by omega)]
          refine no fun z => e ?_
          have := (z.st (K - 1) (by omega)).2
          simp only [show K - 1 + 1 = K by omega] at this
          exact this
      · rintro ε ⟨K, o, hr, hK, rfl, hbt⟩
        have hK2 : cs.length ≤ K := by
          refine Classical.byContradiction fun z => ?_
          rw [show cs.length - K = (cs.length - (K + 1)) + 1 by omega, rng'_cons] at hr
          cases hr
        (simp only [b_roots_right_2]; walk_at "s")
        refine h true ⟨fun _ => ⟨ne, fun i hi => ⟨hup i hi, hbt i hi (by omega)⟩, ?_, ?_⟩, fun _ => rfl⟩
        · rw [← hcs]
          exact e1
        · rw [List.getLastD_eq_getLast?, List.getLast?_eq_some_getLast ne]
          exact e2
      · rw [show ((cs.length : Int) - 1).toNat = cs.length - 1 by omega]
        exact map_rng1 _
    · rw [if_pos (by omega)]
      refine no fun z => e2 ?_
      have := z.ab
      rw [List.getLastD_eq_getLast?, List.getLast?_eq_some_getLast ne] at this
      exact this
  · rw [if_pos (by omega)]
    exact no fun z => e1 z.bl

theorem p_bound {n b : Nat} {p : Po} (hp : Po.B n b p) (p0 : p ≠ 0) (hn : n ≤ 1000) (hb : b ≤ 50000000) (h : ∀ f : Nat, f ≤ b + 1 → Po.Far p ((2 ^ f : Nat) : Int) → Q (.d (.int ((2 ^ f : Nat) : Int)))) : sem fns (k + 1) 35 [tz p.l] X Q := by
  refine sem_at rfl ⟨rfl, ?_⟩
  (simp only [b_bound]; walk_at "s")
  have pl : p.l.length ≤ n := hp.1
  have l0 := Po.ne0_l.mp p0
  have lst : L2.atI (p.l.map PyData.int) (-1) = some (.int p.lc) := by rw [atI_last l0, Po.last_l l0]
  refine lc_as .int (fun w => .int (w.natAbs : Int)) (fun w hw kk hk => ?_) (by omega) ?_
  · (simp only [e_bound_1]; walk_at "s")
    rw [absI]
    exact hk _
  walk_at "s"
  obtain ⟨m, hm, hmax⟩ := max_of (ns := p.l.map fun w => (w.natAbs : Int)) (by simpa using l0)
  refine ⟨p.l.map fun w => (w.natAbs : Int), m, by rw [← asInts_map, List.map_map]; rfl, hm, hmax, ?_⟩
  obtain ⟨w0, hw0, rfl⟩ := List.mem_map.mp hm
  have mB : w0.natAbs < 2 ^ b := hp.bl.2 w0 hw0
  have lB : p.lc.natAbs < 2 ^ b := hp.lc
  have lcn := Po.lc_ne p0
  have all : ∀ w ∈ p.l, (w.natAbs : Int) ≤ w0.natAbs := fun w hw => hmax _ (List.mem_map_of_mem hw)
  have mB2 : Bt (b + 1) (w0.natAbs : Int) := by unfold Bt; rw [Int.natAbs_natCast, Nat.pow_succ]; omega
  refine whl_at' (fun m ε => ∃ (j : Nat) (o : Option Val), ε = [some (.d (tz p.l)), some (.d (.int w0.natAbs)), o, some (.d (.int ((2 ^ j : Nat) : Int)))] ∧ j ≤ b + 1 ∧ m = b + 1 - j) _ ⟨0, none, rfl, by omega, rfl⟩ ?_
  rintro m2 ε1 ⟨j, o, rfl, hj, rfl⟩
  (simp only [c_bound_2, b_bound_3, b_bound_4]; walk_at "s")
  refine ix_tup lst ?_
  walk_at "s"
  rw [absI]
  have jB : Bt (b + 2) ((2 ^ j : Nat) : Int) := by
    unfold Bt
    rw [Int.natAbs_natCast]
    exact Nat.pow_lt_pow_right (by decide) (by omega)
  refine ⟨mulOk_of jB (b := b) (by unfold Bt; rw [Int.natAbs_natCast]; exact lB) (by omega), ?_⟩
  refine ix_tup lst ?_
  walk_at "s"
  rw [absI]
  split
  · rename_i hle
    have j2 : j < b + 1 := by
      refine Classical.byContradiction fun z => ?_
      have e : j = b + 1 := by omega
      subst e
      have h1 : ((2 ^ (b + 1) * p.lc.natAbs : Nat) : Int) ≤ ((w0.natAbs + p.lc.natAbs : Nat) : Int) := by rw [Int.natCast_mul, Int.natCast_add]; exact hle
      have h2 : 2 ^ (b + 1) * p.lc.natAbs ≤ w0.natAbs + p.lc.natAbs := by omega
      have h3 : 1 ≤ p.lc.natAbs := by omega
      have h4 : 2 ^ b * 1 ≤ 2 ^ b * p.lc.natAbs := Nat.mul_le_mul_left _ h3
      have h5 : 1 * p.lc.natAbs ≤ 2 ^ b * p.lc.natAbs := Nat.mul_le_mul_right _ (Nat.two_pow_pos b)
      have h6 : 2 ^ (b + 1) * p.lc.natAbs = 2 * (2 ^ b * p.lc.natAbs) := by rw [Nat.pow_succ]; grind
      omega
    refine ⟨b + 1 - (j + 1), by omega, j + 1, _, by rw [show ((2 ^ (j + 1) : Nat) : Int) = ((2 ^ j : Nat) : Int) + ((2 ^ j : Nat) : Int) by rw [Nat.pow_succ]; omega], by omega, rfl⟩
  · rename_i hgt
    refine h j hj (Po.far_of (b := 0) (n := 0) ?_ all (Int.not_le.mp hgt))
    have := Nat.two_pow_pos j
    omega

theorem p_amid {a : Nat} {p q : Rat} (hp : Sz a p) (hq : Sz a q) (ha : a ≤ 50000000) (h : Q (.d (fr ((p + q) / 2)))) : sem fns (k + 4) 36 [fr p, fr q] X Q := by
  refine sem_at rfl ⟨rfl, ?_⟩
  (simp only [b_amid]; walk_at "s")
  refine p_plus hp hq (by omega) ?_
  walk_at "s"
  refine ⟨mulOk_of (sz_add hp hq).2 (b := 2) (bt_c (by decide)) (by omega), ?_⟩
  have d0 := den0 (p + q)
  refine p_fraction (by omega) ?_
  rw [amid_eq]
  exact h

theorem p_cuts_of {N b x : Nat} {p : Po} (hp : Po.B N b p) (hN : N ≤ 100) (hb : b ≤ 1000000) (hx : x = Po.pell N * (17 + b + 7)) (hx2 : x ≤ 50000000) {s : Nat} (hs : s = Po.dep N b x (b + 1) + 3 * b + 10) (hs2 : btB N b s + 6 * s ≤ 50000000) (hs3 : N * s ≤ 10000000)
    (h0 : ¬ Po.Free p → X 2) (h : Po.Free p → Po.FB p N b x → ∀ cs : List Rat, Po.RR p cs → (∀ q ∈ cs, Sz s q) → cs.length ≤ 16777216 → (2 ≤ p.len → ∃ F : Nat, ∀ q ∈ cs, Ab q (F : Rat)) → Q (.own (cs.map fr))) : sem fns (k + 9) 37 [tz p.l] X Q := by
  refine sem_at rfl ⟨rfl, ?_⟩
  (simp only [b_cuts_of]; walk_at "s")
  refine p_is_free hp hN hb (by omega) fun w hw hF => ?_
  cases w with
  | false =>
    walk_at "s"
    exact h0 fun z => by have := hw.mpr z; cases this
  | true =>
  have fre := hw.mp rfl
  have fb := hF rfl
  rw [← hx] at fb
  have p0 := fre.1
  walk_at "s"
  refine q_degree ?_
  walk_at "s"
  by_cases hd : p.len = 1
  · rw [if_pos (by unfold Po.len at hd; omega)]
    rw [show (PyData.tuple [.int 0, .int 1]) = fr 0 from fr0]
    refine h fre fb [0] ⟨by simp, fun i hi => by simp at hi, ?_, ?_⟩ (fun q hq => ?_) ?_ fun z => by omega
    · obtain ⟨c, hc⟩ : ∃ c, p.l = [c] := by
        unfold Po.len at hd
        match e : p.l, hd with
        | [c], _ => exact ⟨c, rfl⟩
      unfold Po.blw
      rw [hc]
      exact cg_one _ (by rw [abvL_len]; exact Nat.le_refl 1)
    · obtain ⟨c, hc⟩ : ∃ c, p.l = [c] := by
        unfold Po.len at hd
        match e : p.l, hd with
        | [c], _ => exact ⟨c, rfl⟩
      unfold Po.abv
      rw [hc]
      exact cg_one _ (by rw [abvL_len]; exact Nat.le_refl 1)
    · rw [List.mem_singleton] at hq
      rw [hq]
      exact sz0 (by omega)
    · simp
  have n2 : 2 ≤ p.len := by have := Po.len_pos p0; omega
  rw [if_neg (by unfold Po.len at *; omega)]
  refine p_bound hp p0 (by omega) (by omega) fun f hf far => ?_
  walk_at "s"
  have eF : PyData.tuple [.int ((2 ^ f : Nat) : Int), .int 1] = fr ((2 ^ f : Nat) : Rat) := fr_c rfl rfl
  have eN : PyData.tuple [.int (-((2 ^ f : Nat) : Int)), .int 1] = fr ((-((2 ^ f : Nat) : Int) : Int) : Rat) := fr_c rfl rfl
  rw [eF, eN]
  have eN2 : ((-((2 ^ f : Nat) : Int) : Int) : Rat) = -((2 ^ f : Nat) : Rat) := by rw [Rat.intCast_neg, Rat.intCast_natCast]
  obtain ⟨D, hD⟩ : ∃ D, D = Po.dep N b x f + f + 1 := ⟨_, rfl⟩
  have dm : Po.dep N b x f + 2 * f + 2 ≤ s := by
    have m1 : f * N ≤ (b + 1) * N := Nat.mul_le_mul_right _ hf
    rw [hs]
    unfold Po.dep
    omega
  have Fp := pow2_pos f
  have szD : ∀ {d : Nat} {q : Rat}, Dy f d q → d ≤ D → Sz s q := fun h hd => h.sz.mono (by omega)
  have d0 : Dy f 0 (((2 ^ f : Nat) : Rat)) := ⟨⟨by grind, Rat.le_refl⟩, ((2 ^ f : Nat) : Int), by rw [Rat.intCast_natCast]; show _ * ((1 : Nat) : Rat) = _; show _ * (1 : Rat) = _; grind⟩
  have d1 : Dy f 0 (-((2 ^ f : Nat) : Rat)) := ⟨⟨Rat.le_refl, by grind⟩, -((2 ^ f : Nat) : Int), by rw [Rat.intCast_neg, Rat.intCast_natCast]; show _ * (1 : Rat) = _; grind⟩
  refine whl_at' (fun m ε => ∃ (cs : List Rat) (r : List (Rat × Rat × Nat)) (o4 o5 o6 : Option Val), ε = [some (.d (tz p.l)), some (.d (.int ((2 ^ f : Nat) : Int))), some (.own (cs.map fr)), some (.own (todo r)), o4, o5, o6] ∧
    cs ≠ [] ∧ (∀ i (h : i + 1 < cs.length), cs[i] < cs[i + 1] ∧ cg 0 (Po.btw p cs[i] cs[i + 1]) ≤ 1) ∧ cs.headD 0 = ((-((2 ^ f : Nat) : Int) : Int) : Rat) ∧ (∀ q ∈ cs, Sz s q ∧ Ab q ((2 ^ f : Nat) : Rat)) ∧ Ch f D ((2 ^ f : Nat) : Rat) (cs.getLastD 0) r ∧ m = left p D r ∧ cs.length + left p D r ≤ 2 + N * D) _
    ⟨[((-((2 ^ f : Nat) : Int) : Int) : Rat)], [(((-((2 ^ f : Nat) : Int) : Int) : Rat), ((2 ^ f : Nat) : Rat), 0)], none, none, none, rfl, by simp, fun i hi => by simp at hi, rfl, fun q hq => ?_, ⟨rfl, ?_, by omega, ?_, d0, ?_, rfl⟩, rfl, ?_⟩ ?_
  · rw [List.mem_singleton] at hq
    rw [hq, eN2]
    exact ⟨szD d1 (by omega), d1.1⟩
  · rw [eN2]
    grind
  · rw [eN2]
    exact d1
  · rw [eN2]
    show _ * (1 : Rat) = _
    grind
  · show 1 + ((1 + cg 0 (Po.btw p _ _) * (D - 0)) + 0) ≤ 2 + N * D
    have := Nat.mul_le_mul_right D (Nat.le_trans (cg_len (Po.btw p ((-((2 ^ f : Nat) : Int) : Int) : Rat) ((2 ^ f : Nat) : Rat)) 0) (Nat.le_trans (Po.btw_len ..) hp.1))
    rw [Nat.sub_zero]
    omega
  rintro m ε ⟨cs, r, o4, o5, o6, rfl, cne, cst, chd, csz, cch, rfl, cln⟩
  (simp only [c_cuts_of_1, b_cuts_of_2, b_cuts_of_3]; walk_at "s")
  refine ⟨shaped_of (shLst (n := 2) (todo_sh r)) (by decide), shapedL [], ?_⟩
  rw [eqv_nil]
  cases r with
  | nil =>
    rw [decide_eq_true (show todo [] = [] from rfl)]
    walk_at "s"
    have elast : cs.getLastD 0 = ((2 ^ f : Nat) : Rat) := cch
    refine h fre fb cs ⟨cne, cst, ?_, ?_⟩ (fun q hq => (csz q hq).1) (by have : N * D ≤ N * s := Nat.mul_le_mul_left _ (by omega); omega) fun _ => ⟨2 ^ f, fun q hq => (csz q hq).2⟩
    · rw [chd]
      exact Po.blw_far far p0
    · rw [elast]
      have := Po.abv_far far p0
      rw [Rat.intCast_natCast] at this
      exact this
  | cons e r =>
    obtain ⟨lo, hi, d⟩ := e
    obtain ⟨rfl, hlt, hd2, dl, dh, hw2, hch⟩ := cch
    rw [decide_eq_false (show todo ((cs.getLastD 0, hi, d) :: r) ≠ [] by show todo r ++ [_] ≠ []; simp)]
    walk_at "s"
    generalize hlo : cs.getLastD 0 = lo at *
    have tl : todo ((lo, hi, d) :: r) = todo r ++ [.tuple [fr lo, fr hi]] := rfl
    rw [tl]
    refine ⟨.tuple [fr lo, fr hi], by simp, ?_⟩
    walk_at "s"
    have dropl : (todo r ++ [PyData.tuple [fr lo, fr hi]]).dropLast = todo r := List.dropLast_concat
    rw [dropl]
    have sl := szD dl hd2
    have sh := szD dh hd2
    refine p_between hp sl sh (by omega) (by omega) ?_
    walk_at "s"
    refine q_changes (Po.btw_bt2 hp sl sh).2 (by omega) ?_
    walk_at "s"
    have lef : left p D ((lo, hi, d) :: r) = (1 + cg 0 (Po.btw p lo hi) * (D - d)) + left p D r := rfl
    have lrl := left_len p D r
    have ND : N * D ≤ N * s := Nat.mul_le_mul_left _ (by omega)
    by_cases e : cg 0 (Po.btw p lo hi) ≤ 1
    · rw [if_pos (by omega)]
      refine ⟨by rw [List.length_map]; omega, ?_⟩
      refine ⟨left p D r, by omega, cs ++ [hi], r, _, _, _, by rw [List.map_append]; rfl, by simp, Po.RR.snoc cne cst (by rw [hlo]; exact hlt) (by rw [hlo]; exact e), ?_, fun q hq => ?_, ?_, rfl, ?_⟩
      · rw [← chd]
        cases cs with
        | nil => exact absurd rfl cne
        | cons c t => rfl
      · rcases List.mem_append.mp hq with g | g
        · exact csz q g
        · rw [List.mem_singleton] at g
          rw [g]
          exact ⟨sh, dh.1⟩
      · rw [show (cs ++ [hi]).getLastD 0 = hi by simp]
        exact hch
      · rw [List.length_append, List.length_cons, List.length_nil]
        omega
    · rw [if_neg (by omega)]
      have d2 : d < D := by
        refine Classical.byContradiction fun z => e ?_
        exact (fb.deep n2 hlt dl.1 dh.1 (by omega) hw2 (by omega)).le
      refine p_amid sl sh (by omega) ?_
      walk_at "s"
      have mid : Dy f (d + 1) ((lo + hi) / 2) := dl.mid dh
      have lt2 := left_two p0 r d2 (show 2 ≤ cg 0 (Po.btw p lo hi) by omega)
      refine ⟨by rw [todo_len]; omega, by rw [List.length_append, todo_len]; simp only [List.length_cons, List.length_nil]; omega, ?_⟩
      refine ⟨left p D ((lo, (lo + hi) / 2, d + 1) :: ((lo + hi) / 2, hi, d + 1) :: r), lt2, cs, (lo, (lo + hi) / 2, d + 1) :: ((lo + hi) / 2, hi, d + 1) :: r, some (.d (fr lo)), some (.d (fr hi)), some (.d (fr ((lo + hi) / 2))), ?_, cne, cst, chd, csz, ?_, rfl, by omega⟩
      · rfl
      · rw [hlo]
        refine ⟨rfl, by grind, by omega, dl.up, mid, ?_, rfl, by grind, by omega, mid, dh.up, ?_, hch⟩
        · rw [pow2_s]
          grind
        · rw [pow2_s]
          grind

theorem p_cell {xs : List Int} {i : Nat} (h : Q (.d (.int (xs.getD i 0)))) : sem fns (k + 1) 38 [.list (xs.map .int), .int i] X Q := by
  refine sem_at rfl ⟨rfl, ?_⟩
  (simp only [b__law_cell_at]; walk_at "s")
  split
  · rename_i hl
    have hl2 : i < xs.length := by simpa using hl
    refine ⟨.int xs[i], atI_nat (by simp [hl2]), ?_⟩
    walk_at "s"
    simpa [List.getD, hl2] using h
  · rename_i hl
    have hl2 : xs.length ≤ i := by simpa using hl
    simpa [List.getD, List.getElem?_eq_none hl2] using h

theorem q_stirred {c kk : Int} (h : ∀ i : Int, Q (.d (.int i))) : sem fns (k + 1) 39 [.int c, .int kk] X Q := by
  refine sem_at rfl ⟨rfl, ?_⟩
  (simp only [b__law_stirred]; walk_at "s")
  have s : ∀ {i : Int}, 0 ≤ i → i < 2 ^ 60 → small64 i := fun a b => by unfold small64; omega
  have m : ∀ (i : Int), small64 (i.fmod 2147483647) := fun i => by
    have h1 := Int.emod_nonneg i (show (2147483647 : Int) ≠ 0 by decide)
    have h2 := Int.emod_lt_of_pos i (show (0 : Int) < 2147483647 by decide)
    rw [fmod_pos (by decide)]
    exact s h1 (by omega)
  exact ⟨mulOk_l (s (by decide) (by decide)), mulOk_r (s (by decide) (by decide)), mulOk_l (m _), mulOk_l (m _), mulOk_r (s (by decide) (by decide)), h _⟩

end
def b_pl : IS := (.seq (.asg 4 (.bin .FloorDiv (.var 0) (.cst (.int 44)))) <|
  (.seq (.asg 5 (.lst .nil)) <|
  (.seq (.forr (.one 6) (.rng1 (.bin .Add (.var 2) (.cst (.int 1)))) b__law_poly_1) <|
  b__law_poly_3)))
section
variable {k : Nat} {X : Nat → Prop} {Q : Val → Prop}
theorem q_pl {c M B mo : Int} (hM : 0 ≤ M ∧ M < 6) (hB : 0 < B) (hB2 : Bt 42 B) (h : ∀ a : List Int, a ≠ [] → a.getLast? ≠ some 0 → (∀ x ∈ a, Bt 50 x) → (a.length : Int) = M + 1 → Q (.d (tz a))) :
    wS (sem fns (k + 1)) b_pl [some (.d (.int c)), some (.d (.int mo)), some (.d (.int M)), some (.d (.int B)), none, none, none] { nx := fun _ => Q (.d .none), rt := Q, ex := fun c _ => X c } := by
  (simp only [b_pl]; walk_at "s")
  have b0 : B ≠ 0 := by omega
  have val : ∀ i : Int, Bt 50 (i.fmod B - B.fdiv 2) := fun i => by
    have h1 : Bt 43 (B.fdiv 2) := hB2.mono (by decide) |>.le (by rw [fdiv_pos (by decide)]; omega)
    exact (Bt.sub ((bt_fmod (x := i) hB hB2).mono (by decide)) h1).mono (by decide)
  refine ⟨⟨by omega, by omega⟩, ?_⟩
  refine for_at' (fun r ε => ∃ (part : Int) (ws : List Int) (o : Option Val), (r.length : Int) + ws.length = M + 1 ∧ (∀ x ∈ r, ∃ i : Int, x = .int i) ∧ (∀ w ∈ ws, Bt 50 w) ∧
    ε = [some (.d (.int c)), some (.d (.int mo)), some (.d (.int M)), some (.d (.int B)), some (.d (.int part)), some (.own (ws.map .int)), o]) ?_ ?_ _ _ ⟨_, [], none, by simp; omega, fun x hx => ?_, (fun w hw => by cases hw), rfl⟩
  · rintro x r ε ⟨part, ws, o, hl, hx, hw, rfl⟩ hnx
    obtain ⟨i, rfl⟩ := hx x (List.mem_cons_self ..)
    have hx2 : ∀ y ∈ r, ∃ i : Int, y = .int i := fun y hy => hx y (List.mem_cons_of_mem _ hy)
    have hl2 : ((r.length + 1 : Nat) : Int) + ws.length = M + 1 := hl
    have mem : ∀ v : Int, Bt 50 v → ∀ w ∈ ws ++ [v], Bt 50 w := fun v hv w hm => by
      rcases List.mem_append.mp hm with g | g
      · exact hw w g
      · rw [List.mem_singleton] at g
        rw [g]
        exact hv
    have nxt : ∀ (part' v : Int) (o : Option Val), Bt 50 v → forF (.one 6) (fun ε2 D' => wS (sem fns (k + 1)) b__law_poly_1 ε2 D') { nx := fun ε1 => wS (sem fns (k + 1)) b__law_poly_3 ε1 { nx := fun _ => Q (.d .none), rt := Q, ex := fun c _ => X c }, rt := Q, ex := fun c _ => X c } .mk r
        [some (.d (.int c)), some (.d (.int mo)), some (.d (.int M)), some (.d (.int B)), some (.d (.int part')), some (.own (ws.map .int ++ [.int v])), o] := fun part' v o hv =>
      hnx _ ⟨part', ws ++ [v], o, by rw [List.length_append]; simp only [List.length_cons, List.length_nil]; omega, hx2, mem v hv, by rw [List.map_append]; rfl⟩
    (simp only [b__law_poly_1]; walk_at "s")
    have lw : (List.map PyData.int ws).length < 16777216 := by
      rw [List.length_map]
      omega
    split
    · split
      · exact ⟨b0, lw, b0, nxt _ _ _ (val _)⟩
      · refine q_stirred fun z => ?_
        walk_at "s"
        exact ⟨b0, lw, nxt _ _ _ (val _)⟩
    · refine q_stirred fun z => ?_
      walk_at "s"
      exact ⟨b0, lw, nxt _ _ _ (val _)⟩
  · rintro ε ⟨part, ws, o, hl, hx, hw, rfl⟩
    have hl2 : ((0 : Nat) : Int) + ws.length = M + 1 := hl
    have ne : ws ≠ [] := fun e => by
      rw [e] at hl2
      simp at hl2
      omega
    have hpos := List.length_pos_iff.mpr ne
    (simp only [b__law_poly_3]; walk_at "s")
    refine ix_lst (v := .int (ws.getLast ne)) (atI_last ne) ?_
    walk_at "s"
    split
    · refine ⟨ws.length - 1, ?_, ?_⟩
      · unfold L2.ixN
        rw [List.length_map, if_neg (by decide), if_pos (by omega)]
        exact congrArg some (by omega)
      · (simp only [b__law_poly_2]; walk_at "s")
        have e1 : (ws.map PyData.int).set (ws.length - 1) (.int 1) = (ws.set (ws.length - 1) 1).map .int := by rw [List.map_set]
        rw [e1]
        have l1 : (ws.set (ws.length - 1) 1).length = ws.length := List.length_set ..
        refine h _ (fun e => ?_) ?_ (fun x hx => ?_) (by omega)
        · rw [e] at l1
          simp at l1
          omega
        · rw [List.getLast?_eq_getElem?, l1, List.getElem?_set_self (by omega)]
          decide
        · rcases List.mem_or_eq_of_mem_set hx with g | g
          · exact hw x g
          · rw [g]
            exact bt_c (by decide)
    · rename_i h0
      (simp only [b__law_poly_2]; walk_at "s")
      refine h ws ne ?_ hw (by omega)
      rw [List.getLast?_eq_some_getLast ne]
      exact fun e => h0 (Option.some.inj e)
  · obtain ⟨i, _, rfl⟩ := List.mem_map.mp hx
    exact ⟨_, rfl⟩
theorem q_polyM {c mo : Int} (m0 : 0 ≤ mo) (m1 : mo ≤ 5) (h : ∀ a : List Int, a ≠ [] → a.getLast? ≠ some 0 → (∀ x ∈ a, Bt 50 x) → (a.length : Int) ≤ mo + 1 → Q (.d (tz a))) : sem fns (k + 2) 40 [.int c, .int mo] X Q := by
  refine sem_at rfl ⟨rfl, ?_⟩
  (simp only [b__law_poly]; walk_at "s")
  have hm : 0 ≤ c.fmod (mo + 1) ∧ c.fmod (mo + 1) ≤ mo := by
    have e1 := Int.emod_nonneg c (show mo + 1 ≠ 0 by omega)
    have e2 := Int.emod_lt_of_pos c (show 0 < mo + 1 by omega)
    rw [fmod_pos (by omega)]
    omega
  refine ⟨by omega, mulOk_l (by unfold small64; decide), ?_⟩
  generalize c.fmod (mo + 1) = M at *
  have key : ∀ B : Int, 0 < B → Bt 42 B → wS (sem fns (k + 1)) b_pl [some (.d (.int c)), some (.d (.int mo)), some (.d (.int M)), some (.d (.int B)), none, none, none] { nx := fun _ => Q (.d .none), rt := Q, ex := fun c _ => X c } := fun B h0 h1 => q_pl ⟨hm.1, by omega⟩ h0 h1 fun a h1 h2 h3 h4 => h a h1 h2 h3 (by omega)
  have h4 : (c.fdiv 11).fmod 4 = 0 ∨ (c.fdiv 11).fmod 4 = 1 ∨ (c.fdiv 11).fmod 4 = 2 ∨ (c.fdiv 11).fmod 4 = 3 := by rw [fmod_pos (by decide)]; omega
  simp only [b_pl, ↓wE.eq_1, ↓wE.eq_2, ↓wE.eq_3, ↓wE.eq_4, ↓wE.eq_5, ↓wE.eq_6, ↓wE.eq_7, ↓wE.eq_8, ↓wE.eq_9, ↓wE.eq_10, ↓wE.eq_11, ↓wE.eq_12, ↓wE.eq_13, ↓wE.eq_14, ↓wE.eq_15, ↓wE.eq_16, ↓wE.eq_18, ↓wE.eq_19, ↓wE.eq_22, ↓wE.eq_23, ↓wE.eq_24, ↓wE.eq_25, ↓wE.eq_26, ↓wE.eq_27, ↓wE.eq_28, ↓wE.eq_29, ↓wE.eq_30, ↓wE.eq_31, ↓wE.eq_32, ↓wE.eq_34, ↓wE.eq_35, ↓wE.eq_36, ↓wE.eq_37, ↓wE.eq_38, ↓wE.eq_39, ↓wE.eq_40, ↓wE_call, ↓wE_callP, ↓wE_lc, ↓wE_lcg, ↓wE_isv, ↓wE_ix, ↓ix_fr0, ↓ix_fr1, ↓cmp_fr, ↓cmp_frn, ↓cmp_fr0, ↓cmp_tz, ↓cmp_tzn, ↓cmp_tz0, ↓cmp_tzn0, ↓bi_list_tz, ↓add_tz,  ↓len_tz, ↓len_fr, ↓isT_fr, items_tz, ↓cmp_bb, ↓cmp_bbn, ↓wS_whl, ↓wS_for, ↓wS_forP, ↓wS_asg, ↓wS_par, ↓wS_setIx, ↓wS_app, ↓tgW_one, ↓tgW_tup, pvF_eq, ↓wS.eq_1, ↓wS.eq_2, ↓wS.eq_3, ↓wS.eq_5, ↓wS.eq_7, ↓wS.eq_10, ↓wS.eq_11, ↓wS.eq_12, ↓wS.eq_13, ↓wS.eq_14, ↓wS.eq_15, ↓wS.eq_16, ↓wS.eq_17, ↓wS.eq_20, ↓wS.eq_21, ↓wS.eq_22, ↓wS.eq_23, ↓wS.eq_24, ↓wS.eq_25, ↓wS.eq_26, ↓wS.eq_27, ↓wS.eq_28, ↓wS.eq_29, ↓wS.eq_30, ↓augW.eq_1, ↓augW.eq_2, ↓augW.eq_3, ↓augW.eq_4, ↓inW.eq_1, ↓inW.eq_2, ↓inW.eq_3, ↓zipW.eq_1, ↓zipW.eq_2, ↓cntW.eq_1, ↓dspW.eq_1, ↓opW.eq_1, ↓opW.eq_2, ↓opW.eq_3, ↓opW.eq_4, ↓opW.eq_5, ↓opW.eq_6, ↓opW.eq_7, ↓opW.eq_8, ↓opW.eq_9, ↓opW.eq_10, ↓opW.eq_11, ↓opW.eq_12, ↓opW.eq_13, ↓opW.eq_14, ↓cmpW.eq_1, ↓cmpW.eq_2, ↓cmpW.eq_5, ↓cmpW.eq_6, ↓cmpW.eq_7, ↓cmpW.eq_8, ↓cmpW.eq_9, ↓cmpW.eq_10, ↓cmpW.eq_11, ↓cmpW.eq_12, ↓cmp_ll, ↓cmp_lln, ↓cmp_tt, ↓cmp_ttn, ↓biW.eq_1, ↓biW.eq_2, ↓biW.eq_3, ↓biW.eq_4, ↓biW.eq_5, ↓biW.eq_6, ↓biW.eq_7, ↓biW.eq_8, ↓biW.eq_9, ↓biW.eq_10, ↓biW.eq_11, ↓biW.eq_12, ↓biW.eq_13, ↓biW.eq_14, ↓biW.eq_15, ↓biW.eq_16, ↓biW.eq_17, ↓lenW.eq_1, ↓lenW.eq_2, ↓slW.eq_1, ↓slW.eq_2, ↓revW.eq_1, ↓revW.eq_2, ↓pkW_var, ↓ptW_nil, ↓ptK_i, ↓pkW_cst, ↓pkW_tup, ↓pkW_lst, ↓pkW_bin, ↓pkW_neg, ↓pkW_ix, ↓pkW_sl, ↓pkW_rev, ↓pkW_call, ↓pkW_callP, ↓pkW_bi, ↓pkW_len, ↓pkW_lc, ↓pkW_ite, ↓pkW_gc, ↓pkW_mov, ↓pkW_dsp, ↓pkW_bone, ↓pkW_cmp, ↓pkW_cnt, ↓ptW_cst, ↓ptW_tup, ↓ptW_lst, ↓ptW_bin, ↓ptW_neg, ↓ptW_ix, ↓ptW_sl, ↓ptW_rev, ↓ptW_call, ↓ptW_callP, ↓ptW_bi, ↓ptW_len, ↓ptW_lc, ↓ptW_ite, ↓ptW_gc, ↓ptW_mov, ↓ptW_dsp, ↓ptW_bone, ↓ptW_cmp, ↓ptW_cnt, ↓ptW_var, ↓peek, ↓ownAt, ↓kD.eq_1, ↓kD.eq_2, ↓kM.eq_1, ↓kB.eq_1, ↓kV.eq_1, ↓kV.eq_2, ↓setW, ↓rngW1.eq_1, ↓rngW2.eq_1, ↓rngWd.eq_1, isVar, isNil, isT, gv, pv, setAll, ev0, items.eq_1, items.eq_2, tgs, wipeE, blind_cons, blind_nil, bl1, runB, List.map_cons, List.map_nil, List.replicate, List.cons_append, List.nil_append, if_true, if_false, ite_true, ite_false, reduceCtorEq, Bool.true_and, Bool.and_true, Bool.not_true, Bool.not_false, Bool.false_eq_true, ↓reduceIte, Nat.reduceSub, Nat.reduceAdd, List.length_cons, List.length_nil, decide_eq_true_eq, Bool.not_eq_true', decide_eq_false_iff_not, Bool.and_false, Bool.false_and, true_and, and_true, Nat.sub_self, Nat.succ_eq_add_one, flat, Nat.reduceLeDiff, Int.reduceLE, Int.reduceLT, Int.reduceEq, ne_eq, not_false_eq_true, s10, la_2, la_3, la_4, la_5, la_6, la_7, la_8, la_9, la_10, la_11, la_12, la_13, la_14, la_15, la_16, la_18, la_19, la_20, la_21, la_24, la_25, la_28, la_30, la_35, la_36, la_39, la_40, la_41, la_44, la_45, la_49, la_50, la_52, la_54, la_57, la_63, la_64, la_65, la_72, la_78, la_81, la_90, la_100, la_121, la_123, la_125, la_126, la_144, la_162, la_168, la_176, la_196, la_200, la_216, la_240, la_360, la_369, la_400, la_402, la_441, la_540, la_550, la_900, la_907, la_997, la_1009, la_1100, la_1152, la_1440, la_1764, la_2001, la_2003, la_2200, la_3150, la_4099, la_16807, la_22500, la_24200, la_72600, Nat.reduceLT, ↓ix_t0, ↓ix_t1, ↓ix_t2, ↓ix_t3, ↓ix_t4, ↓ix_t5, ↓ix_t6, ↓ix_l0, ↓ix_l1, ↓ix_l2, ↓ix_l3, ↓ix_l4, ↓ix_l5, ↓ix_l6, ↓add_ttz, ↓isT_tz, ↓sl_tz, isN_non, isN_tup, isN_lst, isN_int, isN_str, isN_bl, isN_fr, isN_tz, ↓hS.eq_1, ↓hS.eq_2, ↓hS.eq_3, ↓hS.eq_4, hE, hB, ↓hide.eq_1, ↓hide.eq_2, isS, Nat.reduceBEq, Bool.or_true, Bool.or_false, Bool.true_or, Bool.false_or, beq_self_eq_true, not_true_eq_false, Int.cast_ofNat_Int] at key
  rcases h4 with e | e | e | e
  all_goals
    rw [e]
    refine ix_lst rfl ?_
    walk_at "s"
    exact key _ (by decide +kernel) (bt_c (by decide +kernel))
theorem q_poly16 {c : Int} (h : ∀ a : List Int, a ≠ [] → a.getLast? ≠ some 0 → (∀ x ∈ a, Bt 50 x) → a.length ≤ 6 → Q (.d (tz a))) : sem fns (k + 2) 40 [.int c, .int 5] X Q := q_polyM (by decide) (by decide) fun a h1 h2 h3 h4 => h a h1 h2 h3 (by omega)

theorem p_rgcd {a b : Int} (h : Q (.d (.int (Int.gcd a b)))) : sem fns (k + 1) 41 [.int a, .int b] X Q := by
  refine sem_at rfl ⟨rfl, ?_⟩
  (simp only [b__law_gcd]; walk_at "s")
  refine whl_at' (fun m ε => ∃ x y : Int, ε = [some (.d (.int x)), some (.d (.int y))] ∧ Int.gcd x y = Int.gcd a b ∧ m = y.natAbs) _ ⟨_, _, rfl, rfl, rfl⟩ ?_
  rintro m ε1 ⟨x, y, rfl, hg, rfl⟩
  (simp only [c__law_gcd_1, b__law_gcd_2, b__law_gcd_3]; walk_at "s")
  by_cases y0 : y = 0
  · rw [if_neg (fun z => z y0)]
    subst y0
    rw [absI, ← show ((Int.gcd x 0 : Nat) : Int) = (x.natAbs : Int) by rw [Int.gcd_zero_right], hg]
    exact h
  · rw [if_pos y0]
    refine ⟨y0, (x.fmod y).natAbs, fmod_lt y0, _, _, rfl, ?_, rfl⟩
    rw [← hg, gcd_fmod]

theorem p_rfraction {t b : Int} (hb : 0 < b) (h : Q (.d (fr (Rat.divInt t b)))) : sem fns (k + 2) 42 [.int t, .int b] X Q := by
  refine sem_at rfl ⟨rfl, ?_⟩
  (simp only [b__law_fraction]; walk_at "s")
  refine p_rgcd ?_
  walk_at "s"
  have b0 : b ≠ 0 := by omega
  have g0 := gsg0 (t := t) b0
  have e1 := fr_num (t := t) b0
  have e2 := fr_den (t := t) b0
  unfold gsg at g0 e1 e2
  rw [if_neg (by omega)] at g0 e1 e2
  refine ⟨g0, g0, ?_⟩
  rw [e1, e2]
  exact h

/-- one factor more -/
theorem cf_ext {a b : List Int} (hl : a.length = b.length) (h : ∀ n, cf a n = cf b n) : a = b := by
  refine List.ext_getElem hl fun i h1 h2 => ?_
  have := h i
  rwa [cf_lt h1, cf_lt h2] at this
theorem p_lproduct {c : Int} (h : ∀ (e : Int) (qs : List Rat), e ≠ 0 → qs.length ≤ 4 → Po.B 5 40 (Po.C e * Po.prodR qs) → (∀ q ∈ qs, Sz 8 q) → Q (.d (tz (Po.C e * Po.prodR qs).l))) : sem fns (k + 3) 43 [.int c] X Q := by
  refine sem_at rfl ⟨rfl, ?_⟩
  (simp only [b__law_product]; walk_at "s")
  have hm : 0 ≤ (c.fdiv 5).fmod 5 ∧ (c.fdiv 5).fmod 5 < 5 := by rw [fmod_pos (by decide)]; omega
  have hm5 : 0 ≤ c.fmod 5 ∧ c.fmod 5 < 5 := by rw [fmod_pos (by decide)]; omega
  refine ⟨⟨by omega, by omega⟩, ?_⟩
  have e0 : 1 + c.fmod 5 ≠ 0 := by omega
  refine for_at' (fun r ε => ∃ (part : Int) (qs : List Rat) (n : Nat) (o4 o5 o6 o7 o8 : Option Val), ε = [some (.d (.int c)), some (.d (tz (Po.C (1 + c.fmod 5) * Po.prodR qs).l)), some (.d (.int part)), o4, o5, o6, o7, o8] ∧ r.length + n ≤ 4 ∧ qs.length = n ∧ Po.B (n + 1) (4 + 6 * n) (Po.C (1 + c.fmod 5) * Po.prodR qs) ∧ (∀ q ∈ qs, Sz 8 q)) ?_ ?_ _ _ ⟨c.fdiv 5, [], 0, none, none, none, none, none, ?_, by simp; omega, rfl, ?_, fun q hq => by cases hq⟩
  · rintro x r ε ⟨part, qs, n, o4, o5, o6, o7, o8, rfl, hl, hq, aB, hqs⟩ hnx
    have hl2 : r.length + 1 + n ≤ 4 := hl
    have a0 : Po.C (1 + c.fmod 5) * Po.prodR qs ≠ 0 := Po.mul_ne (Po.C_ne e0) (Po.prodR_ne qs)
    obtain ⟨a, ha⟩ : ∃ a, a = Po.C (1 + c.fmod 5) * Po.prodR qs := ⟨_, rfl⟩
    rw [← ha] at aB a0 ⊢
    (simp only [b__law_product_4]; walk_at "s")
    have b1 : 0 < 1 + (part.fdiv 65).fmod 3 ∧ Bt 8 (1 + (part.fdiv 65).fmod 3) := by
      rw [fmod_pos (by decide)]
      unfold Bt
      omega
    have t1 : Bt 8 ((part.fdiv 5).fmod 13 - 6) := by
      rw [fmod_pos (by decide)]
      unfold Bt
      omega
    refine p_rfraction b1.1 ?_
    have hz : Sz 8 (Rat.divInt ((part.fdiv 5).fmod 13 - 6) (1 + (part.fdiv 65).fmod 3)) := sz_divInt (by omega) t1 b1.2
    have hz3 : Sz 3 (Rat.divInt ((part.fdiv 5).fmod 13 - 6) (1 + (part.fdiv 65).fmod 3)) := sz_divInt (by omega) (by rw [fmod_pos (by decide)]; unfold Bt; omega) (by rw [fmod_pos (by decide)]; unfold Bt; omega)
    generalize Rat.divInt ((part.fdiv 5).fmod 13 - 6) (1 + (part.fdiv 65).fmod 3) = q at *
    walk_at "s"
    have al := aB.1
    have al' : a.l.length ≤ n + 1 := al
    refine lc_as .int (fun w => .int (w * q.den)) (fun w hw kk hk => ?_) (by omega) ?_
    · (simp only [e__law_product_1]; walk_at "s")
      exact ⟨mulOk_of (aB.bl.2 w hw) hz.2 (by omega), hk _⟩
    walk_at "s"
    rw [show (PyData.int 0 :: a.l.map fun w => PyData.int (w * q.den)) = (0 :: a.l.map (· * (q.den : Int))).map .int by rw [List.map_cons, List.map_map]; rfl]
    refine ⟨by simp only [List.length_map, List.length_cons, List.length_nil]; omega, ?_⟩
    refine ⟨⟨by omega, by omega⟩, ?_⟩
    rw [show ((a.l.length : Int)).toNat = a.l.length by omega, List.range_eq_range']
    have o0 : ∀ i, cf (0 :: a.l.map (· * (q.den : Int))) i = if i = 0 then 0 else a.cf (i - 1) * q.den := fun i => by
      cases i with
      | zero => rfl
      | succ i =>
        rw [if_neg (by omega)]
        exact cf_sclL a.l q.den i
    refine for_at' (fun r2 ε => ∃ (K : Nat) (gs : List Int) (p7 p8 : Option Val), r2 = (List.range' K (a.l.length - K)).map (fun (i : Nat) => PyData.int i) ∧ K ≤ a.l.length ∧ ε = [some (.d (.int c)), some (.d (tz a.l)), some (.d (.int ((part.fdiv 5).fdiv 39))), some (.d x), some (.d (fr q)), some (.own (gs.map .int)), p7, p8] ∧ gs.length = a.l.length + 1 ∧ (∀ i, cf gs i = cf (0 :: a.l.map (· * (q.den : Int))) i - (if i < K then a.cf i * q.num else 0))) ?_ ?_ _ _ ⟨0, _, o7, o8, rfl, Nat.zero_le _, rfl, by simp, fun i => by rw [if_neg (by omega)]; omega⟩
    · rintro y r2 ε ⟨K, gs, p7, p8, hr, hK, rfl, hg, hc2⟩ hnx2
      have hK2 : K < a.l.length := by
        refine Classical.byContradiction fun z => ?_
        rw [show a.l.length - K = 0 by omega] at hr
        cases hr
      rw [show a.l.length - K = (a.l.length - (K + 1)) + 1 by omega, rng'_cons] at hr
      cases hr
      (simp only [b__law_product_2]; walk_at "s")
      have hlt : K < gs.length := by omega
      refine ix_lst (v := .int gs[K]) (atI_nat (by simp [hlt])) ?_
      walk_at "s"
      refine ix_tup (v := .int (a.cf K)) (atI_nat (by rw [show a.cf K = a.l[K] from Rc.cf_lt hK2]; simp [hK2])) ?_
      walk_at "s"
      refine ⟨mulOk_of (aB.2 K) hz.1 (by omega), K, ?_, ?_⟩
      · unfold L2.ixN
        rw [if_pos (by omega), if_pos (by rw [List.length_map]; omega)]
        exact congrArg some (by omega)
      · refine hnx2 _ ⟨K + 1, gs.set K (gs[K] + -(a.cf K * q.num)), _, _, rfl, by omega, by rw [List.map_set, Int.sub_eq_add_neg], by rw [List.length_set]; exact hg, fun i => ?_⟩
        rw [cf_set hlt, hc2 i]
        by_cases h1 : i = K
        · subst h1
          rw [if_pos rfl, if_neg (by omega), if_pos (by omega)]
          omega
        · rw [if_neg h1]
          by_cases h2 : i < K
          · rw [if_pos h2, if_pos (by omega)]
            omega
          · rw [if_neg h2, if_neg (by omega)]
            omega
    · rintro ε ⟨K, gs, p7, p8, hr, hK, rfl, hg, hc2⟩
      (simp only [b__law_product_3]; walk_at "s")
      have hKq : K = a.l.length := by
        refine Classical.byContradiction fun z => ?_
        rw [show a.l.length - K = (a.l.length - (K + 1)) + 1 by omega, rng'_cons] at hr
        cases hr
      have el : gs = (a * Po.lin q).l := by
        rw [Po.mul_lin_l _ _ a a0 (den0 q) (Po.lin_l q)]
        refine cf_ext (by rw [hL_len]; exact hg) fun i => ?_
        rw [hc2 i, o0, cf_hL]
        cases i with
        | zero =>
          rw [if_pos rfl]
          by_cases h1 : 0 < K
          · rw [if_pos h1]
            show 0 - a.cf 0 * q.num = -q.num * a.cf 0 + (q.den : Int) * 0
            grind
          · exfalso
            have := Po.len_pos a0
            unfold Po.len at this
            omega
        | succ i =>
          rw [if_neg (by omega)]
          show a.cf i * (q.den : Int) - _ = -q.num * a.cf (i + 1) + (q.den : Int) * a.cf i
          by_cases h1 : i + 1 < K
          · rw [if_pos h1]
            grind
          · rw [if_neg h1, Po.cf_ge (p := a) (show a.l.length ≤ i + 1 by omega)]
            grind
      have ep : a * Po.lin q = Po.C (1 + c.fmod 5) * Po.prodR (qs ++ [q]) := by
        rw [ha, Po.prodR_snoc]
        grind
      rw [ep] at el
      rw [el]
      have lb : Po.B 2 3 (Po.lin q) := Po.B.of ⟨Nat.le_refl 2, fun x hx => by
        rw [Po.lin_l] at hx
        simp only [List.mem_cons, List.not_mem_nil, or_false] at hx
        rcases hx with rfl | rfl
        · exact hz3.1.neg
        · exact hz3.2⟩
      have gB : Po.B (n + 1 + 1) (4 + 6 * (n + 1)) (a * Po.lin q) := ⟨by
        have := Po.len_mul a0 (Po.lin_ne q)
        have l2 : (Po.lin q).len = 2 := rfl
        omega, fun i => by
        show Bt (4 + 6 * (n + 1)) (Rc.cf (a * Po.lin q).l i)
        rw [Po.mul_lin_l _ _ a a0 (den0 q) (Po.lin_l q), cf_hL]
        have t1 : Bt (4 + 6 * n + 3) (-q.num * Rc.cf a.l i) := (Bt.mul (a := 3) (b := 4 + 6 * n) hz3.1.neg (aB.2 i)).mono (by omega)
        cases i with
        | zero => exact (Bt.add t1 (show Bt (4 + 6 * n + 3) ((q.den : Int) * 0) by rw [Int.mul_zero]; exact bt0)).mono (by omega)
        | succ i => exact (Bt.add t1 (show Bt (4 + 6 * n + 3) ((q.den : Int) * Rc.cf a.l i) from (Bt.mul (a := 3) (b := 4 + 6 * n) hz3.2 (aB.2 i)).mono (by omega))).mono (by omega)⟩
      rw [ep] at gB
      refine hnx _ ⟨_, qs ++ [q], n + 1, _, _, _, _, _, rfl, by omega, by rw [List.length_append]; simp only [List.length_cons, List.length_nil]; omega, gB, fun w hw => ?_⟩
      rcases List.mem_append.mp hw with g | g
      · exact hqs w g
      · rw [List.mem_singleton] at g
        rw [g]
        exact hz
  · rintro ε ⟨part, qs, n, o4, o5, o6, o7, o8, rfl, hl, hq, aB, hqs⟩
    have hl2 : 0 + n ≤ 4 := hl
    (simp only [b__law_product_5]; walk_at "s")
    exact h _ qs e0 (by omega) (aB.mono (by omega) (by omega)) hqs
  · have : Po.C (1 + c.fmod 5) * Po.prodR [] = Po.C (1 + c.fmod 5) := by
      show Po.C _ * 1 = _
      grind
    rw [this]
    have e2 : (Po.C (1 + c.fmod 5)).l = [1 + c.fmod 5] := trim_snoc (xs := []) e0
    rw [e2]
    rfl
  · have : Po.C (1 + c.fmod 5) * Po.prodR [] = Po.C (1 + c.fmod 5) := by
      show Po.C _ * 1 = _
      grind
    rw [this]
    exact Po.B.C (n := 0) (by unfold Bt; omega)

theorem p_rest {N b c : Nat} {P q : Po} (hP : Po.B N b P) (hq : Po.B N c q) (P0 : P ≠ 0) (q0 : q ≠ 0) (hN : N ≤ 1000) (hb : b + (P.len + 1 - q.len) * (c + 1) + c ≤ 60000000) (h : ∀ R f u : Po, ∀ s t : Int, s ≠ 0 → t ≠ 0 → Po.C s * P = u * q + f → f = Po.C t * R → R.len < q.len → (P.len < q.len → f = P) → Po.B N (b + (P.len + 1 - q.len) * (c + 1)) R → Q (.own (R.l.map .int))) : sem fns (k + 2) 44 [.list (P.l.map .int), .list (q.l.map .int)] X Q := by
  refine sem_at rfl ⟨rfl, ?_⟩
  (simp only [b__law_rest]; walk_at "s")
  have ql := Po.len_pos q0
  have qn := Po.ne0_l.mp q0
  refine whl_at' (fun m ε => ∃ (f u : Po) (s : Int) (o2 o3 o4 o5 o6 : Option Val), ε = [some (.own (f.l.map .int)), some (.d (.list (q.l.map .int))), o2, o3, o4, o5, o6] ∧ s ≠ 0 ∧ Po.C s * P = u * q + f ∧ f ≠ 0 ∧ (∃ j, j + f.len ≤ P.len ∧ j ≤ P.len + 1 - q.len ∧ Po.B N (b + j * (c + 1)) f ∧ (j = 0 → f = P)) ∧ m = f.len) _ ⟨P, 0, 1, _, _, _, _, _, rfl, by decide, by rw [Po.C1]; grind, P0, ⟨0, by omega, by omega, by rw [Nat.zero_mul]; exact hP, fun _ => rfl⟩, rfl⟩ ?_
  rintro m ε ⟨f, u, s, o2, o3, o4, o5, o6, rfl, s0, e, f0, ⟨j, jl, jq, fB, jP⟩, rfl⟩
  (simp only [c__law_rest_1, b__law_rest_8, b__law_rest_12]; walk_at "s")
  have fn := Po.ne0_l.mp f0
  have fl5 := fB.1
  have q5 := hq.1
  have P5 := hP.1
  have fl5' : f.l.length ≤ N := fl5
  have q5' : q.l.length ≤ N := q5
  have mb : j * (c + 1) ≤ (P.len + 1 - q.len) * (c + 1) := Nat.mul_le_mul_right _ jq
  rw [List.length_map, List.length_map]
  by_cases hlen : q.len ≤ f.len
  · rw [if_pos (show (q.l.length : Int) ≤ (f.l.length : Int) by unfold Po.len at hlen; omega)]
    have lf : L2.atI (f.l.map PyData.int) (-1) = some (.int f.lc) := by rw [atI_last fn, Po.last_l fn]
    have lq : L2.atI (q.l.map PyData.int) (-1) = some (.int q.lc) := by rw [atI_last qn, Po.last_l qn]
    refine ix_lst lf ?_
    walk_at "s"
    refine lc_as .int (fun w => .int (w * q.lc)) (fun w hw kk hk => ?_) (by unfold Po.len at fl5; omega) ?_
    · (simp only [e__law_rest_2]; walk_at "s")
      refine ix_lst lq ?_
      walk_at "s"
      exact ⟨mulOk_of (fB.bl.2 w hw) hq.lc (by omega), hk _⟩
    walk_at "s"
    rw [List.length_map]
    obtain ⟨m, hm⟩ : ∃ m, m = f.len - q.len := ⟨_, rfl⟩
    have qlc := Po.lc_ne q0
    refine ⟨⟨by omega, by omega⟩, ?_⟩
    rw [show ((q.l.length : Int)).toNat = q.l.length by omega, List.range_eq_range']
    refine for_at' (fun r ε => ∃ (K : Nat) (gs : List Int) (p3 p4 p5 p6 : Option Val), r = (List.range' K (q.len - K)).map (fun (i : Nat) => PyData.int i) ∧ K ≤ q.len ∧ ε = [some (.own (gs.map .int)), some (.d (.list (q.l.map .int))), some (.d (.int f.lc)), p3, p4, p5, p6] ∧ gs.length = f.len ∧ (∀ i, cf gs i = f.cf i * q.lc - (if m ≤ i ∧ i < m + K then f.lc * q.cf (i - m) else 0))) ?_ ?_ _ _ ⟨0, f.l.map (· * q.lc), o3, o4, o5, o6, rfl, Nat.zero_le _, ?_, by rw [List.length_map]; rfl, fun i => ?_⟩
    · rintro x r ε ⟨K, gs, p3, p4, p5, p6, hr, hK, rfl, hg, hc2⟩ hnx
      have hK2 : K < q.len := by
        refine Classical.byContradiction fun z => ?_
        rw [show q.len - K = 0 by omega] at hr
        cases hr
      rw [show q.len - K = (q.len - (K + 1)) + 1 by omega, rng'_cons] at hr
      cases hr
      (simp only [b__law_rest_3]; walk_at "s")
      rw [List.length_map, List.length_map, hg]
      rw [show (f.len : Int) - (q.l.length : Int) + (K : Int) = ((m + K : Nat) : Int) by unfold Po.len at *; omega]
      have hlt : m + K < gs.length := by omega
      have hK3 : K < q.l.length := hK2
      refine ix_lst (v := .int gs[m + K]) (atI_nat (by simp [hlt])) ?_
      walk_at "s"
      refine ix_lst (v := .int (q.cf K)) (atI_nat (by rw [show q.cf K = q.l[K] from Rc.cf_lt hK3]; simp [hK3])) ?_
      walk_at "s"
      refine ⟨mulOk_of fB.lc (hq.2 K) (by omega), m + K, ?_, ?_⟩
      · unfold L2.ixN
        rw [if_pos (by omega), if_pos (by rw [List.length_map]; omega)]
        exact congrArg some (by omega)
      · refine hnx _ ⟨K + 1, gs.set (m + K) (gs[m + K] + -(f.lc * q.cf K)), _, _, _, _, rfl, by omega, by rw [List.map_set, Int.sub_eq_add_neg], by rw [List.length_set]; exact hg, fun i => ?_⟩
        rw [cf_set hlt, hc2 i]
        by_cases h1 : i = m + K
        · subst h1
          rw [if_pos rfl, if_neg (by omega), if_pos (by omega), Nat.add_sub_cancel_left]
          omega
        · rw [if_neg h1]
          by_cases h2 : m ≤ i ∧ i < m + K
          · rw [if_pos h2, if_pos (by omega)]
            omega
          · rw [if_neg h2, if_neg (by omega)]
            omega
    · rintro ε ⟨K, gs, p3, p4, p5, p6, hr, hK, rfl, hg, hc2⟩
      (simp only [b__law_rest_7]; walk_at "s")
      have hKq : K = q.len := by
        refine Classical.byContradiction fun z => ?_
        rw [show q.len - K = (q.len - (K + 1)) + 1 by omega, rng'_cons] at hr
        cases hr
      obtain ⟨g, hgd⟩ : ∃ g : Po, g = Po.C q.lc * f - Po.X m * Po.C f.lc * q := ⟨_, rfl⟩
      have gl : trim gs = g.l := by
        rw [← show trim g.l = g.l from g.pn]
        refine trim_ext fun i => ?_
        rw [hc2 i]
        show _ = g.cf i
        rw [hgd, Po.cf_sub, Po.cf_Cmul, show Po.X m * Po.C f.lc * q = Po.X m * (Po.C f.lc * q) by grind, Po.cf_shift, Po.cf_Cmul]
        by_cases h1 : m ≤ i
        · by_cases h2 : i < m + K
          · rw [if_pos ⟨h1, h2⟩, if_pos h1, Int.mul_comm]
          · rw [if_neg (fun z => h2 z.2), if_pos h1, Po.cf_ge (p := q) (by omega), Int.mul_zero, Int.mul_comm]
        · rw [if_neg (fun z => h1 z.1), if_neg h1, Int.mul_comm]
      have gshort : g.len < f.len := by
        rw [hgd, hm]
        exact Po.step_len q0 hlen (Int.mul_comm ..) qlc
      have ge : Po.C (s * q.lc) * P = (Po.C q.lc * u + Po.X m * Po.C f.lc) * q + g := by
        rw [Po.C_mul, hgd]
        have : Po.C s * Po.C q.lc * P = Po.C q.lc * (Po.C s * P) := by grind
        rw [this, e]
        grind
      have gB : Po.B N (b + (j + 1) * (c + 1)) g := by
        have h1 : Po.B N (c + (b + j * (c + 1))) (Po.C q.lc * f) := fB.scl hq.lc
        have h3 : Po.B N ((b + j * (c + 1)) + c) (Po.X m * Po.C f.lc * q) := by
          have := (hq.scl fB.lc).shift m
          rw [show Po.X m * (Po.C f.lc * q) = Po.X m * Po.C f.lc * q by grind] at this
          refine ⟨?_, this.2⟩
          by_cases lz : f.lc = 0
          · exact absurd lz (Po.lc_ne f0)
          · have l1 := Po.len_mul (Po.mul_ne (Po.X_ne m) (Po.C_ne lz)) q0
            have l2 := Po.len_mul (Po.X_ne m) (Po.C_ne lz)
            rw [Po.len_C lz, Po.len_X] at l2
            omega
        have h4 := (h1.mono (Nat.le_refl _) (show _ ≤ b + j * (c + 1) + c by omega)).sub h3
        rw [← hgd] at h4
        refine h4.mono (Nat.le_refl _) ?_
        rw [Nat.add_mul]
        omega
      have jq2 : j + 1 ≤ P.len + 1 - q.len := by omega
      refine whl_at' (fun m' ε => ∃ xs : List Int, ε = [some (.own (xs.map .int)), some (.d (.list (q.l.map .int))), some (.d (.int f.lc)), p3, p4, p5, p6] ∧ trim xs = trim gs ∧ m' = xs.length) _ ⟨gs, rfl, rfl, rfl⟩ ?_
      rintro m' ε1 ⟨xs, rfl, ht, rfl⟩
      (simp only [c__law_rest_4, b__law_rest_5, b__law_rest_6]; walk_at "s")
      refine ⟨shapedL xs, shapedL [], ?_⟩
      rw [show PyData.eqv (.list (xs.map .int)) (.list []) = decide (xs = []) from eqvL xs []]
      by_cases ex : xs = []
      · subst ex
        simp only [decide_true, ↓wE.eq_1, ↓wE.eq_2, ↓wE.eq_3, ↓wE.eq_4, ↓wE.eq_5, ↓wE.eq_6, ↓wE.eq_7, ↓wE.eq_8, ↓wE.eq_9, ↓wE.eq_10, ↓wE.eq_11, ↓wE.eq_12, ↓wE.eq_13, ↓wE.eq_14, ↓wE.eq_15, ↓wE.eq_16, ↓wE.eq_18, ↓wE.eq_19, ↓wE.eq_22, ↓wE.eq_23, ↓wE.eq_24, ↓wE.eq_25, ↓wE.eq_26, ↓wE.eq_27, ↓wE.eq_28, ↓wE.eq_29, ↓wE.eq_30, ↓wE.eq_31, ↓wE.eq_32, ↓wE.eq_34, ↓wE.eq_35, ↓wE.eq_36, ↓wE.eq_37, ↓wE.eq_38, ↓wE.eq_39, ↓wE.eq_40, ↓wE_call, ↓wE_callP, ↓wE_lc, ↓wE_lcg, ↓wE_isv, ↓wE_ix, ↓ix_fr0, ↓ix_fr1, ↓cmp_fr, ↓cmp_frn, ↓cmp_fr0, ↓cmp_tz, ↓cmp_tzn, ↓cmp_tz0, ↓cmp_tzn0, ↓bi_list_tz, ↓add_tz,  ↓len_tz, ↓len_fr, ↓isT_fr, items_tz, ↓cmp_bb, ↓cmp_bbn, ↓wS_whl, ↓wS_for, ↓wS_forP, ↓wS_asg, ↓wS_par, ↓wS_setIx, ↓wS_app, ↓tgW_one, ↓tgW_tup, pvF_eq, ↓wS.eq_1, ↓wS.eq_2, ↓wS.eq_3, ↓wS.eq_5, ↓wS.eq_7, ↓wS.eq_10, ↓wS.eq_11, ↓wS.eq_12, ↓wS.eq_13, ↓wS.eq_14, ↓wS.eq_15, ↓wS.eq_16, ↓wS.eq_17, ↓wS.eq_20, ↓wS.eq_21, ↓wS.eq_22, ↓wS.eq_23, ↓wS.eq_24, ↓wS.eq_25, ↓wS.eq_26, ↓wS.eq_27, ↓wS.eq_28, ↓wS.eq_29, ↓wS.eq_30, ↓augW.eq_1, ↓augW.eq_2, ↓augW.eq_3, ↓augW.eq_4, ↓inW.eq_1, ↓inW.eq_2, ↓inW.eq_3, ↓zipW.eq_1, ↓zipW.eq_2, ↓cntW.eq_1, ↓dspW.eq_1, ↓opW.eq_1, ↓opW.eq_2, ↓opW.eq_3, ↓opW.eq_4, ↓opW.eq_5, ↓opW.eq_6, ↓opW.eq_7, ↓opW.eq_8, ↓opW.eq_9, ↓opW.eq_10, ↓opW.eq_11, ↓opW.eq_12, ↓opW.eq_13, ↓opW.eq_14, ↓cmpW.eq_1, ↓cmpW.eq_2, ↓cmpW.eq_5, ↓cmpW.eq_6, ↓cmpW.eq_7, ↓cmpW.eq_8, ↓cmpW.eq_9, ↓cmpW.eq_10, ↓cmpW.eq_11, ↓cmpW.eq_12, ↓cmp_ll, ↓cmp_lln, ↓cmp_tt, ↓cmp_ttn, ↓biW.eq_1, ↓biW.eq_2, ↓biW.eq_3, ↓biW.eq_4, ↓biW.eq_5, ↓biW.eq_6, ↓biW.eq_7, ↓biW.eq_8, ↓biW.eq_9, ↓biW.eq_10, ↓biW.eq_11, ↓biW.eq_12, ↓biW.eq_13, ↓biW.eq_14, ↓biW.eq_15, ↓biW.eq_16, ↓biW.eq_17, ↓lenW.eq_1, ↓lenW.eq_2, ↓slW.eq_1, ↓slW.eq_2, ↓revW.eq_1, ↓revW.eq_2, ↓pkW_var, ↓ptW_nil, ↓ptK_i, ↓pkW_cst, ↓pkW_tup, ↓pkW_lst, ↓pkW_bin, ↓pkW_neg, ↓pkW_ix, ↓pkW_sl, ↓pkW_rev, ↓pkW_call, ↓pkW_callP, ↓pkW_bi, ↓pkW_len, ↓pkW_lc, ↓pkW_ite, ↓pkW_gc, ↓pkW_mov, ↓pkW_dsp, ↓pkW_bone, ↓pkW_cmp, ↓pkW_cnt, ↓ptW_cst, ↓ptW_tup, ↓ptW_lst, ↓ptW_bin, ↓ptW_neg, ↓ptW_ix, ↓ptW_sl, ↓ptW_rev, ↓ptW_call, ↓ptW_callP, ↓ptW_bi, ↓ptW_len, ↓ptW_lc, ↓ptW_ite, ↓ptW_gc, ↓ptW_mov, ↓ptW_dsp, ↓ptW_bone, ↓ptW_cmp, ↓ptW_cnt, ↓ptW_var, ↓peek, ↓ownAt, ↓kD.eq_1, ↓kD.eq_2, ↓kM.eq_1, ↓kB.eq_1, ↓kV.eq_1, ↓kV.eq_2, ↓setW, ↓rngW1.eq_1, ↓rngW2.eq_1, ↓rngWd.eq_1, isVar, isNil, isT, gv, pv, setAll, ev0, items.eq_1, items.eq_2, tgs, wipeE, blind_cons, blind_nil, bl1, runB, List.map_cons, List.map_nil, List.replicate, List.cons_append, List.nil_append, if_true, if_false, ite_true, ite_false, reduceCtorEq, Bool.true_and, Bool.and_true, Bool.not_true, Bool.not_false, Bool.false_eq_true, ↓reduceIte, Nat.reduceSub, Nat.reduceAdd, List.length_cons, List.length_nil, decide_eq_true_eq, Bool.not_eq_true', decide_eq_false_iff_not, Bool.and_false, Bool.false_and, true_and, and_true, Nat.sub_self, Nat.succ_eq_add_one, flat, Nat.reduceLeDiff, Int.reduceLE, Int.reduceLT, Int.reduceEq, ne_eq, not_false_eq_true, s10, la_2, la_3, la_4, la_5, la_6, la_7, la_8, la_9, la_10, la_11, la_12, la_13, la_14, la_15, la_16, la_18, la_19, la_20, la_21, la_24, la_25, la_28, la_30, la_35, la_36, la_39, la_40, la_41, la_44, la_45, la_49, la_50, la_52, la_54, la_57, la_63, la_64, la_65, la_72, la_78, la_81, la_90, la_100, la_121, la_123, la_125, la_126, la_144, la_162, la_168, la_176, la_196, la_200, la_216, la_240, la_360, la_369, la_400, la_402, la_441, la_540, la_550, la_900, la_907, la_997, la_1009, la_1100, la_1152, la_1440, la_1764, la_2001, la_2003, la_2200, la_3150, la_4099, la_16807, la_22500, la_24200, la_72600, Nat.reduceLT, ↓ix_t0, ↓ix_t1, ↓ix_t2, ↓ix_t3, ↓ix_t4, ↓ix_t5, ↓ix_t6, ↓ix_l0, ↓ix_l1, ↓ix_l2, ↓ix_l3, ↓ix_l4, ↓ix_l5, ↓ix_l6, ↓add_ttz, ↓isT_tz, ↓sl_tz, isN_non, isN_tup, isN_lst, isN_int, isN_str, isN_bl, isN_fr, isN_tz, ↓hS.eq_1, ↓hS.eq_2, ↓hS.eq_3, ↓hS.eq_4, hE, hB, ↓hide.eq_1, ↓hide.eq_2, isS, Nat.reduceBEq, Bool.or_true, Bool.or_false, Bool.true_or, Bool.false_or, beq_self_eq_true, not_true_eq_false, Int.cast_ofNat_Int]
        have g0 : g = 0 := Po.eq0_l.mpr (by rw [← gl, ← ht]; rfl)
        rw [g0] at ge
        refine ⟨shapedL [], shapedL [], ?_⟩
        exact h 0 0 _ _ 1 (Int.mul_ne_zero s0 qlc) (by decide) ge (by grind) ql (fun z => by omega) Po.B.zero
      · simp only [ex, decide_false, ↓wE.eq_1, ↓wE.eq_2, ↓wE.eq_3, ↓wE.eq_4, ↓wE.eq_5, ↓wE.eq_6, ↓wE.eq_7, ↓wE.eq_8, ↓wE.eq_9, ↓wE.eq_10, ↓wE.eq_11, ↓wE.eq_12, ↓wE.eq_13, ↓wE.eq_14, ↓wE.eq_15, ↓wE.eq_16, ↓wE.eq_18, ↓wE.eq_19, ↓wE.eq_22, ↓wE.eq_23, ↓wE.eq_24, ↓wE.eq_25, ↓wE.eq_26, ↓wE.eq_27, ↓wE.eq_28, ↓wE.eq_29, ↓wE.eq_30, ↓wE.eq_31, ↓wE.eq_32, ↓wE.eq_34, ↓wE.eq_35, ↓wE.eq_36, ↓wE.eq_37, ↓wE.eq_38, ↓wE.eq_39, ↓wE.eq_40, ↓wE_call, ↓wE_callP, ↓wE_lc, ↓wE_lcg, ↓wE_isv, ↓wE_ix, ↓ix_fr0, ↓ix_fr1, ↓cmp_fr, ↓cmp_frn, ↓cmp_fr0, ↓cmp_tz, ↓cmp_tzn, ↓cmp_tz0, ↓cmp_tzn0, ↓bi_list_tz, ↓add_tz,  ↓len_tz, ↓len_fr, ↓isT_fr, items_tz, ↓cmp_bb, ↓cmp_bbn, ↓wS_whl, ↓wS_for, ↓wS_forP, ↓wS_asg, ↓wS_par, ↓wS_setIx, ↓wS_app, ↓tgW_one, ↓tgW_tup, pvF_eq, ↓wS.eq_1, ↓wS.eq_2, ↓wS.eq_3, ↓wS.eq_5, ↓wS.eq_7, ↓wS.eq_10, ↓wS.eq_11, ↓wS.eq_12, ↓wS.eq_13, ↓wS.eq_14, ↓wS.eq_15, ↓wS.eq_16, ↓wS.eq_17, ↓wS.eq_20, ↓wS.eq_21, ↓wS.eq_22, ↓wS.eq_23, ↓wS.eq_24, ↓wS.eq_25, ↓wS.eq_26, ↓wS.eq_27, ↓wS.eq_28, ↓wS.eq_29, ↓wS.eq_30, ↓augW.eq_1, ↓augW.eq_2, ↓augW.eq_3, ↓augW.eq_4, ↓inW.eq_1, ↓inW.eq_2, ↓inW.eq_3, ↓zipW.eq_1, ↓zipW.eq_2, ↓cntW.eq_1, ↓dspW.eq_1, ↓opW.eq_1, ↓opW.eq_2, ↓opW.eq_3, ↓opW.eq_4, ↓opW.eq_5, ↓opW.eq_6, ↓opW.eq_7, ↓opW.eq_8, ↓opW.eq_9, ↓opW.eq_10, ↓opW.eq_11, ↓opW.eq_12, ↓opW.eq_13, ↓opW.eq_14, ↓cmpW.eq_1, ↓cmpW.eq_2, ↓cmpW.eq_5, ↓cmpW.eq_6, ↓cmpW.eq_7, ↓cmpW.eq_8, ↓cmpW.eq_9, ↓cmpW.eq_10, ↓cmpW.eq_11, ↓cmpW.eq_12, ↓cmp_ll, ↓cmp_lln, ↓cmp_tt, ↓cmp_ttn, ↓biW.eq_1, ↓biW.eq_2, ↓biW.eq_3, ↓biW.eq_4, ↓biW.eq_5, ↓biW.eq_6, ↓biW.eq_7, ↓biW.eq_8, ↓biW.eq_9, ↓biW.eq_10, ↓biW.eq_11, ↓biW.eq_12, ↓biW.eq_13, ↓biW.eq_14, ↓biW.eq_15, ↓biW.eq_16, ↓biW.eq_17, ↓lenW.eq_1, ↓lenW.eq_2, ↓slW.eq_1, ↓slW.eq_2, ↓revW.eq_1, ↓revW.eq_2, ↓pkW_var, ↓ptW_nil, ↓ptK_i, ↓pkW_cst, ↓pkW_tup, ↓pkW_lst, ↓pkW_bin, ↓pkW_neg, ↓pkW_ix, ↓pkW_sl, ↓pkW_rev, ↓pkW_call, ↓pkW_callP, ↓pkW_bi, ↓pkW_len, ↓pkW_lc, ↓pkW_ite, ↓pkW_gc, ↓pkW_mov, ↓pkW_dsp, ↓pkW_bone, ↓pkW_cmp, ↓pkW_cnt, ↓ptW_cst, ↓ptW_tup, ↓ptW_lst, ↓ptW_bin, ↓ptW_neg, ↓ptW_ix, ↓ptW_sl, ↓ptW_rev, ↓ptW_call, ↓ptW_callP, ↓ptW_bi, ↓ptW_len, ↓ptW_lc, ↓ptW_ite, ↓ptW_gc, ↓ptW_mov, ↓ptW_dsp, ↓ptW_bone, ↓ptW_cmp, ↓ptW_cnt, ↓ptW_var, ↓peek, ↓ownAt, ↓kD.eq_1, ↓kD.eq_2, ↓kM.eq_1, ↓kB.eq_1, ↓kV.eq_1, ↓kV.eq_2, ↓setW, ↓rngW1.eq_1, ↓rngW2.eq_1, ↓rngWd.eq_1, isVar, isNil, isT, gv, pv, setAll, ev0, items.eq_1, items.eq_2, tgs, wipeE, blind_cons, blind_nil, bl1, runB, List.map_cons, List.map_nil, List.replicate, List.cons_append, List.nil_append, if_true, if_false, ite_true, ite_false, reduceCtorEq, Bool.true_and, Bool.and_true, Bool.not_true, Bool.not_false, Bool.false_eq_true, ↓reduceIte, Nat.reduceSub, Nat.reduceAdd, List.length_cons, List.length_nil, decide_eq_true_eq, Bool.not_eq_true', decide_eq_false_iff_not, Bool.and_false, Bool.false_and, true_and, and_true, Nat.sub_self, Nat.succ_eq_add_one, flat, Nat.reduceLeDiff, Int.reduceLE, Int.reduceLT, Int.reduceEq, ne_eq, not_false_eq_true, s10, la_2, la_3, la_4, la_5, la_6, la_7, la_8, la_9, la_10, la_11, la_12, la_13, la_14, la_15, la_16, la_18, la_19, la_20, la_21, la_24, la_25, la_28, la_30, la_35, la_36, la_39, la_40, la_41, la_44, la_45, la_49, la_50, la_52, la_54, la_57, la_63, la_64, la_65, la_72, la_78, la_81, la_90, la_100, la_121, la_123, la_125, la_126, la_144, la_162, la_168, la_176, la_196, la_200, la_216, la_240, la_360, la_369, la_400, la_402, la_441, la_540, la_550, la_900, la_907, la_997, la_1009, la_1100, la_1152, la_1440, la_1764, la_2001, la_2003, la_2200, la_3150, la_4099, la_16807, la_22500, la_24200, la_72600, Nat.reduceLT, ↓ix_t0, ↓ix_t1, ↓ix_t2, ↓ix_t3, ↓ix_t4, ↓ix_t5, ↓ix_t6, ↓ix_l0, ↓ix_l1, ↓ix_l2, ↓ix_l3, ↓ix_l4, ↓ix_l5, ↓ix_l6, ↓add_ttz, ↓isT_tz, ↓sl_tz, isN_non, isN_tup, isN_lst, isN_int, isN_str, isN_bl, isN_fr, isN_tz, ↓hS.eq_1, ↓hS.eq_2, ↓hS.eq_3, ↓hS.eq_4, hE, hB, ↓hide.eq_1, ↓hide.eq_2, isS, Nat.reduceBEq, Bool.or_true, Bool.or_false, Bool.true_or, Bool.false_or, beq_self_eq_true, not_true_eq_false, Int.cast_ofNat_Int]
        refine ix_lst (v := .int (xs.getLast ex)) (atI_last ex) ?_
        have hx := List.dropLast_concat_getLast ex
        walk_at "s"
        split
        · rename_i hz
          rw [hz] at hx
          refine ⟨by simpa using ex, xs.dropLast.length, ?_, xs.dropLast, by rw [List.map_dropLast], ?_, rfl⟩
          · have := List.length_pos_iff.mpr ex
            rw [List.length_dropLast]
            omega
          · rw [← ht, ← hx, trim_snoc0, List.dropLast_concat]
        · rename_i hz
          have := trim_snoc (xs := xs.dropLast) hz
          rw [hx] at this
          have xg : xs = g.l := by rw [← gl, ← ht, this]
          refine ⟨shapedL xs, shapedL [], ?_⟩
          rw [show PyData.eqv (.list (xs.map .int)) (.list []) = decide (xs = []) from eqvL xs [], decide_eq_false ex, if_neg (by decide)]
          exact ⟨g.len, gshort, g, _, _, _, _, _, _, _, by rw [xg], Int.mul_ne_zero s0 qlc, ge, Po.ne0_l.mpr (by rw [← xg]; exact ex), ⟨j + 1, by omega, jq2, gB, fun z => by omega⟩, rfl⟩
    · rw [List.map_map]
      rfl
    · have := cf_sclL f.l q.lc i
      rw [if_neg (by omega), Int.sub_zero]
      exact this
  · rw [if_neg (show ¬ (q.l.length : Int) ≤ (f.l.length : Int) by unfold Po.len at hlen; omega)]
    refine for_at' (fun r ε => ∃ (ys : List Int) (g : Nat) (p2 p3 p4 p5 : Option Val), r = ys.map .int ∧ ε = [some (.d (.list (f.l.map .int))), some (.d (.list (q.l.map .int))), p2, p3, p4, p5, some (.d (.int g))] ∧ ys.foldl (fun g x => Int.gcd g x) g = f.cont) ?_ ?_ _ _ ⟨f.l, 0, o2, o3, o4, o5, rfl, rfl, rfl⟩
    · rintro x r ε ⟨ys, g, p2, p3, p4, p5, hr, rfl, hg⟩ hnx
      cases ys with
      | nil => cases hr
      | cons y ys =>
        cases hr
        (simp only [b__law_rest_9]; walk_at "s")
        refine p_rgcd ?_
        walk_at "s"
        exact hnx _ ⟨ys, _, _, _, _, _, rfl, rfl, hg⟩
    · rintro ε ⟨ys, g, p2, p3, p4, p5, hr, rfl, hg⟩
      cases ys with
      | cons y ys => cases hr
      | nil =>
        have hg : g = f.cont := hg
        subst hg
        (simp only [b__law_rest_11]; walk_at "s")
        have c0 := Po.cont_ne f0
        have ci : (f.cont : Int) ≠ 0 := by omega
        obtain ⟨R, eR⟩ := Po.dvd_C (p := f) (d := (f.cont : Int)) fun i => Po.cont_cf f i
        refine lc_as .int (fun w => .int (w.fdiv f.cont)) (fun w hw kk hk => ?_) (by unfold Po.len at fl5; omega) ?_
        · (simp only [e__law_rest_10]; walk_at "s")
          exact ⟨ci, hk _⟩
        walk_at "s"
        rw [show (f.l.map fun w => PyData.int (w.fdiv f.cont)) = R.l.map .int by rw [← Po.div_l eR ci, List.map_map]; rfl]
        have RB := (fB.quot eR ci).mono (m := N) (c := b + (P.len + 1 - q.len) * (c + 1)) (Nat.le_refl _) (by omega)
        have Rl : R.len = f.len := by
          have := congrArg Po.len eR
          rw [Po.len_Cmul ci] at this
          omega
        exact h R f u s f.cont s0 ci e eR (by omega) (fun z => jP (by omega)) RB

theorem p_lfree {N b0 : Nat} {p : Po} (hp : Po.B N b0 p) (hN : N ≤ 100) (hb : b0 ≤ 1000000) (hs : Po.pell N * (17 + b0 + 7) ≤ 25000000) (h : ∀ b : Bool, (b = true ↔ Po.Free p) → Q (.d (.bool b))) : sem fns (k + 3) 45 [tz p.l] X Q := by
  refine sem_at rfl ⟨rfl, ?_⟩
  (simp only [b__law_free]; walk_at "s")
  have pN : p.l.length ≤ N := hp.1
  by_cases p0 : p = 0
  · rw [if_pos (Po.eq0_l.mp p0)]
    exact h false ⟨fun e => (by cases e), fun e => absurd p0 e.1⟩
  rw [if_neg (Po.ne0_l.mp p0)]
  have lp := Po.len_pos p0
  have lp' : 0 < p.l.length := lp
  refine ⟨⟨by omega, by omega⟩, ?_⟩
  rw [show ((p.l.length : Int) - 1).toNat = p.l.length - 1 by omega]
  refine lc_as (fun i : Nat => .int (1 + (i : Int))) (fun n => .int (((n : Int) + 1) * cf p.l (n + 1))) (fun i hi kk hk => ?_) (by rw [List.length_range]; omega) ?_
  · have hi2 := List.mem_range.mp hi
    (simp only [e__law_free_1]; walk_at "s")
    have hl3 : i + 1 < p.l.length := by omega
    rw [show (1 : Int) + (i : Int) = ((i + 1 : Nat) : Int) by omega]
    refine ix_tup (v := .int p.l[i + 1]) (atI_nat (by simp [hl3])) ?_
    walk_at "s"
    refine ⟨mulOk_l (by unfold small64; omega), ?_⟩
    rw [show ((i + 1 : Nat) : Int) * p.l[i + 1] = ((i : Int) + 1) * cf p.l (i + 1) by rw [cf_lt hl3]; rfl]
    exact hk _
  walk_at "s"
  have dl2 : dL p.l = (Po.der p).l := by
    by_cases h2 : 2 ≤ p.len
    · exact Po.der_ll h2
    · obtain ⟨c, hc⟩ : ∃ c, p.l = [c] := by
        unfold Po.len at *
        match e : p.l, (show p.l.length = 1 by omega) with
        | [c], _ => exact ⟨c, rfl⟩
      show dL p.l = trim (dL p.l)
      rw [hc]
      rfl
  rw [show (List.range (p.l.length - 1)).map (fun (n : Nat) => PyData.int (((n : Int) + 1) * cf p.l (n + 1))) = (Po.der p).l.map .int by rw [← dl2]; unfold dL; rw [List.map_map]; rfl]
  have dB := hp.der (show N ≤ 100000 by omega)
  have dl : (Po.der p).len + 1 = p.len := by
    have : (dL p.l).length = p.l.length - 1 := by unfold dL; rw [List.length_map, List.length_range]
    rw [dl2] at this
    unfold Po.len
    omega
  obtain ⟨b1, hb1⟩ : ∃ b1, b1 = 17 + b0 := ⟨_, rfl⟩
  have hpB : Po.B N b1 p := hp.mono (Nat.le_refl _) (by omega)
  have hdB : Po.B N b1 (Po.der p) := dB.mono (Nat.le_refl _) (by omega)
  rw [← hb1] at hs
  refine whl_at' (fun m ε => ∃ (f g : Po) (v1 v2 o3 : Option Val) (x1 x2 : Nat), ε = [some (.d (tz p.l)), v1, v2, o3] ∧ (v1 = some (.own (f.l.map .int)) ∨ v1 = some (.d (.list (f.l.map .int)))) ∧ (v2 = some (.own (g.l.map .int)) ∨ v2 = some (.d (.list (g.l.map .int)))) ∧ f ≠ 0 ∧ Po.Com p (Po.der p) f g ∧ Po.Rw p (Po.der p) f ∧ Po.Rw p (Po.der p) g ∧ (g.len < f.len ∧ f.len ≤ N ∧ Po.B N x1 f ∧ Po.B N x2 g) ∧
    (g ≠ 0 → x1 + (f.len + 1 - g.len) * (x2 + 3) + 7 ≤ Po.pell (N - g.len + 1) * (b1 + 7) ∧ x2 + 5 ≤ Po.pell (N - g.len) * (b1 + 7)) ∧ m = g.len) _ ⟨p, Po.der p, _, _, none, b1, b1, rfl, .inl rfl, .inl rfl, p0, fun d _ h1 h2 => ⟨h1, h2⟩, ⟨1, 0, 1, by decide, by rw [Po.C1]; grind⟩, ⟨0, 1, 1, by decide, by rw [Po.C1]; grind⟩, ⟨by omega, hp.1, hpB, hdB⟩, ?_, rfl⟩ ?_
  · intro _
    have h1 := hp.1
    have p1 := Po.pell_lin (N - (Po.der p).len)
    have p2 := Po.pell_pos (N - (Po.der p).len)
    have m1 : (p.len + 1 - (Po.der p).len) * (b1 + 3) ≤ (N - (Po.der p).len + 1) * (b1 + 7) := Nat.mul_le_mul (by omega) (by omega)
    have m2 : (N - (Po.der p).len + 1 + 1) * (b1 + 7) ≤ Po.pell (N - (Po.der p).len + 1) * (b1 + 7) := Nat.mul_le_mul_right _ p1
    have m3 : 1 * (b1 + 7) ≤ Po.pell (N - (Po.der p).len) * (b1 + 7) := Nat.mul_le_mul_right _ p2
    rw [Nat.add_mul, Nat.one_mul] at m2
    omega
  rintro m ε ⟨f, g, v1, v2, o3, x1, x2, rfl, hv, hw, f0, cm, rf, rg, ⟨gl, fN, fB, gB⟩, hx, rfl⟩
  have fin : g.l = [] → ∀ b : Bool, (b = true ↔ f.len = 1) → Q (.d (.bool b)) := fun gz b hb => by
    have g0 := Po.eq0_l.mpr gz
    subst g0
    have gc := cm.gcw rf f0
    refine h b (hb.trans ⟨fun z => ⟨p0, _, gc, by rw [Po.len_pl]; omega⟩, fun z => ?_⟩)
    obtain ⟨_, d, g2, hd⟩ := z
    rw [g2.uniq gc, Po.len_pl] at hd
    have := Po.len_pos f0
    omega
  rcases hv with rfl | rfl <;> rcases hw with rfl | rfl
  all_goals
    (simp only [c__law_free_2, b__law_free_3, b__law_free_4]; walk_at "s")
    refine ⟨shapedL g.l, shapedL [], ?_⟩
    rw [show PyData.eqv (.list (g.l.map .int)) (.list []) = decide (g.l = []) from eqvL g.l []]
    by_cases gz : g.l = []
    · rw [decide_eq_true gz]
      walk_at "s"
      refine fin gz _ ⟨fun z => ?_, fun z => ?_⟩
      · have := of_decide_eq_true z
        rw [List.length_map] at this
        unfold Po.len
        omega
      · refine decide_eq_true ?_
        rw [List.length_map]
        unfold Po.len at z
        omega
    · rw [decide_eq_false gz]
      walk_at "s"
      have g0 : g ≠ 0 := Po.ne0_l.mpr gz
      obtain ⟨hx1, hx2⟩ := hx g0
      have gp := Po.len_pos g0
      have y' : Po.pell (N - g.len + 1) * (b1 + 7) ≤ Po.pell N * (b1 + 7) := Nat.mul_le_mul_right _ (Po.pell_mono (by omega))
      have y2 : Po.pell (N - g.len) * (b1 + 7) ≤ Po.pell N * (b1 + 7) := Nat.mul_le_mul_right _ (Po.pell_mono (by omega))
      have e3 : (f.len + 1 - g.len) * (x2 + 1) ≤ (f.len + 1 - g.len) * (x2 + 3) := Nat.mul_le_mul_left _ (by omega)
      refine p_rest fB gB f0 g0 (by omega) (by omega) fun R w u s t s0 t0 e1 e2 Rl _ RB => ?_
      walk_at "s"
      refine ⟨R.len, Rl, g, R, _, _, _, x2, x1 + (f.len + 1 - g.len) * (x2 + 3) + 2, rfl, .inr rfl, .inr rfl, g0, cm.step s0 e1 e2, rg, rf.step rg t0 e1 e2, ⟨Rl, by omega, gB, RB.mono (Nat.le_refl _) (by omega)⟩, ?_, rfl⟩
      intro z3
      have f3p := Po.len_pos z3
      obtain ⟨j, hj⟩ : ∃ j, g.len = R.len + 1 + j := ⟨g.len - R.len - 1, by omega⟩
      have g1 := Po.pell_step (N - g.len) j
      have g2 : (Po.pell (N - g.len) + (j + 2) * Po.pell (N - g.len + 1)) * (b1 + 7) ≤ Po.pell (N - g.len + 2 + j) * (b1 + 7) := Nat.mul_le_mul_right _ g1
      rw [Nat.add_mul, Nat.mul_assoc] at g2
      rw [show N - R.len + 1 = N - g.len + 2 + j by omega, show g.len + 1 - R.len = j + 2 by omega]
      have g3 : (j + 2) * (x1 + (f.len + 1 - g.len) * (x2 + 3) + 2 + 5) ≤ (j + 2) * (Po.pell (N - g.len + 1) * (b1 + 7)) := Nat.mul_le_mul_left _ (by omega)
      have g4 : (j + 2) * (x1 + (f.len + 1 - g.len) * (x2 + 3) + 2 + 5) = (j + 2) * (x1 + (f.len + 1 - g.len) * (x2 + 3) + 2 + 3) + (j + 2) * 2 := Nat.mul_add (j + 2) (x1 + (f.len + 1 - g.len) * (x2 + 3) + 2 + 3) 2
      refine ⟨by omega, ?_⟩
      have : Po.pell (N - g.len + 1) * (b1 + 7) ≤ Po.pell (N - R.len) * (b1 + 7) := Nat.mul_le_mul_right _ (Po.pell_mono (by omega))
      omega

end
end K20

namespace K20
open PySem Rc
local macro_rules | `(tactic| walk_at "s") => `(tactic| simp only [↓wE.eq_1, ↓wE.eq_2, ↓wE.eq_3, ↓wE.eq_4, ↓wE.eq_5, ↓wE.eq_6, ↓wE.eq_7, ↓wE.eq_8, ↓wE.eq_9, ↓wE.eq_10, ↓wE.eq_11, ↓wE.eq_12, ↓wE.eq_13, ↓wE.eq_14, ↓wE.eq_15, ↓wE.eq_16, ↓wE.eq_18, ↓wE.eq_19, ↓wE.eq_22, ↓wE.eq_23, ↓wE.eq_24, ↓wE.eq_25, ↓wE.eq_26, ↓wE.eq_27, ↓wE.eq_28, ↓wE.eq_29, ↓wE.eq_30, ↓wE.eq_31, ↓wE.eq_32, ↓wE.eq_34, ↓wE.eq_35, ↓wE.eq_36, ↓wE.eq_37, ↓wE.eq_38, ↓wE.eq_39, ↓wE.eq_40, ↓wE_call, ↓wE_callP, ↓wE_lc, ↓wE_lcg, ↓wE_isv, ↓wE_ix, ↓ix_fr0, ↓ix_fr1, ↓cmp_fr, ↓cmp_frn, ↓cmp_fr0, ↓cmp_tz, ↓cmp_tzn, ↓cmp_tz0, ↓cmp_tzn0, ↓bi_list_tz, ↓add_tz,  ↓len_tz, ↓len_fr, ↓isT_fr, items_tz, ↓cmp_bb, ↓cmp_bbn, ↓wS_whl, ↓wS_for, ↓wS_forP, ↓wS_asg, ↓wS_par, ↓wS_setIx, ↓wS_app, ↓tgW_one, ↓tgW_tup, pvF_eq, ↓wS.eq_1, ↓wS.eq_2, ↓wS.eq_3, ↓wS.eq_5, ↓wS.eq_7, ↓wS.eq_10, ↓wS.eq_11, ↓wS.eq_12, ↓wS.eq_13, ↓wS.eq_14, ↓wS.eq_15, ↓wS.eq_16, ↓wS.eq_17, ↓wS.eq_20, ↓wS.eq_21, ↓wS.eq_22, ↓wS.eq_23, ↓wS.eq_24, ↓wS.eq_25, ↓wS.eq_26, ↓wS.eq_27, ↓wS.eq_28, ↓wS.eq_29, ↓wS.eq_30, ↓augW.eq_1, ↓augW.eq_2, ↓augW.eq_3, ↓augW.eq_4, ↓inW.eq_1, ↓inW.eq_2, ↓inW.eq_3, ↓zipW.eq_1, ↓zipW.eq_2, ↓cntW.eq_1, ↓dspW.eq_1, ↓opW.eq_1, ↓opW.eq_2, ↓opW.eq_3, ↓opW.eq_4, ↓opW.eq_5, ↓opW.eq_6, ↓opW.eq_7, ↓opW.eq_8, ↓opW.eq_9, ↓opW.eq_10, ↓opW.eq_11, ↓opW.eq_12, ↓opW.eq_13, ↓opW.eq_14, ↓cmpW.eq_1, ↓cmpW.eq_2, ↓cmpW.eq_5, ↓cmpW.eq_6, ↓cmpW.eq_7, ↓cmpW.eq_8, ↓cmpW.eq_9, ↓cmpW.eq_10, ↓cmpW.eq_11, ↓cmpW.eq_12, ↓cmp_ll, ↓cmp_lln, ↓cmp_tt, ↓cmp_ttn, ↓biW.eq_1, ↓biW.eq_2, ↓biW.eq_3, ↓biW.eq_4, ↓biW.eq_5, ↓biW.eq_6, ↓biW.eq_7, ↓biW.eq_8, ↓biW.eq_9, ↓biW.eq_10, ↓biW.eq_11, ↓biW.eq_12, ↓biW.eq_13, ↓biW.eq_14, ↓biW.eq_15, ↓biW.eq_16, ↓biW.eq_17, ↓lenW.eq_1, ↓lenW.eq_2, ↓slW.eq_1, ↓slW.eq_2, ↓revW.eq_1, ↓revW.eq_2, ↓pkW_var, ↓ptW_nil, ↓ptK_i, ↓pkW_cst, ↓pkW_tup, ↓pkW_lst, ↓pkW_bin, ↓pkW_neg, ↓pkW_ix, ↓pkW_sl, ↓pkW_rev, ↓pkW_call, ↓pkW_callP, ↓pkW_bi, ↓pkW_len, ↓pkW_lc, ↓pkW_ite, ↓pkW_gc, ↓pkW_mov, ↓pkW_dsp, ↓pkW_bone, ↓pkW_cmp, ↓pkW_cnt, ↓ptW_cst, ↓ptW_tup, ↓ptW_lst, ↓ptW_bin, ↓ptW_neg, ↓ptW_ix, ↓ptW_sl, ↓ptW_rev, ↓ptW_call, ↓ptW_callP, ↓ptW_bi, ↓ptW_len, ↓ptW_lc, ↓ptW_ite, ↓ptW_gc, ↓ptW_mov, ↓ptW_dsp, ↓ptW_bone, ↓ptW_cmp, ↓ptW_cnt, ↓ptW_var, ↓peek, ↓ownAt, ↓kD.eq_1, ↓kD.eq_2, ↓kM.eq_1, ↓kB.eq_1, ↓kV.eq_1, ↓kV.eq_2, ↓setW, ↓rngW1.eq_1, ↓rngW2.eq_1, ↓rngWd.eq_1, isVar, isNil, isT, gv, pv, setAll, ev0, items.eq_1, items.eq_2, tgs, wipeE, blind_cons, blind_nil, bl1, runB, List.map_cons, List.map_nil, List.replicate, List.cons_append, List.nil_append, if_true, if_false, ite_true, ite_false, reduceCtorEq, Bool.true_and, Bool.and_true, Bool.not_true, Bool.not_false, Bool.false_eq_true, ↓reduceIte, Nat.reduceSub, Nat.reduceAdd, List.length_cons, List.length_nil, decide_eq_true_eq, Bool.not_eq_true', decide_eq_false_iff_not, Bool.and_false, Bool.false_and, true_and, and_true, Nat.sub_self, Nat.succ_eq_add_one, flat, Nat.reduceLeDiff, Int.reduceLE, Int.reduceLT, Int.reduceEq, ne_eq, not_false_eq_true, s10, la_2, la_3, la_4, la_5, la_6, la_7, la_8, la_9, la_10, la_11, la_12, la_13, la_14, la_15, la_16, la_18, la_19, la_20, la_21, la_24, la_25, la_28, la_30, la_35, la_36, la_39, la_40, la_41, la_44, la_45, la_49, la_50, la_52, la_54, la_57, la_63, la_64, la_65, la_72, la_78, la_81, la_90, la_100, la_121, la_123, la_125, la_126, la_144, la_162, la_168, la_176, la_196, la_200, la_216, la_240, la_360, la_369, la_400, la_402, la_441, la_540, la_550, la_900, la_907, la_997, la_1009, la_1100, la_1152, la_1440, la_1764, la_2001, la_2003, la_2200, la_3150, la_4099, la_16807, la_22500, la_24200, la_72600, Nat.reduceLT, ↓ix_t0, ↓ix_t1, ↓ix_t2, ↓ix_t3, ↓ix_t4, ↓ix_t5, ↓ix_t6, ↓ix_l0, ↓ix_l1, ↓ix_l2, ↓ix_l3, ↓ix_l4, ↓ix_l5, ↓ix_l6, ↓add_ttz, ↓isT_tz, ↓sl_tz, isN_non, isN_tup, isN_lst, isN_int, isN_str, isN_bl, isN_fr, isN_tz, ↓hS.eq_1, ↓hS.eq_2, ↓hS.eq_3, ↓hS.eq_4, hE, hB, ↓hide.eq_1, ↓hide.eq_2, isS, Nat.reduceBEq, Bool.or_true, Bool.or_false, Bool.true_or, Bool.false_or, beq_self_eq_true, not_true_eq_false, Int.cast_ofNat_Int])
section
variable {k : Nat} {X : Nat → Prop} {Q : Val → Prop}

abbrev S20 : Nat := Po.dep 6 60 (Po.pell 6 * (17 + 60 + 7)) (60 + 1) + 3 * 60 + 10
theorem p_told {p : Po} (hp : Po.B 6 60 p) (h0 : ¬ Po.Free p → Q (.d (.str "refused"))) (h : Po.Free p → ∀ cs : List Rat, Po.RR p cs → (∀ q ∈ cs, Sz S20 q) → cs.length ≤ 16777216 → Q (.own (cs.map fr))) : sem fns (k + 10) 46 [tz p.l] X Q := by
  refine sem_at rfl ⟨rfl, ?_⟩
  (simp only [b__law_told]; walk_at "s")
  refine p_cuts_of hp (by decide) (by decide) rfl (by decide) rfl (by decide +kernel) (by decide +kernel) (fun hf => ?_) (fun hf fb cs rr cz cl _ => ?_)
  · (simp only [b__law_told_1]; walk_at "s")
    exact h0 hf
  · (simp only [b__law_told_1]; walk_at "s")
    exact h hf cs rr cz cl
theorem p_l2 {p : Po} {cs : List Rat} {o : Option Val} (hp : Po.B 6 60 p) (hf : Po.Free p) (rr : Po.RR p cs) (cz : ∀ q ∈ cs, Sz S20 q) (cl : cs.length ≤ 16777216) {ns : List Int} (h : Q (.d (.bool true))) :
    wS (sem fns (k + 10)) b_law_2 [some (.d (.list (ns.map .int))), some (.d (tz p.l)), some (.own (cs.map fr)), o] { nx := fun _ => Q (.d .none), rt := Q, ex := fun c _ => X c } := by
  (simp only [b_law_2]; walk_at "s")
  refine p_roots_right hp hf.1 cz (by decide) (by decide +kernel) cl fun w hw => ?_
  have w1 := hw.mpr rr
  subst w1
  walk_at "s"
  refine p_cuts_of hp (by decide) (by decide) rfl (by decide) rfl (by decide +kernel) (by decide +kernel) (fun nf => absurd hf nf) (fun _ fb cs2 rr2 cz2 cl2 _ => ?_)
  walk_at "s"
  refine p_roots_right hp hf.1 cz2 (by decide) (by decide +kernel) cl2 fun w hw => ?_
  have w1 := hw.mpr rr2
  subst w1
  walk_at "s"
  exact h
theorem p_l3 {p : Po} (hp : Po.B 6 60 p) {ns : List Int} {o1 o2 : Option Val} (h : Q (.d (.bool true))) :
    wS (sem fns (k + 11)) b_law_3 [some (.d (.list (ns.map .int))), some (.d (tz p.l)), o1, o2] { nx := fun _ => Q (.d .none), rt := Q, ex := fun c _ => X c } := by
  (simp only [b_law_3]; walk_at "s")
  refine p_told hp (fun nf => ?_) fun hf cs rr cz cl => ?_
  · walk_at "s"
    refine p_lfree hp (by decide) (by decide) (by decide) fun w hw => ?_
    cases w with
    | true => exact absurd (hw.mp rfl) nf
    | false =>
      walk_at "s"
      exact ⟨by decide +kernel, by decide +kernel, (show PyData.eqv (.str (Str.ofString "refused")) (.str (Str.ofString "refused")) = true by decide +kernel) ▸ h⟩
  · walk_at "s"
    refine p_lfree hp (by decide) (by decide) (by decide) fun w hw => ?_
    have w1 := hw.mpr hf
    subst w1
    walk_at "s"
    refine forP_at (fun ε => ∃ o, ε = [some (.d (.list (ns.map .int))), some (.d (tz p.l)), some (.own (cs.map fr)), o]) (fun x hx ε ⟨o, e⟩ K hK => ?_) (fun ε ⟨o, e⟩ => by subst e; rfl) ⟨_, rfl⟩ fun ε ⟨o, e⟩ => ?_
    · subst e
      obtain ⟨q, _, rfl⟩ := List.mem_map.mp hx
      (simp only [c_law_1]; walk_at "s")
      rw [if_neg (by have := denP q; omega)]
      refine p_rgcd ?_
      walk_at "s"
      rw [fr_gcd q]
      exact hK _ ⟨_, rfl⟩
    · subst e
      exact p_l2 hp hf rr cz cl h
theorem p_l4 {p : Po} (hp : Po.B 6 60 p) {ns : List Int} (h : Q (.d (.bool true))) :
    wS (sem fns (k + 11)) b_law_4 [some (.d (.list (ns.map .int))), some (.d (tz p.l)), none, none] { nx := fun _ => Q (.d .none), rt := Q, ex := fun c _ => X c } := by
  (simp only [b_law_4]; walk_at "s")
  refine p_cell ?_
  walk_at "s"
  split
  · have := p_l3 (k := k) (X := X) (Q := Q) (p := 0) Po.B.zero (ns := ns) (o1 := none) (o2 := none) h
    exact this
  · exact p_l3 hp h
theorem p_law {ns : List Int} (h : Q (.d (.bool true))) : sem fns (k + 12) 47 [.list (ns.map .int)] X Q := by
  refine sem_at rfl ⟨rfl, ?_⟩
  (simp only [b_law]; walk_at "s")
  refine p_cell (i := 0) ?_
  walk_at "s"
  refine q_poly16 fun a h1 h2 h3 h4 => ?_
  walk_at "s"
  refine p_cell (i := 0) ?_
  walk_at "s"
  split
  · refine p_cell (i := 0) ?_
    walk_at "s"
    refine p_lproduct fun e qs e0 _ hB _ => ?_
    walk_at "s"
    exact p_l4 (hB.mono (by decide) (by decide)) h
  · exact p_l4 (p := ⟨a, pn_of_last h2⟩) (Po.B.of ⟨h4, fun x hx => (h3 x hx).mono (by decide)⟩) h
end
theorem holds : PySem.Challenge.rw_rootcourt_k20_cuts_told.Holds :=
  holds_of 11 ⟨rfl, by decide, by decide⟩ fun ns hl _ => p_law (k := 0) rfl

end K20

theorem PySem.Challenge.cw_rootcourt_k20_cuts_told_holds : PySem.Challenge.rw_rootcourt_k20_cuts_told.Holds := by
  exact K20.holds

