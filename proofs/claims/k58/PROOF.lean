import PyProof.Rows.All
import Wide.All
import OpenK.AllK
import Wide.FinOn
import HandS.ForMost
import HandS.Wide
import HandS.Gcd
import HandS.IsInst
import HandS.TupAny
import HandS.TupMul
import HandS.Conv
import HandS.Zip
import HandS.Walk
import HandS.WideBits
import HandS.SortInts
import KE.GoesEnum
import HandS.Style
import HandS.Comp
import PySem.Challenge.RW_hardbits_k58_whole_sums_that_are_split
set_option Elab.async false
set_option linter.all false
set_option maxRecDepth 100000
/-! Ev: an evaluator of a small part of Python on plain data -/
namespace Ev
open PySem PySem.Spec
open PyProof.Rows L2

/-! ### data -/
inductive D where
  | non | bl (b : Bool) | int (i : Int) | str (s : Str) | tup (xs : List D) | lst (xs : List D) | ref (n : Nat) | gl (g : Nat) | scr (xs : List D)
  deriving Inhabited
mutual
def D.beq : D → D → Bool
  | .non, .non => true
  | .bl a, .bl b => a == b
  | .int a, .int b => a == b
  | .str a, .str b => decide (a = b)
  | .tup a, .tup b => D.beqs a b
  | .lst a, .lst b => D.beqs a b
  | .ref a, .ref b => a == b
  | .gl a, .gl b => a == b
  | .scr a, .scr b => D.beqs a b
  | _, _ => false
def D.beqs : List D → List D → Bool
  | [], [] => true
  | a :: as, b :: bs => D.beq a b && D.beqs as bs
  | _, _ => false
end
mutual
theorem D.eq_of_beq : ∀ {a b : D}, D.beq a b = true → a = b
  | .non, b, h => by cases b <;> first | rfl | simp [D.beq] at h
  | .bl x, b, h => by cases b <;> simp_all [D.beq]
  | .int x, b, h => by cases b <;> simp_all [D.beq]
  | .str x, b, h => by cases b <;> simp_all [D.beq]
  | .tup x, b, h => by
    cases b with
    | tup y => rw [D.eqs_of_beqs (a := x) (b := y) (by simpa [D.beq] using h)]
    | _ => simp [D.beq] at h
  | .lst x, b, h => by
    cases b with
    | lst y => rw [D.eqs_of_beqs (a := x) (b := y) (by simpa [D.beq] using h)]
    | _ => simp [D.beq] at h
  | .ref x, b, h => by cases b <;> simp_all [D.beq]
  | .gl x, b, h => by cases b <;> simp_all [D.beq]
  | .scr x, b, h => by
    cases b with
    | scr y => rw [D.eqs_of_beqs (a := x) (b := y) (by simpa [D.beq] using h)]
    | _ => simp [D.beq] at h
theorem D.eqs_of_beqs : ∀ {a b : List D}, D.beqs a b = true → a = b
  | [], b, h => by cases b <;> first | rfl | simp [D.beqs] at h
  | x :: xs, b, h => by
    cases b with
    | nil => simp [D.beqs] at h
    | cons y ys =>
      simp only [D.beqs, Bool.and_eq_true] at h
      rw [D.eq_of_beq h.1, D.eqs_of_beqs h.2]
end
mutual
theorem D.beq_self : ∀ (a : D), D.beq a a = true
  | .non => rfl
  | .bl x => by simp [D.beq]
  | .int x => by simp [D.beq]
  | .str x => by simp [D.beq]
  | .tup x => by simp [D.beq, D.beqs_self x]
  | .lst x => by simp [D.beq, D.beqs_self x]
  | .ref x => by simp [D.beq]
  | .gl x => by simp [D.beq]
  | .scr x => by simp [D.beq, D.beqs_self x]
theorem D.beqs_self : ∀ (a : List D), D.beqs a a = true
  | [] => rfl
  | x :: xs => by simp [D.beqs, D.beq_self x, D.beqs_self xs]
end
instance : DecidableEq D := fun a b => if h : D.beq a b = true then isTrue (D.eq_of_beq h) else isFalse (fun e => h (e ▸ D.beq_self a))

inductive Cell where
  | lst (xs : List D)
  | obj (c : Nat) (fs : List (Nat × D))
  deriving DecidableEq
abbrev Store := List Cell
abbrev Env := List (Option D)
inductive Rs (α : Type) where
  | ok (a : α) (S : Store)
  | exc (c : Nat) (d : D) (S : Store)
  | no
abbrev M (α : Type) := Store → Rs α
def ret {α : Type} (a : α) : M α := fun S => .ok a S
def stk {α : Type} : M α := fun _ => .no
def bnd {α β : Type} (m : M α) (f : α → M β) : M β := fun S => match m S with
  | .ok a S' => f a S'
  | .exc c d S' => .exc c d S'
  | .no => .no
def opt {α : Type} : Option α → M α
  | some a => ret a
  | none => stk
def guard {α : Type} (b : Bool) (m : M α) : M α := if b = true then m else stk

/-! ### syntax -/
inductive Op2 where
  | add | sub | mul | fdiv | mod | pow | shl | shr | band | bor | bxor
  deriving DecidableEq
inductive Cm where
  | eq | ne | lt | le | gt | ge | is_ | isnot | in_ | notin
  deriving DecidableEq
inductive Ty where
  | tNone | tBool | tInt | tStr | tTuple | tList | tDict
  deriving DecidableEq
inductive Bi where
  | len | int | abs | max2 | min2 | maxL | minL | sum | all | any | list | tuple | isinst (t : Ty) | gcd | divmod | listRg | tupRg | sortedI | bool
  deriving DecidableEq
inductive Mt where
  | append | extend | pop | bits
  deriving DecidableEq
inductive SK where
  | vl | rg1 | rg2 | en | zp | zp3 | enzp
  deriving DecidableEq
/-- a target of names -/
inductive Tn where
  | nm (i : Nat)
  | tp (ts : List Tn)
inductive Ex where
  | int (i : Int) | bl (b : Bool) | non | str (s : Str)
  | var (i : Nat)
  | gl (g : Nat)
  | bin (o : Op2) (m : Bool) (a b : Ex)
  | neg (a : Ex)
  | not (a : Ex) | and (a b : Ex) | or (a b : Ex)
  | cmp (o : Cm) (a b : Ex) | chain (o o' : Cm) (a b c : Ex)
  | ite (c a b : Ex)
  | tup (xs : List Ex) | lst (m : Bool) (xs : List Ex)
  | ix (a b : Ex)
  | slA (m : Bool) (a : Ex) | slL (m : Bool) (a lo : Ex) | slH (m : Bool) (a hi : Ex) | slLH (m : Bool) (a lo hi : Ex) | rev (m : Bool) (a : Ex)
  | call (g : Nat) (args : List Ex)
  | bi (b : Bi) (m : Bool) (args : List Ex)
  | mt (k : Mt) (o : Ex) (args : List Ex)
  | comp (m : Bool) (own : List Nat) (t : Tn) (k : SK) (src : List Ex) (ifs : List Ex) (e : Ex)
/-- a target of an assignment -/
inductive Tg where
  | nm (i : Nat)
  | tp (ts : List Tg)
  | ix (o i : Ex)
inductive Sm where
  | asg (t : Tg) (e : Ex)
  | par (is : List Nat) (es : List Ex)
  | aug (i : Nat) (o : Op2) (e : Ex)
  | augIx (o i : Ex) (op : Op2) (e : Ex)
  | expr (e : Ex)
  | ret (e : Ex) | retN
  | ite (c : Ex) (a b : List Sm)
  | for_ (t : Tn) (k : SK) (src : List Ex) (body : List Sm)
  | while_ (c : Ex) (body : List Sm)
  | pass | brk | cont
  | never
inductive Fl where
  | nx (env : Env) | rt (d : D) | bk (env : Env) | ct (env : Env)

/-! ### values -/
def LIM : Nat := 16777216
/-- the items of a list or a tuple -/
def seqOf (S : Store) : D → Option (List D)
  | .tup xs => some xs
  | .lst xs => some xs
  | .scr xs => some xs
  | .ref n => match S[n]? with
    | some (.lst xs) => some xs
    | _ => none
  | _ => none
def lstOf (S : Store) : D → Option (List D)
  | .lst xs => some xs
  | .ref n => match S[n]? with
    | some (.lst xs) => some xs
    | _ => none
  | _ => none
def intOf : D → Option Int
  | .int i => some i
  | _ => none
def blOf : D → Option Bool
  | .bl b => some b
  | _ => none
def intsOf : List D → Option (List Int)
  | [] => some []
  | .int i :: r => (intsOf r).map (i :: ·)
  | _ :: _ => none
def blsOf : List D → Option (List Bool)
  | [] => some []
  | .bl i :: r => (blsOf r).map (i :: ·)
  | _ :: _ => none
/-- at most n levels -/
def shal : Nat → D → Bool
  | n + 1, .tup xs => shals n xs
  | n + 1, .lst xs => shals n xs
  | 0, .tup _ => false
  | 0, .lst _ => false
  | _, .non => true
  | _, .bl _ => true
  | _, .int _ => true
  | _, .str s => s.cps.toList.all fun c => Nat.blt c 1114112
  | _, .ref _ => false
  | _, .gl _ => false
  | _, .scr _ => false
where shals : Nat → List D → Bool
  | _, [] => true
  | n, x :: xs => shal n x && shals n xs
end Ev
namespace Ev
open PySem PySem.Spec
open PyProof.Rows L2

/-! ### what the kernel is to reckon at once -/
def natK {α : Type} (n : Nat) (k : Nat → α) : α := match n with
  | 0 => k 0
  | m + 1 => k (m + 1)
def intK {α : Type} (i : Int) (k : Int → α) : α := match i with
  | .ofNat n => natK n fun n => k (.ofNat n)
  | .negSucc n => natK n fun n => k (.negSucc n)
def lsK {β α : Type} : List β → (List β → α) → α
  | [], k => k []
  | x :: xs, k => lsK xs fun ys => k (x :: ys)
@[simp] theorem natK_eq {α : Type} (n : Nat) (k : Nat → α) : natK n k = k n := by cases n <;> rfl
@[simp] theorem intK_eq {α : Type} (i : Int) (k : Int → α) : intK i k = k i := by cases i <;> simp [intK]
@[simp] theorem lsK_eq {β α : Type} (xs : List β) (k : List β → α) : lsK xs k = k xs := by
  induction xs generalizing k with
  | nil => rfl
  | cons x xs ih => simp [lsK, ih]
def oInt (i : Int) : Option D := intK i fun i => some (.int i)
def rInt (i : Int) (S : Store) : Rs D := intK i fun i => .ok (.int i) S
@[simp] theorem oInt_eq (i : Int) : oInt i = some (.int i) := by simp [oInt]
@[simp] theorem rInt_eq (i : Int) (S : Store) : rInt i S = .ok (.int i) S := by simp [rInt]

def nth {α : Type} : List α → Nat → Option α
  | [], _ => none
  | x :: _, 0 => some x
  | _ :: r, n + 1 => nth r n
@[simp] theorem nth_eq {α : Type} (xs : List α) (n : Nat) : nth xs n = xs[n]? := by
  induction xs generalizing n with
  | nil => simp [nth]
  | cons x r ih => cases n <;> simp [nth, ih]
def leI : Int → Int → Bool
  | .ofNat a, .ofNat b => Nat.ble a b
  | .negSucc _, .ofNat _ => true
  | .ofNat _, .negSucc _ => false
  | .negSucc a, .negSucc b => Nat.ble b a
@[simp] theorem leI_eq (a b : Int) : leI a b = decide (a ≤ b) := by
  cases a with
  | ofNat a => cases b with
    | ofNat b =>
      show Nat.ble a b = decide ((a : Int) ≤ (b : Int))
      rw [Bool.eq_iff_iff, Nat.ble_eq, decide_eq_true_eq]; omega
    | negSucc b =>
      show false = decide ((a : Int) ≤ Int.negSucc b)
      rw [Bool.eq_iff_iff, decide_eq_true_eq]; simp; omega
  | negSucc a => cases b with
    | ofNat b =>
      show true = decide (Int.negSucc a ≤ (b : Int))
      rw [Bool.eq_iff_iff, decide_eq_true_eq]; simp; omega
    | negSucc b =>
      show Nat.ble b a = decide (Int.negSucc a ≤ Int.negSucc b)
      rw [Bool.eq_iff_iff, Nat.ble_eq, decide_eq_true_eq]; omega
def ltI (a b : Int) : Bool := !leI b a
@[simp] theorem ltI_eq (a b : Int) : ltI a b = decide (a < b) := by
  rw [ltI, leI_eq, Bool.eq_iff_iff]; simp

/-! ### operations -/
mutual
def eqv : D → D → Bool
  | .non, .non => true
  | .bl a, .bl b => a == b
  | .bl a, .int j => (if a then 1 else 0) == j
  | .int i, .bl b => i == (if b then 1 else 0)
  | .int i, .int j => i == j
  | .str x, .str y => x == y
  | .lst xs, .lst ys => eqvs xs ys
  | .tup xs, .tup ys => eqvs xs ys
  | _, _ => false
def eqvs : List D → List D → Bool
  | [], [] => true
  | x :: xs, y :: ys => eqv x y && eqvs xs ys
  | _, _ => false
end
/-- a list in the store as a tree -/
def top (S : Store) : D → D
  | .ref n => match S[n]? with
    | some (.lst xs) => .lst xs
    | _ => .ref n
  | d => d
def big2 (i j : Int) : Bool := decide (i.natAbs.log2 + j.natAbs.log2 < 1000000)
def divOk (j : Int) : Bool := j != 0 && decide (j.natAbs.log2 < 9000)
def op2 (S : Store) : Op2 → D → D → Option D
  | .add, .int i, .int j => oInt (i + j)
  | .sub, .int i, .int j => oInt (i - j)
  | .sub, .bl i, .bl j => oInt ((if i then 1 else 0) - (if j then 1 else 0))
  | .mul, .int i, .int j => if big2 i j then oInt (i * j) else none
  | .fdiv, .int i, .int j => if divOk j then oInt (if 0 < j then i / j else i.fdiv j) else none
  | .mod, .int i, .int j => if j != 0 then oInt (if 0 < j then i % j else i.fmod j) else none
  | .pow, .int i, .int j => if decide (0 ≤ j) && decide ((Builtin.Int.intBits i : Int) * j ≤ 134217728) then oInt (i ^ j.toNat) else none
  | .shl, .int i, .int j => if decide (0 ≤ j) && decide (j ≤ 1000000) && decide (i.natAbs < 2 ^ 64) then oInt (i * 2 ^ j.toNat) else none
  | .shr, .int i, .int j => if decide (0 ≤ j) then oInt (i / 2 ^ j.toNat) else none
  | .band, .int i, .int j => oInt (Builtin.bitAnd i j)
  | .bor, .int i, .int j => oInt (Builtin.bitOr i j)
  | .bxor, .int i, .int j => oInt (Builtin.bitXor i j)
  | .add, .tup xs, .tup ys => if xs.length + ys.length ≤ LIM then lsK (xs ++ ys) fun zs => some (.tup zs) else none
  | .mul, .tup xs, .int k => if !xs.isEmpty && decide (2 ≤ k) && decide (k ≤ 1000) && decide (xs.length ≤ 1000) then lsK (List.replicate k.toNat xs).flatten fun zs => some (.tup zs) else none
  | _, _, _ => none
/-- the lists among them: a new list -/
def op2L (S : Store) : Op2 → D → D → Option (List D)
  | .add, a, b => (lstOf S a).bind fun xs => (lstOf S b).bind fun ys => if xs.length + ys.length ≤ LIM then some (xs ++ ys) else none
  | .mul, a, .int k => (lstOf S a).bind fun xs => if decide (-(2 ^ 63) ≤ k) && decide (k < 2 ^ 63) && decide (xs.length * k.toNat ≤ LIM) then some (List.replicate k.toNat xs).flatten else none
  | _, _, _ => none
def alloc (c : Cell) : M D := fun S => natK S.length fun n => lsK (S ++ [c]) fun S' => .ok (.ref n) S'
/-- a new list: a tree, or in the store -/
def mkL (m : Bool) (xs : List D) : M D := lsK xs fun xs => if m then alloc (.lst xs) else ret (.lst xs)
def doOp (o : Op2) (m : Bool) (a b : D) : M D := fun S => match op2 S o a b with
  | some d => .ok d S
  | none => match op2L S o a b with
    | some xs => mkL m xs S
    | none => .no
def isNon : D → Bool
  | .non => true
  | _ => false
def cmp2 (S : Store) : Cm → D → D → Option Bool
  | .eq, a, b => if shal 40 (top S a) && shal 40 (top S b) then some (eqv (top S a) (top S b)) else none
  | .ne, a, b => if shal 40 (top S a) && shal 40 (top S b) then some (!eqv (top S a) (top S b)) else none
  | .lt, .int i, .int j => some (ltI i j)
  | .le, .int i, .int j => some (leI i j)
  | .gt, .int i, .int j => some (ltI j i)
  | .ge, .int i, .int j => some (leI j i)
  | .is_, a, .non => some (isNon a)
  | .isnot, a, .non => some (!isNon a)
  | .in_, a, b => (seqOf S b).bind fun ys => if shal 0 a && shal.shals 0 ys then some (ys.any fun y => eqv y a) else none
  | .notin, a, b => (seqOf S b).bind fun ys => if shal 0 a && shal.shals 0 ys then some (!ys.any fun y => eqv y a) else none
  | _, _, _ => none
def doCmp (o : Cm) (a b : D) : M D := fun S => match cmp2 S o a b with
  | some r => .ok (.bl r) S
  | none => .no
def ixI (n : Nat) (i : Int) : Option Nat := if 0 ≤ i then (if i < n then some i.toNat else none) else if -(n : Int) ≤ i then some (i + n).toNat else none
def doIx (a b : D) : M D := fun S => match seqOf S a, b with
  | some xs, .int i => match (ixI xs.length i).bind fun j => nth xs j with
    | some d => .ok d S
    | none => .no
  | _, _ => .no
/-- a slice's bound -/
def sB (n d : Nat) : Option Int → Nat
  | none => d
  | some v => if v < 0 then (v + (n : Int)).toNat else min v.toNat n
def cutD (xs : List D) (lo hi : Option Int) : List D := (xs.drop (sB xs.length 0 lo)).take (sB xs.length xs.length hi - sB xs.length 0 lo)
def doSl (m : Bool) (a : D) (lo hi : Option Int) : M D := fun S => match a with
  | .tup xs => lsK (cutD xs lo hi) fun ys => .ok (.tup ys) S
  | a => match lstOf S a with
    | some xs => mkL m (cutD xs lo hi) S
    | none => .no
def doRev (m : Bool) (a : D) : M D := fun S => match a with
  | .tup xs => lsK xs.reverse fun ys => .ok (.tup ys) S
  | a => match lstOf S a with
    | some xs => mkL m xs.reverse S
    | none => .no
def tyOf (S : Store) : D → Option Ty
  | .non => some .tNone
  | .bl _ => some .tBool
  | .int _ => some .tInt
  | .str _ => some .tStr
  | .tup _ => some .tTuple
  | .lst _ => some .tList
  | .ref n => match S[n]? with | some (.lst _) => some .tList | _ => none
  | .gl _ => none
  | .scr _ => none
def isI (t u : Ty) : Bool := match t, u with
  | .tNone, .tNone => true
  | .tBool, .tBool => true
  | .tBool, .tInt => true
  | .tInt, .tInt => true
  | .tStr, .tStr => true
  | .tTuple, .tTuple => true
  | .tList, .tList => true
  | .tDict, .tDict => true
  | _, _ => false
def maxI : Int → List Int → Int
  | a, [] => a
  | a, b :: r => maxI (if a < b then b else a) r
def minI : Int → List Int → Int
  | a, [] => a
  | a, b :: r => minI (if b < a then b else a) r
def insI (x : Int) : List Int → List Int
  | [] => [x]
  | y :: r => if x ≤ y then x :: y :: r else y :: insI x r
def sortI : List Int → List Int
  | [] => []
  | x :: r => insI x (sortI r)
def rgF (a : Int) : Nat → List Int
  | 0 => []
  | n + 1 => intK a fun a => a :: rgF (a + 1) n
def rgI (a b : Int) : List Int := rgF a (b - a).toNat
def rgOk (a b : Int) : Bool := leI (-4611686018427387904) a && leI a 4611686018427387903 && leI (-4611686018427387904) b && leI b 4611686018427387903 && Nat.ble (b - a).toNat LIM
def doBi (k : Bi) (m : Bool) (as : List D) : M D := fun S => match k, as with
  | .len, [a] => match seqOf S a with | some xs => rInt (xs.length) S | none => .no
  | .int, [.int i] => rInt i S
  | .int, [.bl b] => rInt (if b then 1 else 0) S
  | .abs, [.int i] => rInt (if i < 0 then -i else i) S
  | .max2, [.int i, .int j] => rInt (if j > i then j else i) S
  | .min2, [.int i, .int j] => rInt (if j < i then j else i) S
  | .maxL, [a] => match lstOf S a with
    | some xs => match intsOf xs with | some (i :: r) => rInt (maxI i r) S | _ => .no
    | none => .no
  | .minL, [a] => match lstOf S a with
    | some xs => match intsOf xs with | some (i :: r) => rInt (minI i r) S | _ => .no
    | none => .no
  | .sum, [a] => match seqOf S a with
    | some xs => match intsOf xs with | some is => rInt (is.sum) S | _ => .no
    | none => .no
  | .all, [a] => match lstOf S a with
    | some xs => match blsOf xs with | some bs => .ok (.bl (bs.all id)) S | _ => .no
    | none => .no
  | .any, [a] => match lstOf S a with
    | some xs => match blsOf xs with | some bs => .ok (.bl (bs.any id)) S | _ => .no
    | none => .no
  | .list, [a] => match seqOf S a with | some xs => mkL m xs S | none => .no
  | .tuple, [a] => match seqOf S a with | some xs => .ok (.tup xs) S | none => .no
  | .isinst t, [a] => match tyOf S a with | some u => .ok (.bl (isI u t)) S | none => .no
  | .gcd, [.int i, .int j] => rInt ((Nat.gcd i.natAbs j.natAbs : Nat) : Int) S
  | .divmod, [.int i, .int j] => if decide (0 < j) && decide (j < 1073741824) then intK (i / j) fun q => intK (i % j) fun r => .ok (.tup [.int q, .int r]) S else .no
  | .listRg, [.int b] => if rgOk 0 b then mkL m ((rgI 0 b).map D.int) S else .no
  | .listRg, [.int a, .int b] => if rgOk a b then mkL m ((rgI a b).map D.int) S else .no
  | .tupRg, [.int b] => if rgOk 0 b then lsK ((rgI 0 b).map D.int) fun ys => .ok (.tup ys) S else .no
  | .tupRg, [.int a, .int b] => if rgOk a b then lsK ((rgI a b).map D.int) fun ys => .ok (.tup ys) S else .no
  | .sortedI, [a] => match lstOf S a with
    | some xs => match intsOf xs with | some is => mkL m ((sortI is).map D.int) S | _ => .no
    | none => .no
  | _, _ => .no
/-- a store to a list in the store -/
def putL (n : Nat) (f : List D → Option (List D × D)) : M D := fun S => match S[n]? with
  | some (.lst xs) => match f xs with
    | some (ys, d) => lsK ys fun ys => lsK (S.set n (.lst ys)) fun S' => .ok d S'
    | none => .no
  | _ => .no
def doMt (k : Mt) (o : D) (as : List D) : M D := match k, o, as with
  | .append, .ref n, [d] => putL n fun xs => if xs.length < LIM then some (xs ++ [d], .non) else none
  | .extend, .ref n, [a] => fun S => match lstOf S a with
    | some ys => putL n (fun xs => if xs.length + ys.length ≤ LIM then some (xs ++ ys, .non) else none) S
    | none => .no
  | .pop, .ref n, [] => putL n fun xs => match xs[xs.length - 1]? with | some d => some (xs.dropLast, d) | none => none
  | .bits, .int i, [] => ret (.int (Builtin.Int.intBits i))
  | _, _, _ => stk
def setIx (o i v : D) : M Unit := match o, i with
  | .ref n, .int k => fun S => match S[n]? with
    | some (.lst xs) => match ixI xs.length k with
      | some j => lsK (xs.set j v) fun ys => lsK (S.set n (.lst ys)) fun S' => .ok () S'
      | none => .no
    | _ => .no
  | _, _ => stk

/-! ### what is walked -/
abbrev Deps := List (Nat × List D)
def depOk (ds : Deps) (S : Store) : Bool := ds.all fun p => decide (S[p.1]? = some (.lst p.2))
def seqD (S : Store) (a : D) : Option (List D × Deps) := match a with
  | .ref n => (seqOf S a).map fun xs => (xs, [(n, xs)])
  | _ => (seqOf S a).map fun xs => (xs, [])
def enumD (xs : List D) : Nat → List D
  | n => match xs with
    | [] => []
    | x :: r => natK n fun n => .tup [.int n, x] :: enumD r (n + 1)
def zipD : List D → List D → List D
  | x :: xs, y :: ys => .tup [x, y] :: zipD xs ys
  | _, _ => []
def zip3D : List D → List D → List D → List D
  | x :: xs, y :: ys, z :: zs => .tup [x, y, z] :: zip3D xs ys zs
  | _, _, _ => []
def srcOf (k : SK) (as : List D) (S : Store) : Option (List D × Deps) := match k, as with
  | .vl, [a] => seqD S a
  | .rg1, [.int b] => if rgOk 0 b then some ((rgI 0 b).map D.int, []) else none
  | .rg2, [.int a, .int b] => if rgOk a b then some ((rgI a b).map D.int, []) else none
  | .en, [a] => (seqD S a).map fun p => (enumD p.1 0, p.2)
  | .zp, [a, b] => (seqD S a).bind fun p => (seqD S b).map fun q => (zipD p.1 q.1, p.2 ++ q.2)
  | .zp3, [a, b, c] => (seqD S a).bind fun p => (seqD S b).bind fun q => (seqD S c).map fun r => (zip3D p.1 q.1 r.1, p.2 ++ q.2 ++ r.2)
  | .enzp, [a, b] => (seqD S a).bind fun p => (seqD S b).map fun q => (enumD (zipD p.1 q.1) 0, p.2 ++ q.2)
  | _, _ => none
mutual
def asgT : Tn → D → Env → Option Env
  | .nm i, d, env => lsK (env.set i (some d)) some
  | .tp ts, .tup xs, env => asgTs ts xs env
  | .tp _, _, _ => none
def asgTs : List Tn → List D → Env → Option Env
  | [], [], env => some env
  | t :: ts, x :: xs, env => (asgT t x env).bind fun e => asgTs ts xs e
  | _, _, _ => none
end
def wipeD (env : Env) : List Nat → Env
  | [] => env
  | v :: vs => (wipeD env vs).set v none
/-- the turns of a comprehension -/
def compL (ds : Deps) (f : D → M (Option D)) : List D → List D → M (List D)
  | [], acc => fun S => if depOk ds S then .ok acc S else .no
  | x :: xs, acc => fun S => if depOk ds S then
      match f x S with
      | .ok (some d) S' => compL ds f xs (acc ++ [d]) S'
      | .ok none S' => compL ds f xs acc S'
      | .exc c d S' => .exc c d S'
      | .no => .no
    else .no
def forL (ds : Deps) (f : D → Env → M Fl) : List D → Env → M Fl
  | [], env => fun S => if depOk ds S then .ok (.nx env) S else .no
  | x :: xs, env => fun S => if depOk ds S then
      match f x env S with
      | .ok (.nx e) S' => forL ds f xs e S'
      | .ok (.ct e) S' => forL ds f xs e S'
      | .ok (.bk e) S' => .ok (.nx e) S'
      | .ok (.rt d) S' => .ok (.rt d) S'
      | .exc c d S' => .exc c d S'
      | .no => .no
    else .no
def whileL (c : Env → M D) (f : Env → M Fl) : Nat → Env → M Fl
  | 0, _ => stk
  | n + 1, env => fun S => match c env S with
    | .ok (.bl true) S1 => match f env S1 with
      | .ok (.nx e) S' => whileL c f n e S'
      | .ok (.ct e) S' => whileL c f n e S'
      | .ok (.bk e) S' => .ok (.nx e) S'
      | .ok (.rt d) S' => .ok (.rt d) S'
      | .exc c d S' => .exc c d S'
      | .no => .no
    | .ok (.bl false) S1 => .ok (.nx env) S1
    | .exc c d S' => .exc c d S'
    | _ => .no

/-! ### the evaluator: gv: the module's values, cl: calls -/
structure Ctx where
  gv : Nat → Option D
  cl : Nat → List D → M D
  fuel : Nat
def getV (i : Nat) (env : Env) : M D := fun S => match nth env i with
  | some (some d) => .ok d S
  | _ => .no
def tst (d : D) (a b : M D) : M D := match d with
  | .bl true => a
  | .bl false => b
  | _ => stk
def boolR (d : D) : M D := match d with
  | .bl b => ret (.bl b)
  | _ => stk
abbrev EM (α : Type) := Env → M α
def kRet (d : D) : EM D := fun _ => ret d
def kBin (o : Op2) (m : Bool) (a b : EM D) : EM D := fun env => bnd (a env) fun x => bnd (b env) fun y => doOp o m x y
def kNeg (a : EM D) : EM D := fun env => bnd (a env) fun x => match x with | .int i => rInt (-i) | _ => stk
def kNot (a : EM D) : EM D := fun env => bnd (a env) fun x => match x with | .bl b => ret (.bl (!b)) | _ => stk
def kAnd (a b : EM D) : EM D := fun env => bnd (a env) fun x => tst x (bnd (b env) boolR) (ret (.bl false))
def kOr (a b : EM D) : EM D := fun env => bnd (a env) fun x => tst x (ret (.bl true)) (bnd (b env) boolR)
def kCmp (o : Cm) (a b : EM D) : EM D := fun env => bnd (a env) fun x => bnd (b env) fun y => doCmp o x y
def kChain (o o' : Cm) (a b c : EM D) : EM D := fun env => bnd (a env) fun x => bnd (b env) fun y => bnd (doCmp o x y) fun r => tst r (bnd (c env) fun z => doCmp o' y z) (ret (.bl false))
def kIte (c a b : EM D) : EM D := fun env => bnd (c env) fun x => tst x (a env) (b env)
def kTup (xs : EM (List D)) : EM D := fun env => bnd (xs env) fun ds => ret (.tup ds)
def kLst (m : Bool) (xs : EM (List D)) : EM D := fun env => bnd (xs env) fun ds => mkL m ds
def kIx (a b : EM D) : EM D := fun env => bnd (a env) fun x => bnd (b env) fun y => doIx x y
def kSlA (m : Bool) (a : EM D) : EM D := fun env => bnd (a env) fun x => doSl m x none none
def kSlL (m : Bool) (a lo : EM D) : EM D := fun env => bnd (a env) fun x => bnd (lo env) fun y => match y with | .int i => doSl m x (some i) none | _ => stk
def kSlH (m : Bool) (a hi : EM D) : EM D := fun env => bnd (a env) fun x => bnd (hi env) fun y => match y with | .int i => doSl m x none (some i) | _ => stk
def kSlLH (m : Bool) (a lo hi : EM D) : EM D := fun env => bnd (a env) fun x => bnd (lo env) fun y => bnd (hi env) fun z => match y, z with | .int i, .int j => doSl m x (some i) (some j) | _, _ => stk
def kRev (m : Bool) (a : EM D) : EM D := fun env => bnd (a env) fun x => doRev m x
def kCall (cl : List D → M D) (args : EM (List D)) : EM D := fun env => bnd (args env) cl
def kBi (k : Bi) (m : Bool) (args : EM (List D)) : EM D := fun env => bnd (args env) fun ds => doBi k m ds
def kMt (k : Mt) (o : EM D) (args : EM (List D)) : EM D := fun env => bnd (o env) fun x => bnd (args env) fun ds => doMt k x ds
/-- one turn of a comprehension -/
def turn (t : Tn) (ifs e : EM D) (env : Env) (x : D) : M (Option D) := match asgT t x env with
  | some env' => bnd (ifs env') fun b => match b with
    | .bl true => bnd (e env') fun d => ret (some d)
    | .bl false => ret none
    | _ => stk
  | none => stk
def kComp (m : Bool) (own : List Nat) (t : Tn) (k : SK) (src : EM (List D)) (ifs e : EM D) : EM D := fun env => bnd (src env) fun ds S => match srcOf k ds S with
  | some (xs, dp) => guard (Nat.ble xs.length LIM) (bnd (compL dp (turn t ifs e (wipeD env own)) xs []) fun ys => mkL m ys) S
  | none => .no
def kNil : EM (List D) := fun _ => ret []
def kCons (x : EM D) (xs : EM (List D)) : EM (List D) := fun env => bnd (x env) fun d => bnd (xs env) fun ds => ret (d :: ds)
def kOpt (o : Option D) : EM D := fun _ => opt o
mutual
def evE (C : Ctx) : Ex → EM D
  | .int i => kRet (.int i)
  | .bl b => kRet (.bl b)
  | .non => kRet .non
  | .str s => kRet (.str s)
  | .var i => getV i
  | .gl g => kOpt (C.gv g)
  | .bin o m a b => kBin o m (evE C a) (evE C b)
  | .neg a => kNeg (evE C a)
  | .not a => kNot (evE C a)
  | .and a b => kAnd (evE C a) (evE C b)
  | .or a b => kOr (evE C a) (evE C b)
  | .cmp o a b => kCmp o (evE C a) (evE C b)
  | .chain o o' a b c => kChain o o' (evE C a) (evE C b) (evE C c)
  | .ite c a b => kIte (evE C c) (evE C a) (evE C b)
  | .tup xs => kTup (evEs C xs)
  | .lst m xs => kLst m (evEs C xs)
  | .ix a b => kIx (evE C a) (evE C b)
  | .slA m a => kSlA m (evE C a)
  | .slL m a lo => kSlL m (evE C a) (evE C lo)
  | .slH m a hi => kSlH m (evE C a) (evE C hi)
  | .slLH m a lo hi => kSlLH m (evE C a) (evE C lo) (evE C hi)
  | .rev m a => kRev m (evE C a)
  | .call g args => kCall (C.cl g) (evEs C args)
  | .bi k m args => kBi k m (evEs C args)
  | .mt k o args => kMt k (evE C o) (evEs C args)
  | .comp m own t k src ifs e => kComp m own t k (evEs C src) (evT C ifs) (evE C e)
def evEs (C : Ctx) : List Ex → EM (List D)
  | [] => kNil
  | x :: xs => kCons (evE C x) (evEs C xs)
/-- no test, or one -/
def evT (C : Ctx) : List Ex → EM D
  | [] => kRet (.bl true)
  | x :: xs => match xs with
    | [] => evE C x
    | _ => fun _ => stk
end
def gNm (i : Nat) (d : D) : EM Env := fun env => lsK (env.set i (some d)) ret
def gIx (o i : EM D) (d : D) : EM Env := fun env => bnd (o env) fun x => bnd (i env) fun y => bnd (setIx x y d) fun _ => ret env
def gTp (f : List D → EM Env) (d : D) : EM Env := match d with
  | .tup xs => f xs
  | _ => fun _ => stk
def gNil (xs : List D) : EM Env := match xs with
  | [] => ret
  | _ => fun _ => stk
def gCons (f : D → EM Env) (g : List D → EM Env) (xs : List D) : EM Env := match xs with
  | x :: xs => fun env => bnd (f x env) fun e => g xs e
  | _ => fun _ => stk
mutual
def asgG (C : Ctx) : Tg → D → EM Env
  | .nm i => gNm i
  | .tp ts => gTp (asgGs C ts)
  | .ix o i => gIx (evE C o) (evE C i)
def asgGs (C : Ctx) : List Tg → List D → EM Env
  | [] => gNil
  | t :: ts => gCons (asgG C t) (asgGs C ts)
end
def parE : List Nat → List D → Env → Option Env
  | [], [], env => some env
  | i :: is, d :: ds, env => lsK (env.set i (some d)) (parE is ds)
  | _, _, _ => none
def sAsg (e : EM D) (g : D → EM Env) : EM Fl := fun env => bnd (e env) fun d => bnd (g d env) fun env' => ret (.nx env')
def sPar (is : List Nat) (es : EM (List D)) : EM Fl := fun env => bnd (es env) fun ds => match parE is ds env with
    | some env' => ret (.nx env')
    | none => stk
def sAug (i : Nat) (o : Op2) (e : EM D) : EM Fl := fun env => bnd (getV i env) fun x => bnd (e env) fun y => fun S => match x, y, op2 S o x y with
    | .int _, .int _, some z => lsK (env.set i (some z)) fun env => .ok (.nx env) S
    | _, _, _ => .no
def sAugIx (o i : EM D) (op : Op2) (e : EM D) : EM Fl := fun env => bnd (o env) fun x => bnd (i env) fun y => bnd (doIx x y) fun u => bnd (e env) fun v => fun S => match u, v, op2 S op u v with
    | .int _, .int _, some z => bnd (setIx x y z) (fun _ => ret (.nx env)) S
    | _, _, _ => .no
def sExpr (e : EM D) : EM Fl := fun env => bnd (e env) fun _ => ret (.nx env)
def sRet (e : EM D) : EM Fl := fun env => bnd (e env) fun d => ret (.rt d)
def sIte (c : EM D) (a b : EM Fl) : EM Fl := fun env => bnd (c env) fun x => match x with
    | .bl true => a env
    | .bl false => b env
    | _ => stk
def fTurn (t : Tn) (body : EM Fl) (x : D) : EM Fl := fun env => match asgT t x env with
          | some env' => body env'
          | none => stk
def sFor (t : Tn) (k : SK) (src : EM (List D)) (body : EM Fl) : EM Fl := fun env => bnd (src env) fun ds => fun S => match srcOf k ds S with
      | some (xs, dp) => forL dp (fTurn t body) xs env S
      | none => .no
/-- as many turns as the numbers of the frame allow -/
def envFuel : Env → Nat
  | [] => 1000
  | some (.int i) :: r => i.natAbs + envFuel r
  | _ :: r => envFuel r
def sWhile (c : EM D) (body : EM Fl) : EM Fl := fun env => whileL c body (envFuel env) env
def sNil : EM Fl := fun env => ret (.nx env)
def sCons (s ss : EM Fl) : EM Fl := fun env => bnd (s env) fun f => match f with
    | .nx env' => ss env'
    | f => ret f
mutual
def evS (C : Ctx) : Sm → EM Fl
  | .asg t e => sAsg (evE C e) (asgG C t)
  | .par is es => sPar is (evEs C es)
  | .aug i o e => sAug i o (evE C e)
  | .augIx o i op e => sAugIx (evE C o) (evE C i) op (evE C e)
  | .expr e => sExpr (evE C e)
  | .ret e => sRet (evE C e)
  | .retN => fun _ => ret (.rt .non)
  | .ite c a b => sIte (evE C c) (evSs C a) (evSs C b)
  | .for_ t k src body => sFor t k (evEs C src) (evSs C body)
  | .while_ c body => sWhile (evE C c) (evSs C body)
  | .pass => fun env => ret (.nx env)
  | .brk => fun env => ret (.bk env)
  | .cont => fun env => ret (.ct env)
  | .never => fun _ => stk
def evSs (C : Ctx) : List Sm → EM Fl
  | [] => sNil
  | s :: ss => sCons (evS C s) (evSs C ss)
end
structure FDef where
  np : Nat
  ns : Nat
  body : List Sm
/-- a def's value -/
def fnR : Fl → M D
  | .rt d => ret d
  | .nx _ => ret .non
  | _ => stk
def runF (C : Ctx) (f : FDef) (as : List D) : M D :=
  if Nat.beq as.length f.np = true then bnd (evSs C f.body (as.map some ++ List.replicate (f.ns - f.np) none)) fnR else stk
structure Prog where
  gv : Nat → Option D
  fn : List (Option FDef)
  fuel : Nat
def callF (P : Prog) : Nat → Nat → List D → M D
  | 0, _, _ => stk
  | k + 1, g, as => match nth P.fn g with
    | some (some f) => runF ⟨P.gv, callF P k, P.fuel⟩ f as
    | _ => stk
end Ev
/-! Ev against the layer: what a value is on an abstract heap -/
namespace Ev
open PySem PySem.Spec
open PyProof.Rows L2

/-- a list that nobody changes -/
def SqF (mu F : List Addr) (H : Hp) (a : Addr) (xs : List V) : Prop := H a = some (.lst xs) ∧ a ∉ mu ∧ a ∉ F
/-- the script -/
def SqS (K : PySem.W.Frag) (H : Hp) (a : Addr) (xs : List V) : Prop := (∃ o, H a = some (.frz o (.lst xs))) ∨
    ∃ (o : Obj) (its : Array Value) (n : Nat), K.lookup a = some o ∧ o.cls = .type "list" ∧ o.dict = none ∧ o.data = .seq its n ∧ its.size ≤ sizeLine ∧ Vals xs its.toList
mutual
inductive Rp (K : PySem.W.Frag) (mu F : List Addr) (H : Hp) : V → D → Prop
  | non : Rp K mu F H .non .non
  | bl (b : Bool) : Rp K mu F H (.bl b) (.bl b)
  | int (i : Int) : Rp K mu F H (.int i) (.int i)
  | str (s : Str) : Rp K mu F H (.str s) (.str s)
  | tup {a : Addr} {vs : List V} {ds : List D} : SqT K H a vs → Rps K mu F H vs ds → Rp K mu F H (.ref a) (.tup ds)
  | lst {a : Addr} {vs : List V} {ds : List D} : SqF mu F H a vs → Rps K mu F H vs ds → Rp K mu F H (.ref a) (.lst ds)
  | ref {n : Nat} {a : Addr} : mu[n]? = some a → Rp K mu F H (.ref a) (.ref n)
  | scr {a : Addr} {vs : List V} {ds : List D} : SqS K H a vs → Rps K mu F H vs ds → Rp K mu F H (.ref a) (.scr ds)
inductive Rps (K : PySem.W.Frag) (mu F : List Addr) (H : Hp) : List V → List D → Prop
  | nil : Rps K mu F H [] []
  | cons {v : V} {vs : List V} {d : D} {ds : List D} : Rp K mu F H v d → Rps K mu F H vs ds → Rps K mu F H (v :: vs) (d :: ds)
end
def RpC (K : PySem.W.Frag) (mu F : List Addr) (H : Hp) (a : Addr) : Cell → Prop
  | .lst ds => ∃ vs, H a = some (.lst vs) ∧ Rps K mu F H vs ds
  | .obj _ _ => False
structure Lv (mu F : List Addr) (H : Hp) : Prop where
  nd : mu.Nodup
  mt : ∀ a, a ∈ mu → Mut (H a)
  out : ∀ a, a ∈ mu → a ∉ F
  frn : ∀ a, a ∈ F → H a ≠ none
structure Gd (K : PySem.W.Frag) (mu F : List Addr) (H : Hp) (S : Store) : Prop where
  live : Lv mu F H
  len : mu.length = S.length
  cell : ∀ (n : Nat) (c : Cell) (a : Addr), S[n]? = some c → mu[n]? = some a → RpC K mu F H a c
structure Xt (mu : List Addr) (H : Hp) (mu' : List Addr) (H' : Hp) : Prop where
  pre : ∃ l, mu' = mu ++ l ∧ ∀ a, a ∈ l → H a = none
  keep : ∀ a o, H a = some o → a ∉ mu → H' a = some o
def EnvR (K : PySem.W.Frag) (mu F : List Addr) (H : Hp) (σ : L2.St) (env : Env) : Prop :=
  σ.length = env.length ∧ ∀ (i : Nat) (d : D), env[i]? = some (some d) → ∃ v, σ[i]? = some (some v) ∧ Rp K mu F H v d

section
variable {K : PySem.W.Frag} {mu mu' mu'' F : List Addr} {H H' H'' : Hp} {S S' : Store} {a : Addr}
theorem SqS.sq {xs : List V} (h : SqS K H a xs) : SqL K H a xs := h.elim (fun h => .inl (.inr h)) .inr
theorem Lv.ex (L : Lv mu F H) (h : a ∈ mu) : ∃ o, H a = some o := by
  have := L.mt a h
  cases e : H a with
  | none => rw [e] at this; exact this.elim
  | some o => exact ⟨o, rfl⟩
theorem Lv.not_tup (L : Lv mu F H) {xs : List V} (h : H a = some (.tup xs)) : a ∉ mu := fun hm => by
  have := L.mt a hm; rw [h] at this; exact this
theorem Lv.not_frz (L : Lv mu F H) {o : Obj} {u : HO} (h : H a = some (.frz o u)) : a ∉ mu := fun hm => by
  have := L.mt a hm; rw [h] at this; exact this
theorem Xt.refl (mu : List Addr) (H : Hp) : Xt mu H mu H := ⟨⟨[], by simp, by simp⟩, fun _ _ h _ => h⟩
theorem Xt.sub (e : Xt mu H mu' H') (h : a ∈ mu) : a ∈ mu' := by
  obtain ⟨l, rfl, _⟩ := e.pre
  exact List.mem_append_left _ h
theorem Xt.notin (e : Xt mu H mu' H') {o : HO} (h : H a = some o) (hn : a ∉ mu) : a ∉ mu' := by
  obtain ⟨l, rfl, hl⟩ := e.pre
  intro hm
  rcases List.mem_append.mp hm with hm | hm
  · exact hn hm
  · rw [hl a hm] at h; cases h
theorem Xt.get (e : Xt mu H mu' H') {n : Nat} (h : mu[n]? = some a) : mu'[n]? = some a := by
  obtain ⟨l, rfl, _⟩ := e.pre
  rw [List.getElem?_append_left]
  · exact h
  · exact (List.getElem?_eq_some_iff.mp h).1
theorem Xt.trans (e : Xt mu H mu' H') (L : Lv mu' F H') (e' : Xt mu' H' mu'' H'') : Xt mu H mu'' H'' := by
  refine ⟨?_, fun a o h hn => e'.keep a o (e.keep a o h hn) (e.notin h hn)⟩
  obtain ⟨l, rfl, hl⟩ := e.pre
  obtain ⟨l', rfl, hl'⟩ := e'.pre
  refine ⟨l ++ l', by simp, fun a ha => ?_⟩
  rcases List.mem_append.mp ha with ha | ha
  · exact hl a ha
  · cases q : H a with
    | none => rfl
    | some o =>
      have h' := hl' a ha
      by_cases hm : a ∈ mu
      · obtain ⟨o', e'⟩ := L.ex (List.mem_append_left l hm)
        rw [e'] at h'; cases h'
      · rw [e.keep a o q hm] at h'; cases h'
theorem sqT_keep {xs : List V} (L : ∀ b, b ∈ mu → Mut (H b)) (e : Xt mu H mu' H') (h : SqT K H a xs) : SqT K H' a xs := by
  rcases h with (h | ⟨o, h⟩) | h
  · exact .inl (.inl (e.keep _ _ h fun hm => by have := L _ hm; rw [h] at this; exact this))
  · exact .inl (.inr ⟨o, e.keep _ _ h fun hm => by have := L _ hm; rw [h] at this; exact this⟩)
  · exact .inr h
theorem sqF_keep {xs : List V} (e : Xt mu H mu' H') (h : SqF mu F H a xs) : SqF mu' F H' a xs := ⟨e.keep _ _ h.1 h.2.1, e.notin h.1 h.2.1, h.2.2⟩
theorem sqS_keep {xs : List V} (L : ∀ b, b ∈ mu → Mut (H b)) (e : Xt mu H mu' H') (h : SqS K H a xs) : SqS K H' a xs := by
  rcases h with ⟨o, h⟩ | h
  · exact .inl ⟨o, e.keep _ _ h fun hm => by have := L _ hm; rw [h] at this; exact this⟩
  · exact .inr h
mutual
theorem Rp.mono0 (L : ∀ b, b ∈ mu → Mut (H b)) (e : Xt mu H mu' H') : ∀ {v : V} {d : D}, Rp K mu F H v d → Rp K mu' F H' v d
  | _, _, .non => .non
  | _, _, .bl b => .bl b
  | _, _, .int i => .int i
  | _, _, .str s => .str s
  | _, _, .tup h r => .tup (sqT_keep L e h) (Rps.mono0 L e r)
  | _, _, .lst h r => .lst (sqF_keep e h) (Rps.mono0 L e r)
  | _, _, .ref h => .ref (e.get h)
  | _, _, .scr h r => .scr (sqS_keep L e h) (Rps.mono0 L e r)
theorem Rps.mono0 (L : ∀ b, b ∈ mu → Mut (H b)) (e : Xt mu H mu' H') : ∀ {vs : List V} {ds : List D}, Rps K mu F H vs ds → Rps K mu' F H' vs ds
  | _, _, .nil => .nil
  | _, _, .cons r t => .cons (Rp.mono0 L e r) (Rps.mono0 L e t)
end
theorem Rp.mono (L : Lv mu F H) (e : Xt mu H mu' H') {v : V} {d : D} (r : Rp K mu F H v d) : Rp K mu' F H' v d := r.mono0 L.mt e
theorem Rps.mono (L : Lv mu F H) (e : Xt mu H mu' H') {v : List V} {d : List D} (r : Rps K mu F H v d) : Rps K mu' F H' v d := r.mono0 L.mt e
/-- other addresses are kept out, all free so far -/
def Fx (F F' : List Addr) (H : Hp) : Prop := ∀ a, a ∈ F' → a ∈ F ∨ H a = none
theorem Fx.refl (F : List Addr) (H : Hp) : Fx F F H := fun _ h => .inl h
mutual
theorem Rp.grow {F' : List Addr} (f : Fx F F' H) : ∀ {v : V} {d : D}, Rp K mu F H v d → Rp K mu F' H v d
  | _, _, .non => .non
  | _, _, .bl b => .bl b
  | _, _, .int i => .int i
  | _, _, .str s => .str s
  | _, _, .tup h r => .tup h (Rps.grow f r)
  | _, _, .lst h r => .lst ⟨h.1, h.2.1, fun hf => (f _ hf).elim h.2.2 fun z => by rw [h.1] at z; cases z⟩ (Rps.grow f r)
  | _, _, .ref h => .ref h
  | _, _, .scr h r => .scr h (Rps.grow f r)
theorem Rps.grow {F' : List Addr} (f : Fx F F' H) : ∀ {vs : List V} {ds : List D}, Rps K mu F H vs ds → Rps K mu F' H vs ds
  | _, _, .nil => .nil
  | _, _, .cons r t => .cons (Rp.grow f r) (Rps.grow f t)
end
theorem Rp.far {F' : List Addr} (L : Lv mu F H) (f : Fx F F' H) (e : Xt mu H mu' H') {v : V} {d : D} (r : Rp K mu F H v d) : Rp K mu' F' H' v d := (r.grow f).mono0 L.mt e
theorem Rps.far {F' : List Addr} (L : Lv mu F H) (f : Fx F F' H) (e : Xt mu H mu' H') {v : List V} {d : List D} (r : Rps K mu F H v d) : Rps K mu' F' H' v d := (r.grow f).mono0 L.mt e
theorem EnvR.far {F' : List Addr} {σ : L2.St} {env : Env} (L : Lv mu F H) (f : Fx F F' H) (e : Xt mu H mu' H') (h : EnvR K mu F H σ env) : EnvR K mu' F' H' σ env :=
  ⟨h.1, fun i d q => let ⟨v, h1, h2⟩ := h.2 i d q; ⟨v, h1, h2.far L f e⟩⟩
theorem EnvR.mono {σ : L2.St} {env : Env} (L : Lv mu F H) (e : Xt mu H mu' H') (h : EnvR K mu F H σ env) : EnvR K mu' F H' σ env :=
  ⟨h.1, fun i d q => let ⟨v, h1, h2⟩ := h.2 i d q; ⟨v, h1, h2.mono L e⟩⟩
theorem EnvR.set {σ : L2.St} {env : Env} {i : Nat} {v : V} {d : D} (h : EnvR K mu F H σ env) (r : Rp K mu F H v d) : EnvR K mu F H (σ.set i (some v)) (env.set i (some d)) := by
  refine ⟨by simp [h.1], fun j e q => ?_⟩
  by_cases hj : i = j
  · subst hj
    by_cases hl : i < env.length
    · rw [List.getElem?_set_self hl] at q
      cases q
      exact ⟨v, by rw [List.getElem?_set_self (by rw [h.1]; exact hl)], r⟩
    · rw [List.getElem?_eq_none (by simpa using hl)] at q; cases q
  · rw [List.getElem?_set_ne hj] at q
    obtain ⟨w, h1, h2⟩ := h.2 j e q
    exact ⟨w, by rw [List.getElem?_set_ne hj]; exact h1, h2⟩
theorem EnvR.wipe {σ : L2.St} {env : Env} (h : EnvR K mu F H σ env) : ∀ vs : List Nat, EnvR K mu F H (wipe σ vs) (wipeD env vs)
  | [] => h
  | w :: vs => by
    have ih := EnvR.wipe h vs
    unfold L2.wipe wipeD
    refine ⟨by simp [ih.1], fun j e q => ?_⟩
    by_cases hj : w = j
    · subst hj
      by_cases hl : w < (wipeD env vs).length
      · rw [List.getElem?_set_self hl] at q; cases q
      · rw [List.getElem?_eq_none (by simpa using hl)] at q; cases q
    · rw [List.getElem?_set_ne hj] at q
      obtain ⟨w', h1, h2⟩ := ih.2 j e q
      exact ⟨w', by rw [List.getElem?_set_ne hj]; exact h1, h2⟩
theorem Rps.length : ∀ {vs : List V} {ds : List D}, Rps K mu F H vs ds → vs.length = ds.length
  | _, _, .nil => rfl
  | _, _, .cons _ t => by simp [Rps.length t]
theorem Rps.get : ∀ {vs : List V} {ds : List D} {i : Nat} {d : D}, Rps K mu F H vs ds → ds[i]? = some d → ∃ v, vs[i]? = some v ∧ Rp K mu F H v d
  | _, _, _, _, .nil, h => by simp at h
  | _, _, 0, _, .cons r _, h => by simp at h; subst h; exact ⟨_, rfl, r⟩
  | _, _, i + 1, _, .cons _ t, h => by
    obtain ⟨v, h1, h2⟩ := Rps.get (i := i) t (by simpa using h)
    exact ⟨v, by simpa using h1, h2⟩
theorem Rps.get' : ∀ {vs : List V} {ds : List D} {i : Nat} {v : V}, Rps K mu F H vs ds → vs[i]? = some v → ∃ d, ds[i]? = some d ∧ Rp K mu F H v d
  | _, _, _, _, .nil, h => by simp at h
  | _, _, 0, _, .cons r _, h => by simp at h; subst h; exact ⟨_, rfl, r⟩
  | _, _, i + 1, _, .cons _ t, h => by
    obtain ⟨v, h1, h2⟩ := Rps.get' (i := i) t (by simpa using h)
    exact ⟨v, by simpa using h1, h2⟩
theorem Rps.append : ∀ {vs ws : List V} {ds es : List D}, Rps K mu F H vs ds → Rps K mu F H ws es → Rps K mu F H (vs ++ ws) (ds ++ es)
  | _, _, _, _, .nil, h => h
  | _, _, _, _, .cons r t, h => .cons r (Rps.append t h)
theorem Rps.take : ∀ {vs : List V} {ds : List D} (n : Nat), Rps K mu F H vs ds → Rps K mu F H (vs.take n) (ds.take n)
  | _, _, 0, _ => .nil
  | _, _, _ + 1, .nil => .nil
  | _, _, n + 1, .cons r t => .cons r (Rps.take n t)
theorem Rps.drop : ∀ {vs : List V} {ds : List D} (n : Nat), Rps K mu F H vs ds → Rps K mu F H (vs.drop n) (ds.drop n)
  | _, _, 0, h => h
  | _, _, _ + 1, .nil => .nil
  | _, _, n + 1, .cons _ t => Rps.drop n t
theorem Rps.reverse : ∀ {vs : List V} {ds : List D}, Rps K mu F H vs ds → Rps K mu F H vs.reverse ds.reverse
  | _, _, .nil => .nil
  | _, _, .cons r t => by
    rw [List.reverse_cons, List.reverse_cons]
    exact (Rps.reverse t).append (.cons r .nil)
theorem Rps.set {v : V} {d : D} (r : Rp K mu F H v d) : ∀ {vs : List V} {ds : List D} (i : Nat), Rps K mu F H vs ds → Rps K mu F H (vs.set i v) (ds.set i d)
  | _, _, _, .nil => .nil
  | _, _, 0, .cons _ t => .cons r t
  | _, _, i + 1, .cons q t => .cons q (Rps.set r i t)
theorem Rps.dropLast {vs : List V} {ds : List D} (h : Rps K mu F H vs ds) : Rps K mu F H vs.dropLast ds.dropLast := by
  rw [List.dropLast_eq_take, List.dropLast_eq_take, h.length]; exact h.take _
theorem Rps.repl {vs : List V} {ds : List D} (h : Rps K mu F H vs ds) : ∀ n : Nat, Rps K mu F H (List.replicate n vs).flatten (List.replicate n ds).flatten
  | 0 => by simpa using .nil
  | n + 1 => by rw [List.replicate_succ, List.replicate_succ, List.flatten_cons, List.flatten_cons]; exact h.append (h.repl n)
theorem Rps.ints : ∀ (is : List Int), Rps K mu F H (is.map V.int) (is.map D.int)
  | [] => .nil
  | i :: r => .cons (.int i) (Rps.ints r)
theorem Rps.of_ints : ∀ {is : List Int} {ds : List D} {vs : List V}, Rps K mu F H vs ds → intsOf ds = some is → vs = is.map V.int
  | is, _, _, .nil, h => by simp [intsOf] at h; subst h; rfl
  | is, d :: ds, _, .cons r t, h => by
    cases d with
    | int i =>
      cases r
      cases q : intsOf ds with
      | none => simp [intsOf, q] at h
      | some js =>
        simp [intsOf, q] at h
        subst h
        rw [Rps.of_ints t q]; rfl
    | _ => simp [intsOf] at h
theorem Rps.of_bls : ∀ {is : List Bool} {ds : List D} {vs : List V}, Rps K mu F H vs ds → blsOf ds = some is → vs = is.map V.bl
  | is, _, _, .nil, h => by simp [blsOf] at h; subst h; rfl
  | is, d :: ds, _, .cons r t, h => by
    cases d with
    | bl i =>
      cases r
      cases q : blsOf ds with
      | none => simp [blsOf, q] at h
      | some js =>
        simp [blsOf, q] at h
        subst h
        rw [Rps.of_bls t q]; rfl
    | _ => simp [blsOf] at h
/-- a list in the store -/
theorem Gd.ref {n : Nat} {ds : List D} (g : Gd K mu F H S) (h : mu[n]? = some a) (hs : S[n]? = some (.lst ds)) : ∃ vs, H a = some (.lst vs) ∧ Rps K mu F H vs ds := g.cell n _ a hs h
/-- a sequence that is read -/
theorem Gd.seq {v : V} {d : D} {ds : List D} (g : Gd K mu F H S) (r : Rp K mu F H v d) (h : seqOf S d = some ds) : ∃ a vs, v = .ref a ∧ (SqL K H a vs ∨ SqT K H a vs) ∧ Rps K mu F H vs ds := by
  cases r with
  | tup q t => simp [seqOf] at h; subst h; exact ⟨_, _, rfl, .inr q, t⟩
  | lst q t => simp [seqOf] at h; subst h; exact ⟨_, _, rfl, .inl (.inl (.inl q.1)), t⟩
  | scr q t => simp [seqOf] at h; subst h; exact ⟨_, _, rfl, .inl q.sq, t⟩
  | @ref n a q =>
    simp only [seqOf] at h
    split at h
    · rename_i xs e
      cases h
      obtain ⟨vs, h1, h2⟩ := g.ref q e
      exact ⟨_, _, rfl, .inl (.inl (.inl h1)), h2⟩
    · cases h
  | _ => simp [seqOf] at h
theorem Gd.list {v : V} {d : D} {ds : List D} (g : Gd K mu F H S) (r : Rp K mu F H v d) (h : lstOf S d = some ds) : ∃ a vs, v = .ref a ∧ H a = some (.lst vs) ∧ Rps K mu F H vs ds := by
  cases r with
  | lst q t => simp [lstOf] at h; subst h; exact ⟨_, _, rfl, q.1, t⟩
  | @ref n a q =>
    simp only [lstOf] at h
    split at h
    · rename_i xs e
      cases h
      obtain ⟨vs, h1, h2⟩ := g.ref q e
      exact ⟨_, _, rfl, h1, h2⟩
    · cases h
  | _ => simp [lstOf] at h
end

/-! ### what a run gives -/
def WP {α : Type} (r : Rs α) (P : α → Store → Prop) : Prop := match r with
  | .ok a S => P a S
  | _ => False
theorem WP.mono {α : Type} {r : Rs α} {P Q : α → Store → Prop} (h : WP r P) (hpq : ∀ a S, P a S → Q a S) : WP r Q := by
  cases r with
  | ok a S => exact hpq a S h
  | exc _ _ _ => exact h
  | no => exact h
theorem WP.bnd {α β : Type} {m : M α} {f : α → M β} {S : Store} {P : β → Store → Prop} : WP (bnd m f S) P ↔ WP (m S) fun a S' => WP (f a S') P := by
  unfold Ev.bnd
  cases m S <;> rfl
theorem WP.ret {α : Type} {a : α} {S : Store} {P : α → Store → Prop} : WP (ret a S) P ↔ P a S := Iff.rfl
theorem WP.guard {α : Type} {b : Bool} {m : M α} {S : Store} {P : α → Store → Prop} : WP (guard b m S) P ↔ (b = true ∧ WP (m S) P) := by
  unfold Ev.guard
  cases b with
  | false => exact ⟨fun h => h.elim, fun h => nomatch h.1⟩
  | true => exact ⟨fun h => ⟨rfl, h⟩, fun h => h.2⟩
theorem WP.opt {α : Type} {o : Option α} {S : Store} {P : α → Store → Prop} : WP (opt o S) P ↔ ∃ a, o = some a ∧ P a S := by
  cases o with
  | none => exact ⟨fun h => h.elim, fun ⟨_, h, _⟩ => nomatch h⟩
  | some a => exact ⟨fun h => ⟨a, rfl, h⟩, fun ⟨_, h, p⟩ => by cases h; exact p⟩
/-- what is wanted behind an expression -/
def Po (K : PySem.W.Frag) (mu F : List Addr) (H : Hp) (Q : VK) : D → Store → Prop := fun d S' => ∀ v H' mu', Xt mu H mu' H' → Gd K mu' F H' S' → Rp K mu' F H' v d → Q v H'
def PoS (K : PySem.W.Frag) (mu F : List Addr) (H : Hp) (Q : List V → Hp → Prop) : List D → Store → Prop := fun ds S' => ∀ vs H' mu', Xt mu H mu' H' → Gd K mu' F H' S' → Rps K mu' F H' vs ds → Q vs H'
def tE (K : PySem.W.Frag) (ev : EM D) : TE := fun σ H Q => ∃ env mu F S, EnvR K mu F H σ env ∧ Gd K mu F H S ∧ WP (ev env S) (Po K mu F H Q)
def tA (K : PySem.W.Frag) (ev : EM (List D)) : TA := fun σ H Q => ∃ env mu F S, EnvR K mu F H σ env ∧ Gd K mu F H S ∧ WP (ev env S) (PoS K mu F H Q)
/-- a test -/
def tT (K : PySem.W.Frag) (ev : EM D) : TT := fun σ H Q => ∃ env mu F S, EnvR K mu F H σ env ∧ Gd K mu F H S ∧ WP (ev env S) fun d S' => ∃ b, d = .bl b ∧ ∀ H' mu', Xt mu H mu' H' → Gd K mu' F H' S' → Q b H'
theorem PE.imp {X : Cx} {e : Expr} {t t' : TE} (h : PE X e t) (hi : ∀ σ H Q, t' σ H Q → t σ H Q) : PE X e t' := ⟨fun pins s σ H Q I q => h.run pins s σ H Q I (hi σ H Q q)⟩
theorem PT.imp {X : Cx} {e : Expr} {t t' : TT} (h : PT X e t) (hi : ∀ σ H Q, t' σ H Q → t σ H Q) : PT X e t' := ⟨fun pins s σ H Q I q => h.run pins s σ H Q I (hi σ H Q q)⟩
theorem PW.imp {X : Cx} {e : Expr} {t t' : TT} (h : PW X e t) (hi : ∀ σ H Q, t' σ H Q → t σ H Q) : PW X e t' := ⟨fun wh pins s σ H Q I q => h.run wh pins s σ H Q I (hi σ H Q q)⟩
theorem PA.imp {X : Cx} {e : List Expr} {t t' : TA} (h : PA X e t) (hi : ∀ σ H Q, t' σ H Q → t σ H Q) : PA X e t' := ⟨fun p pins s σ H Q I q => h.run p pins s σ H Q I (hi σ H Q q)⟩
theorem PS.imp {X : Cx} {e : Stmt} {t t' : TS} (h : PS X e t) (hi : ∀ D σ H, t' D σ H → t D σ H) : PS X e t' := ⟨fun pins s σ H D I q => h.run pins s σ H D I (hi D σ H q)⟩
theorem PSs.imp {X : Cx} {e : List Stmt} {t t' : TS} (h : PSs X e t) (hi : ∀ D σ H, t' D σ H → t D σ H) : PSs X e t' := ⟨fun pins s σ H D I q => h.run pins s σ H D I (hi D σ H q)⟩
theorem tE_bl {K : PySem.W.Frag} {ev : EM D} {σ : L2.St} {H : Hp} {Q : Bool → Hp → Prop} (h : tT K ev σ H Q) : tB (tE K ev) σ H Q := by
  obtain ⟨env, mu, F, S, he, hg, hw⟩ := h
  refine ⟨env, mu, F, S, he, hg, hw.mono ?_⟩
  rintro d S' ⟨b, rfl, q⟩ v H' mu' e g r
  cases r
  exact ⟨b, rfl, q H' mu' e g⟩
end Ev
/-! Ev: operations by values -/
namespace Ev
open PySem PySem.Spec
open PyProof.Rows L2

section
variable {K : PySem.W.Frag} {mu mu' mu'' F : List Addr} {H H' H'' : Hp} {S S' : Store} {a p : Addr} {Q : VK}
/-! ### new objects, stores -/
theorem Xt.new {o : HO} (hp : H p = none) : Xt mu H mu (upd H p o) :=
  ⟨⟨[], by simp, by simp⟩, fun b u h _ => by rw [upd_ne (ne_of_none h hp)]; exact h⟩
theorem Xt.newM {o : HO} (hp : H p = none) : Xt mu H (mu ++ [p]) (upd H p o) :=
  ⟨⟨[p], rfl, fun b hb => by simp at hb; subst hb; exact hp⟩, fun b u h _ => by rw [upd_ne (ne_of_none h hp)]; exact h⟩
theorem Lv.notin (L : Lv mu F H) (hp : H p = none) : p ∉ mu := fun h => by
  obtain ⟨o, e⟩ := L.ex h
  rw [hp] at e; cases e
theorem Lv.new {o : HO} (L : Lv mu F H) (hp : H p = none) : Lv mu F (upd H p o) :=
  ⟨L.nd, fun b hb => by rw [upd_ne (show b ≠ p from fun e => L.notin hp (by rw [← e]; exact hb))]; exact L.mt b hb, L.out, fun b hb => by rw [upd_ne (show b ≠ p from fun e => L.frn b hb (by rw [e]; exact hp))]; exact L.frn b hb⟩
theorem Lv.newM {xs : List V} (L : Lv mu F H) (hp : H p = none) : Lv (mu ++ [p]) F (upd H p (.lst xs)) := by
  refine ⟨?_, fun b hb => ?_, fun b hb => ?_, (L.new hp).frn⟩
  · rw [List.nodup_append]
    refine ⟨L.nd, by simp, fun b hb c hc e => ?_⟩
    simp at hc
    subst hc e
    exact L.notin hp hb
  · rcases List.mem_append.mp hb with hb | hb
    · exact (L.new hp).mt b hb
    · simp at hb; subst hb; rw [upd_same]; trivial
  · rcases List.mem_append.mp hb with hb | hb
    · exact L.out b hb
    · simp at hb; subst hb; exact fun hf => L.frn b hf hp
theorem RpC.mono {c : Cell} (L : Lv mu F H) (e : Xt mu H mu' H') (h : RpC K mu F H a c) (ha : ∀ o, H a = some o → H' a = some o) : RpC K mu' F H' a c := by
  cases c with
  | lst ds =>
    obtain ⟨vs, h1, h2⟩ := h
    exact ⟨vs, ha _ h1, h2.mono L e⟩
  | obj _ _ => exact h.elim
theorem Gd.new {o : HO} (g : Gd K mu F H S) (hp : H p = none) : Gd K mu F (upd H p o) S :=
  ⟨g.live.new hp, g.len, fun n c b h1 h2 => (g.cell n c b h1 h2).mono g.live (Xt.new hp) fun u hu => by rw [upd_ne (ne_of_none hu hp)]; exact hu⟩
theorem Gd.newM {vs : List V} {ds : List D} (g : Gd K mu F H S) (hp : H p = none) (r : Rps K mu F H vs ds) : Gd K (mu ++ [p]) F (upd H p (.lst vs)) (S ++ [.lst ds]) := by
  refine ⟨g.live.newM hp, by simp [g.len], fun n c b h1 h2 => ?_⟩
  by_cases hn : n < S.length
  · rw [List.getElem?_append_left hn] at h1
    rw [List.getElem?_append_left (by rw [g.len]; exact hn)] at h2
    exact (g.cell n c b h1 h2).mono g.live (Xt.newM hp) fun u hu => by rw [upd_ne (ne_of_none hu hp)]; exact hu
  · rw [List.getElem?_append_right (by omega)] at h1
    rw [List.getElem?_append_right (by rw [g.len]; omega), g.len] at h2
    have hz : n - S.length = 0 := by
      by_cases h0 : n - S.length = 0
      · exact h0
      · rw [List.getElem?_eq_none (by simp; omega)] at h1; cases h1
    rw [hz] at h1 h2
    simp at h1 h2
    subst h1 h2
    exact ⟨vs, upd_same, r.mono g.live (Xt.newM hp)⟩
theorem Xt.put {o : HO} (hm : p ∈ mu) : Xt mu H mu (upd H p o) :=
  ⟨⟨[], by simp, by simp⟩, fun b u h hb => by rw [upd_ne (show b ≠ p from fun e => hb (by rw [e]; exact hm))]; exact h⟩
theorem Gd.put {n : Nat} {vs : List V} {ds ds0 : List D} (g : Gd K mu F H S) (hn : mu[n]? = some p) (r : Rps K mu F H vs ds) : Gd K mu F (upd H p (.lst vs)) (S.set n (.lst ds)) := by
  have hm : p ∈ mu := List.mem_of_getElem? hn
  refine ⟨⟨g.live.nd, fun b hb => ?_, g.live.out, fun b hb => ?_⟩, by simp [g.len], fun m c b h1 h2 => ?_⟩
  · by_cases e : b = p
    · subst e; rw [upd_same]; trivial
    · rw [upd_ne e]; exact g.live.mt b hb
  · rw [upd_ne (show b ≠ p from fun e => g.live.out p hm (by rw [← e]; exact hb))]; exact g.live.frn b hb
  · by_cases e : n = m
    · subst e
      rw [hn] at h2; cases h2
      have hl : n < S.length := by rw [← g.len]; exact (List.getElem?_eq_some_iff.mp hn).1
      rw [List.getElem?_set_self hl] at h1
      cases h1
      exact ⟨vs, upd_same, r.mono g.live (Xt.put hm)⟩
    · rw [List.getElem?_set_ne e] at h1
      have hb : b ≠ p := fun q => by
        subst q
        obtain ⟨i1, j1⟩ := List.getElem?_eq_some_iff.mp hn
        obtain ⟨i2, j2⟩ := List.getElem?_eq_some_iff.mp h2
        exact e ((List.getElem_inj (h₀ := i1) (h₁ := i2) g.live.nd).mp (j1.trans j2.symm))
      exact (g.cell m c b h1 h2).mono g.live (Xt.put hm) fun u hu => by rw [upd_ne hb]; exact hu
/-- what mkL asks -/
theorem mkL_ok {m : Bool} {vs : List V} {ds : List D} (g : Gd K mu F H S) (r : Rps K mu F H vs ds) (h : WP (mkL m ds S) (Po K mu F H Q)) : ∀ p, H p = none → Q (.ref p) (upd H p (.lst vs)) := fun p hp => by
  unfold mkL at h
  rw [lsK_eq] at h
  cases m with
  | false =>
    have h : Po K mu F H Q (.lst ds) S := h
    exact h _ _ mu (Xt.new hp) (g.new hp) (.lst ⟨upd_same, g.live.notin hp, fun hf => g.live.frn p hf hp⟩ (r.mono g.live (Xt.new hp)))
  | true =>
    have h : WP (alloc (.lst ds) S) (Po K mu F H Q) := h
    unfold alloc at h
    rw [natK_eq, lsK_eq] at h
    have h : Po K mu F H Q (.ref S.length) (S ++ [.lst ds]) := h
    exact h _ _ (mu ++ [p]) (Xt.newM hp) (g.newM hp r) (.ref (by rw [← g.len]; simp))
theorem Po.flat {v : V} {d : D} (g : Gd K mu F H S) (r : Rp K mu F H v d) (h : Po K mu F H Q d S) : Q v H := h v H mu (Xt.refl mu H) g r
theorem Po.tup {vs : List V} {ds : List D} (g : Gd K mu F H S) (r : Rps K mu F H vs ds) (h : Po K mu F H Q (.tup ds) S) : ∀ p, H p = none → Q (.ref p) (upd H p (.tup vs)) := fun p hp =>
  h _ _ mu (Xt.new hp) (g.new hp) (.tup (.inl (.inl upd_same)) (r.mono g.live (Xt.new hp)))

/-! ### equality -/
mutual
def toPy : D → PyData
  | .non => .none
  | .bl b => .bool b
  | .int i => .int i
  | .str s => .str s
  | .tup xs => .tuple (toPys xs)
  | .lst xs => .list (toPys xs)
  | .ref _ => .none
  | .gl _ => .none
  | .scr _ => .none
def toPys : List D → List PyData
  | [] => []
  | x :: xs => toPy x :: toPys xs
end
mutual
theorem dp_of : ∀ {n : Nat} {v : V} {d : D}, shal n d = true → Rp K mu F H v d → Dp K H v (toPy d)
  | _, _, _, _, .non => .non
  | _, _, _, _, .bl b => .bl b
  | _, _, _, _, .int i => .int i
  | _, _, _, _, .str s => .str s
  | 0, _, _, h, .tup q t => by simp [shal] at h
  | n + 1, _, _, h, .tup q t => .tup q (dps_of (n := n) (by simpa [shal] using h) t)
  | 0, _, _, h, .lst q t => by simp [shal] at h
  | n + 1, _, _, h, .lst q t => .lst (.inl (.inl q.1)) (dps_of (n := n) (by simpa [shal] using h) t)
  | 0, _, _, h, .ref _ => by simp [shal] at h
  | _ + 1, _, _, h, .ref _ => by simp [shal] at h
  | 0, _, _, h, .scr _ _ => by simp [shal] at h
  | _ + 1, _, _, h, .scr _ _ => by simp [shal] at h
theorem dps_of : ∀ {n : Nat} {vs : List V} {ds : List D}, shal.shals n ds = true → Rps K mu F H vs ds → DpAll K H vs (toPys ds)
  | _, _, _, _, .nil => .nil
  | n, _, _, h, .cons r t => by
    simp only [shal.shals, Bool.and_eq_true] at h
    exact .cons (dp_of (n := n) h.1 r) (dps_of (n := n) h.2 t)
end
theorem strOk_of {s : Str} (h : (s.cps.toList.all fun c => Nat.blt c 1114112) = true) : PyData.strOk s = true := by
  unfold PyData.strOk
  rw [← Array.all_toList, ← h]
  congr 1
  funext c
  rw [Bool.eq_iff_iff]
  simp [Nat.blt_eq]
mutual
theorem lay_of : ∀ {n : Nat} (d : D), shal n d = true → (toPy d).canLay0 = true
  | _, .non, _ => by simp [toPy, PyData.canLay0]
  | _, .bl b, _ => by simp [toPy, PyData.canLay0]
  | _, .int i, _ => by simp [toPy, PyData.canLay0]
  | n, .str s, h => by simp only [toPy, PyData.canLay0]; exact strOk_of (by cases n <;> simpa [shal] using h)
  | 0, .tup xs, h => by simp [shal] at h
  | 0, .lst xs, h => by simp [shal] at h
  | n + 1, .tup xs, h => by simp only [toPy, PyData.canLay0]; exact lays_of (n := n) xs (by simpa [shal] using h)
  | n + 1, .lst xs, h => by simp only [toPy, PyData.canLay0]; exact lays_of (n := n) xs (by simpa [shal] using h)
  | _, .ref _, _ => by simp [toPy, PyData.canLay0]
  | _, .gl _, _ => by simp [toPy, PyData.canLay0]
  | _, .scr _, _ => by simp [toPy, PyData.canLay0]
theorem lays_of : ∀ {n : Nat} (ds : List D), shal.shals n ds = true → PyData.canLayAll0 (toPys ds) = true
  | _, [], _ => by simp [toPys, PyData.canLayAll0]
  | n, d :: ds, h => by
    simp only [shal.shals, Bool.and_eq_true] at h
    simp [toPys, PyData.canLayAll0, lay_of (n := n) d h.1, lays_of (n := n) ds h.2]
end
mutual
theorem depth_of : ∀ {n : Nat} {d : D}, shal n d = true → (toPy d).depth ≤ n
  | n, .non, _ => by simp [toPy, PyData.depth]
  | n, .bl b, _ => by simp [toPy, PyData.depth]
  | n, .int b, _ => by simp [toPy, PyData.depth]
  | n, .str b, _ => by simp [toPy, PyData.depth]
  | 0, .tup xs, h => by simp [shal] at h
  | n + 1, .tup xs, h => by
    have := depths_of (n := n) (ds := xs) (by simpa [shal] using h)
    simp only [toPy, PyData.depth]; omega
  | 0, .lst xs, h => by simp [shal] at h
  | n + 1, .lst xs, h => by
    have := depths_of (n := n) (ds := xs) (by simpa [shal] using h)
    simp only [toPy, PyData.depth]; omega
  | n, .ref _, h => by simp [toPy, PyData.depth]
  | n, .gl _, h => by simp [toPy, PyData.depth]
  | n, .scr _, h => by simp [toPy, PyData.depth]
theorem depths_of : ∀ {n : Nat} {ds : List D}, shal.shals n ds = true → PyData.depthAll (toPys ds) ≤ n
  | n, [], _ => by simp [toPys, PyData.depthAll]
  | n, d :: ds, h => by
    simp only [shal.shals, Bool.and_eq_true] at h
    have h1 := depth_of (n := n) h.1
    have h2 := depths_of (n := n) h.2
    simp only [toPys, PyData.depthAll]; omega
end
theorem shaped_of {d : D} (h : shal 40 d = true) : SeqAt.shaped (toPy d) = true := by
  unfold SeqAt.shaped
  rw [lay_of d h, Bool.true_and]
  exact decide_eq_true (Nat.le_trans (depth_of h) (by decide))
mutual
theorem eqv_of : ∀ {n m : Nat} (a b : D), shal n a = true → shal m b = true → PyData.eqv (toPy a) (toPy b) = eqv a b
  | n, m, .non, b, h, h' => by cases b <;> cases m <;> simp_all [toPy, PyData.eqv, eqv, shal]
  | n, m, .bl x, b, h, h' => by cases b <;> cases m <;> simp_all [toPy, PyData.eqv, eqv, shal]
  | n, m, .int x, b, h, h' => by cases b <;> cases m <;> simp_all [toPy, PyData.eqv, eqv, shal]
  | n, m, .str x, b, h, h' => by cases b <;> cases m <;> simp_all [toPy, PyData.eqv, eqv, shal]
  | 0, m, .tup xs, b, h, h' => by simp [shal] at h
  | 0, m, .lst xs, b, h, h' => by simp [shal] at h
  | n + 1, m, .tup xs, b, h, h' => by
    cases b with
    | tup ys =>
      cases m with
      | zero => simp [shal] at h'
      | succ m => simp only [toPy, PyData.eqv, eqv]; exact eqvs_of (n := n) (m := m) xs ys (by simpa [shal] using h) (by simpa [shal] using h')
    | _ => cases m <;> simp_all [toPy, PyData.eqv, eqv, shal]
  | n + 1, m, .lst xs, b, h, h' => by
    cases b with
    | lst ys =>
      cases m with
      | zero => simp [shal] at h'
      | succ m => simp only [toPy, PyData.eqv, eqv]; exact eqvs_of (n := n) (m := m) xs ys (by simpa [shal] using h) (by simpa [shal] using h')
    | _ => cases m <;> simp_all [toPy, PyData.eqv, eqv, shal]
  | n, m, .ref _, b, h, h' => by cases n <;> simp [shal] at h
  | n, m, .gl _, b, h, h' => by cases n <;> simp [shal] at h
  | n, m, .scr _, b, h, h' => by cases n <;> simp [shal] at h
theorem eqvs_of : ∀ {n m : Nat} (a b : List D), shal.shals n a = true → shal.shals m b = true → PyData.eqvAll (toPys a) (toPys b) = eqvs a b
  | n, m, [], b, h, h' => by cases b <;> simp [toPys, PyData.eqvAll, eqvs]
  | n, m, x :: xs, b, h, h' => by
    cases b with
    | nil => simp [toPys, PyData.eqvAll, eqvs]
    | cons y ys =>
      simp only [shal.shals, Bool.and_eq_true] at h h'
      simp only [toPys, PyData.eqvAll, eqvs]
      rw [eqv_of (n := n) (m := m) x y h.1 h'.1, eqvs_of (n := n) (m := m) xs ys h.2 h'.2]
end
theorem Gd.top {v : V} {d : D} (g : Gd K mu F H S) (r : Rp K mu F H v d) (h : shal 40 (top S d) = true) : Dp K H v (toPy (top S d)) := by
  cases r with
  | @ref n a q =>
    unfold Ev.top at h ⊢
    cases e : S[n]? with
    | none => simp [e, shal] at h
    | some c => cases c with
      | obj _ _ => simp [e, shal] at h
      | lst xs =>
      simp only [e] at h ⊢
      obtain ⟨vs, h1, h2⟩ := g.ref q e
      exact .lst (.inl (.inl h1)) (dps_of (n := 39) (by simpa [shal] using h) h2)
  | tup q t => exact dp_of h (.tup q t)
  | lst q t => exact dp_of h (.lst q t)
  | scr q t => simp [Ev.top, shal] at h
  | _ => exact dp_of (mu := mu) (F := F) h (by constructor)
end
end Ev
/-! Ev: the rules by values -/
namespace Ev
open PySem PySem.Spec
open PyProof.Rows L2

theorem LIM_eq : LIM = sizeLine := by rw [sizeLine_eq]; rfl
/-- two values at a heap that an operation takes to the end -/
def R2of (K : PySem.W.Frag) (f : D → D → M D) : R2 := fun v w H Q => ∃ mu F S x y, Gd K mu F H S ∧ Rp K mu F H v x ∧ Rp K mu F H w y ∧ WP (f x y S) (Po K mu F H Q)
def RLof (K : PySem.W.Frag) (f : List D → M D) : List V → Hp → VK → Prop := fun vs H Q => ∃ mu F S xs, Gd K mu F H S ∧ Rps K mu F H vs xs ∧ WP (f xs S) (Po K mu F H Q)
section
variable {X : Cx}
theorem Rp.int_inv {K : PySem.W.Frag} {mu F : List Addr} {H : Hp} {v : V} {i : Int} (r : Rp K mu F H v (.int i)) : v = .int i := by cases r; rfl
theorem Rp.bl_inv {K : PySem.W.Frag} {mu F : List Addr} {H : Hp} {v : V} {i : Bool} (r : Rp K mu F H v (.bl i)) : v = .bl i := by cases r; rfl

/-! ### raw rules for ints of any size -/
def CDivG (i j : Int) : Prop := j ≠ 0 ∧ j.natAbs.log2 < 9000
theorem op_fdivG : OpR X (binaryOp .FloorDiv) (rI CDivG fun i j => .int (i.fdiv j)) := opI fun i j _ _ _ _ _ hc q => floordiv_int hc.1 q (.inl (PyProof.noPylong_of_log2 hc.2))
def CPowG (i j : Int) : Prop := 0 ≤ j ∧ (Builtin.Int.intBits i : Int) * j ≤ 2 ^ 27
theorem op_powG : OpR X (binaryOp .Pow) (rI CPowG fun i j => .int (i ^ j.toNat)) := opI fun _ _ _ _ _ _ _ hc q => pow_int hc.1 hc.2 q

def opO : Op2 → Operator
  | .add => .Add | .sub => .Sub | .mul => .Mult | .fdiv => .FloorDiv | .mod => .Mod | .pow => .Pow | .shl => .LShift | .shr => .RShift | .band => .BitAnd | .bor => .BitOr | .bxor => .BitXor
theorem doOp_some {o : Op2} {m : Bool} {x y d : D} {S : Store} {P : D → Store → Prop} (h : op2 S o x y = some d) (hw : WP (doOp o m x y S) P) : P d S := by
  unfold doOp at hw; rw [h] at hw; exact hw
theorem doOp_none {o : Op2} {m : Bool} {x y : D} {S : Store} {P : D → Store → Prop} (h : op2 S o x y = none) (hw : WP (doOp o m x y S) P) : ∃ ds, op2L S o x y = some ds ∧ WP (mkL m ds S) P := by
  unfold doOp at hw; rw [h] at hw
  cases e : op2L S o x y with
  | none => simp only [e] at hw; exact hw.elim
  | some ds => simp only [e] at hw; exact ⟨ds, rfl, hw⟩
/-- an operation on two ints -/
theorem opI_ok {o : Op2} {m : Bool} {r : R2} (ho : OpR X (binaryOp (opO o)) r) (hr : ∀ i j d S, op2 S o (.int i) (.int j) = some d → ∃ k, d = .int k ∧ ∀ H Q, Q (.int k) H → r (.int i) (.int j) H Q)
    {i j : Int} {pins : List (Addr × Obj)} {s : Shared} {σ : L2.St} {H : Hp} {v u : Value} {Q : VK} (I : Inv X pins σ H s) (rx : RelV (.int i) v) (ry : RelV (.int j) u) {mu F : List Addr} {S : Store} (g : Gd X.K mu F H S)
    (hl : op2L S o (.int i) (.int j) = none) (hw : WP (doOp o m (.int i) (.int j) S) (Po X.K mu F H Q)) : wpAny (model X.prog X.w) X.A (binaryOp (opO o) v u) (EP X pins σ Q) X.xe s := by
  cases e : op2 S o (.int i) (.int j) with
  | none =>
    obtain ⟨ds, h1, _⟩ := doOp_none e hw
    rw [hl] at h1; cases h1
  | some d =>
    obtain ⟨k, rfl, h⟩ := hr i j d S e
    exact ho pins s σ H _ _ v u Q I rx ry (h H Q ((doOp_some e hw).flat g (.int k)))
theorem lstOf_int {S : Store} {i : Int} : lstOf S (.int i) = none := rfl
theorem op2L_int (S : Store) (o : Op2) (i j : Int) : op2L S o (.int i) (.int j) = none := by cases o <;> rfl
theorem op_int_ok {o : Op2} {m : Bool} {i j : Int} {pins : List (Addr × Obj)} {s : Shared} {σ : L2.St} {H : Hp} {v u : Value} {Q : VK} (I : Inv X pins σ H s) (rx : RelV (.int i) v) (ry : RelV (.int j) u) {mu F : List Addr} {S : Store} (g : Gd X.K mu F H S)
    (hw : WP (doOp o m (.int i) (.int j) S) (Po X.K mu F H Q)) : wpAny (model X.prog X.w) X.A (binaryOp (opO o) v u) (EP X pins σ Q) X.xe s := by
  have hl := op2L_int S o i j
  cases o with
  | add => exact opI_ok (o := .add) op_add (fun i j d S h => ⟨i + j, by simpa [op2] using h.symm, fun H Q q => ⟨i, j, rfl, rfl, q⟩⟩) I rx ry g hl hw
  | sub => exact opI_ok (o := .sub) op_sub (fun i j d S h => ⟨i - j, by simpa [op2] using h.symm, fun H Q q => ⟨i, j, rfl, rfl, q⟩⟩) I rx ry g hl hw
  | mul => exact opI_ok (o := .mul) op_mulW (fun i j d S h => by
      simp only [op2, oInt_eq] at h
      split at h
      · rename_i hb
        exact ⟨i * j, (Option.some.inj h).symm, fun H Q q => ⟨i, j, rfl, rfl, by simpa [big2, CMulW] using hb, q⟩⟩
      · cases h) I rx ry g hl hw
  | fdiv => exact opI_ok (o := .fdiv) op_fdivG (fun i j d S h => by
      simp only [op2, oInt_eq] at h
      split at h
      · rename_i hb
        simp only [divOk, Bool.and_eq_true, bne_iff_ne, ne_eq, decide_eq_true_eq] at hb
        refine ⟨_, (Option.some.inj h).symm, fun H Q q => ⟨i, j, rfl, rfl, hb, ?_⟩⟩
        split at q
        · show Q (.int (i.fdiv j)) H
          rw [Int.fdiv_eq_ediv_of_nonneg i (by omega)]; exact q
        · exact q
      · cases h) I rx ry g hl hw
  | mod => exact opI_ok (o := .mod) op_modN (fun i j d S h => by
      simp only [op2, oInt_eq] at h
      split at h
      · rename_i hb
        simp only [bne_iff_ne, ne_eq] at hb
        refine ⟨_, (Option.some.inj h).symm, fun H Q q => ⟨i, j, rfl, rfl, hb, ?_⟩⟩
        split at q
        · show Q (.int (i.fmod j)) H
          rw [Int.fmod_eq_emod_of_nonneg i (by omega)]; exact q
        · exact q
      · cases h) I rx ry g hl hw
  | pow => exact opI_ok (o := .pow) op_powG (fun i j d S h => by
      simp only [op2, oInt_eq] at h
      split at h
      · rename_i hb
        simp only [Bool.and_eq_true, decide_eq_true_eq] at hb
        exact ⟨_, (Option.some.inj h).symm, fun H Q q => ⟨i, j, rfl, rfl, ⟨hb.1, hb.2⟩, q⟩⟩
      · cases h) I rx ry g hl hw
  | shl => exact opI_ok (o := .shl) op_shl (fun i j d S h => by
      simp only [op2, oInt_eq] at h
      split at h
      · rename_i hb
        simp only [Bool.and_eq_true, decide_eq_true_eq] at hb
        exact ⟨_, (Option.some.inj h).symm, fun H Q q => ⟨i, j, rfl, rfl, ⟨hb.1.1, hb.1.2, hb.2⟩, q⟩⟩
      · cases h) I rx ry g hl hw
  | shr => exact opI_ok (o := .shr) op_shr (fun i j d S h => by
      simp only [op2, oInt_eq] at h
      split at h
      · rename_i hb
        simp only [decide_eq_true_eq] at hb
        exact ⟨_, (Option.some.inj h).symm, fun H Q q => ⟨i, j, rfl, rfl, hb, q⟩⟩
      · cases h) I rx ry g hl hw
  | band => exact opI_ok (o := .band) op_and (fun i j d S h => ⟨_, by simpa [op2] using h.symm, fun H Q q => ⟨i, j, rfl, rfl, q⟩⟩) I rx ry g hl hw
  | bor => exact opI_ok (o := .bor) op_or (fun i j d S h => ⟨_, by simpa [op2] using h.symm, fun H Q q => ⟨i, j, rfl, rfl, q⟩⟩) I rx ry g hl hw
  | bxor => exact opI_ok (o := .bxor) op_xor (fun i j d S h => ⟨_, by simpa [op2] using h.symm, fun H Q q => ⟨i, j, rfl, rfl, q⟩⟩) I rx ry g hl hw
theorem op_sub_bb : OpR X (binaryOp .Sub) (fun x y H Q => ∃ i k, x = .bl i ∧ y = .bl k ∧ Q (.int (b2i i - b2i k)) H) := by
  intro pins s σ H x y v u Q I rx ry h
  obtain ⟨i, k, rfl, rfl, q⟩ := h
  cases rx
  cases ry
  exact sub_bool ⟨.int (b2i i - b2i k), H, I.tok _, ⟨_, rfl⟩, q⟩
/-- the operations that are carried -/
theorem op_ok (o : Op2) (m : Bool) : OpR X (binaryOp (opO o)) (R2of X.K (doOp o m)) := by
  intro pins s σ H v w u1 u2 Q I r1 r2 h
  obtain ⟨mu, F, S, x, y, g, rx, ry, hw⟩ := h
  cases e : op2 S o x y with
  | some d =>
    have q := doOp_some e hw
    unfold op2 at e
    split at e
    all_goals first
      | (rw [rx.int_inv] at r1; rw [ry.int_inv] at r2; exact op_int_ok (m := m) I r1 r2 g hw)
      | skip
    · -- bool - bool
      rw [rx.bl_inv] at r1; rw [ry.bl_inv] at r2
      rw [oInt_eq] at e
      cases e
      exact op_sub_bb pins s σ H _ _ u1 u2 Q I r1 r2 ⟨_, _, rfl, rfl, Po.flat g (.int _) q⟩
    · -- tuple + tuple
      rename_i xs ys
      split at e
      · rename_i hz
        rw [lsK_eq] at e
        cases e
        cases rx with
        | @tup a vs _ qa ta =>
          cases ry with
          | @tup b ws _ qb tb =>
            refine op_catA pins s σ H _ _ u1 u2 Q I r1 r2 ⟨a, b, vs, ws, rfl, rfl, qa, qb, by rw [ta.length, tb.length, ← LIM_eq]; exact hz, fun h => ?_, fun h0 h => ?_, fun _ _ => Po.tup g (ta.append tb) q⟩
            · subst h
              cases ta
              exact Po.flat g (.tup qb tb) q
            · subst h
              cases tb
              rw [List.append_nil] at q
              exact Po.flat g (.tup qa ta) q
      · cases e
    · -- tuple * int
      rename_i xs k
      split at e
      · rename_i hz
        simp only [Bool.and_eq_true, decide_eq_true_eq, Bool.not_eq_true', List.isEmpty_eq_false_iff] at hz
        obtain ⟨⟨⟨h0, h1⟩, h2⟩, h3⟩ := hz
        rw [lsK_eq] at e
        cases e
        rw [ry.int_inv] at r2
        cases rx with
        | @tup a vs _ qa ta =>
          refine op_repT pins s σ H _ _ u1 u2 Q I r1 r2 ⟨a, k, vs, rfl, rfl, qa, fun h => ?_, h1, h2, by rw [ta.length]; exact h3, Po.tup g (ta.repl _) q⟩
          subst h
          cases ta
          exact h0 rfl
      · cases e
    · cases e
  | none =>
    obtain ⟨ds, h1, h2⟩ := doOp_none e hw
    cases o <;> simp only [op2L] at h1 <;> first | (cases h1; done) | skip
    · cases e1 : lstOf S x with
      | none => rw [e1] at h1; cases h1
      | some xs =>
        cases e2 : lstOf S y with
        | none => rw [e1, e2] at h1; cases h1
        | some ys =>
          rw [e1, e2] at h1
          simp only [Option.bind_some] at h1
          split at h1
          · rename_i hz
            cases h1
            obtain ⟨a, vs, rfl, ha, ra⟩ := g.list rx e1
            obtain ⟨b, ws, rfl, hb, rb⟩ := g.list ry e2
            exact op_cat pins s σ H _ _ u1 u2 Q I r1 r2 ⟨a, b, vs, ws, rfl, rfl, ha, hb, by rw [ra.length, rb.length, ← LIM_eq]; exact hz, mkL_ok g (ra.append rb) h2⟩
          · cases h1
    · cases y with
      | int k =>
        cases e1 : lstOf S x with
        | none => simp [e1] at h1
        | some xs =>
          simp only [e1, Option.bind_some] at h1
          split at h1
          · rename_i hz
            simp only [Bool.and_eq_true, decide_eq_true_eq] at hz
            cases h1
            rw [ry.int_inv] at r2
            obtain ⟨a, vs, rfl, ha, ra⟩ := g.list rx e1
            exact op_rep pins s σ H _ _ u1 u2 Q I r1 r2 ⟨a, k, vs, rfl, rfl, ha, hz.1.1, hz.1.2, by rw [ra.length, ← LIM_eq]; exact hz.2, mkL_ok g (ra.repl _) h2⟩
          · cases h1
      | _ => simp at h1
end
end Ev
/-! Ev: comparisons, items, slices, built-ins by values -/
namespace Ev
open PySem PySem.Spec
open PyProof.Rows L2
section
variable {X : Cx}
def cmO : Cm → CmpOp
  | .eq => .Eq | .ne => .NotEq | .lt => .Lt | .le => .LtE | .gt => .Gt | .ge => .GtE | .is_ => .Is | .isnot => .IsNot | .in_ => .In | .notin => .NotIn
theorem flat_rp {K : PySem.W.Frag} {mu F : List Addr} {H : Hp} {v : V} {d : D} (r : Rp K mu F H v d) (h : shal 0 d = true) : flatV v = true := by
  cases r <;> first | rfl | simp [shal] at h
theorem flats_rp {K : PySem.W.Frag} {mu F : List Addr} {H : Hp} : ∀ {vs : List V} {ds : List D}, Rps K mu F H vs ds → shal.shals 0 ds = true → vs.all flatV = true
  | _, _, .nil, _ => rfl
  | _, _, .cons r t, h => by
    simp only [shal.shals, Bool.and_eq_true] at h
    simp only [List.all_cons, Bool.and_eq_true]
    exact ⟨flat_rp r h.1, flats_rp t h.2⟩
theorem eqV_rp {K : PySem.W.Frag} {mu F : List Addr} {H : Hp} {v w : V} {d e : D} (r : Rp K mu F H v d) (q : Rp K mu F H w e) (h : shal 0 d = true) (h' : shal 0 e = true) : eqV v w = eqv d e := by
  cases r <;> cases q <;> first | rfl | (simp [shal] at h; done) | (simp [shal] at h'; done)
theorem inV_rp {K : PySem.W.Frag} {mu F : List Addr} {H : Hp} {v : V} {d : D} (r : Rp K mu F H v d) (h : shal 0 d = true) : ∀ {vs : List V} {ds : List D}, Rps K mu F H vs ds → shal.shals 0 ds = true → inV v vs = ds.any fun y => eqv y d
  | _, _, .nil, _ => rfl
  | _, _, .cons q t, h' => by
    simp only [shal.shals, Bool.and_eq_true] at h'
    have ih := inV_rp r h t h'.2
    unfold inV at ih ⊢
    rw [List.any_cons, List.any_cons, ih, eqV_rp q r h'.1 h]
theorem doCmp_some {o : Cm} {x y : D} {S : Store} {P : D → Store → Prop} (hw : WP (doCmp o x y S) P) : ∃ b, cmp2 S o x y = some b ∧ P (.bl b) S := by
  unfold doCmp at hw
  cases e : cmp2 S o x y with
  | none => simp only [e] at hw; exact hw.elim
  | some b => simp only [e] at hw; exact ⟨b, rfl, hw⟩
theorem non_rp {K : PySem.W.Frag} {mu F : List Addr} {H : Hp} {v : V} {d : D} (r : Rp K mu F H v d) : decide (v = .non) = isNon d := by
  cases r <;> rfl
theorem cmp_ok (o : Cm) (hu : X.A.units + 64 < cLine) : OpR X (compareOp (cmO o)) (R2of X.K (doCmp o)) := by
  intro pins s σ H v w u1 u2 Q I r1 r2 h
  obtain ⟨mu, F, S, x, y, g, rx, ry, hw⟩ := h
  obtain ⟨b, e, q⟩ := doCmp_some hw
  have q' : Q (.bl b) H := Po.flat g (.bl b) q
  unfold cmp2 at e
  split at e
  · split at e
    · rename_i hs
      simp only [Bool.and_eq_true] at hs
      cases e
      refine op_eqD hu pins s σ H _ _ u1 u2 Q I r1 r2 ⟨_, _, g.top rx hs.1, g.top ry hs.2, shaped_of hs.1, shaped_of hs.2, ?_⟩
      rw [eqv_of _ _ hs.1 hs.2]; exact q'
    · cases e
  · split at e
    · rename_i hs
      simp only [Bool.and_eq_true] at hs
      cases e
      refine op_neD hu pins s σ H _ _ u1 u2 Q I r1 r2 ⟨_, _, g.top rx hs.1, g.top ry hs.2, shaped_of hs.1, shaped_of hs.2, ?_⟩
      rw [eqv_of _ _ hs.1 hs.2]; exact q'
    · cases e
  · rw [rx.int_inv] at r1; rw [ry.int_inv] at r2; cases e; rw [ltI_eq] at q'
    exact op_lt pins s σ H _ _ u1 u2 Q I r1 r2 ⟨_, _, rfl, rfl, q'⟩
  · rw [rx.int_inv] at r1; rw [ry.int_inv] at r2; cases e; rw [leI_eq] at q'
    exact op_le pins s σ H _ _ u1 u2 Q I r1 r2 ⟨_, _, rfl, rfl, q'⟩
  · rw [rx.int_inv] at r1; rw [ry.int_inv] at r2; cases e; rw [ltI_eq] at q'
    exact op_gt pins s σ H _ _ u1 u2 Q I r1 r2 ⟨_, _, rfl, rfl, q'⟩
  · rw [rx.int_inv] at r1; rw [ry.int_inv] at r2; cases e; rw [leI_eq] at q'
    exact op_ge pins s σ H _ _ u1 u2 Q I r1 r2 ⟨_, _, rfl, rfl, q'⟩
  · have hn := non_rp rx
    cases ry
    refine op_isN pins s σ H _ _ u1 u2 Q I r1 r2 ⟨rfl, ?_⟩
    rw [hn]
    cases e; exact q'
  · have hn := non_rp rx
    cases ry
    refine op_notN pins s σ H _ _ u1 u2 Q I r1 r2 ⟨rfl, ?_⟩
    rw [hn]
    cases e; exact q'
  · cases e1 : seqOf S y with
    | none => simp [e1] at e
    | some ys =>
      simp only [e1, Option.bind_some] at e
      split at e
      · rename_i hs
        simp only [Bool.and_eq_true] at hs
        cases e
        obtain ⟨a, vs, rfl, ha, ra⟩ := g.seq ry e1
        refine op_in_seq pins s σ H _ _ u1 u2 Q I r1 r2 ⟨a, vs, rfl, ha, flat_rp rx hs.1, flats_rp ra hs.2, ?_⟩
        rw [inV_rp rx hs.1 ra hs.2]; exact q'
      · cases e
  · cases e1 : seqOf S y with
    | none => simp [e1] at e
    | some ys =>
      simp only [e1, Option.bind_some] at e
      split at e
      · rename_i hs
        simp only [Bool.and_eq_true] at hs
        cases e
        obtain ⟨a, vs, rfl, ha, ra⟩ := g.seq ry e1
        refine op_notIn_seq pins s σ H _ _ u1 u2 Q I r1 r2 ⟨a, vs, rfl, ha, flat_rp rx hs.1, flats_rp ra hs.2, ?_⟩
        rw [inV_rp rx hs.1 ra hs.2]; exact q'
      · cases e
  · cases e

/-! ### items -/
theorem ixI_eq (n : Nat) (i : Int) : ixI n i = ixN n i := rfl
theorem ix_ok : IxR X (R2of X.K doIx) := by
  intro value slice pins s σ H v w u1 u2 Q I r1 r2 h hs
  obtain ⟨mu, F, S, x, y, g, rx, ry, hw⟩ := h
  unfold doIx at hw
  split at hw
  · rename_i xs i e
    cases e1 : (ixI xs.length i).bind fun j => nth xs j with
    | none => simp only [e1] at hw; exact hw.elim
    | some d =>
      simp only [e1] at hw
      have hw : Po X.K mu F H Q d S := hw
      obtain ⟨a, vs, rfl, ha, ra⟩ := g.seq rx e
      cases ry
      obtain ⟨j, hj, hd⟩ := Option.bind_eq_some_iff.mp e1
      rw [nth_eq] at hd
      obtain ⟨z, hz, rz⟩ := ra.get hd
      have hat : atI vs i = some z := by
        unfold atI
        rw [ra.length, ← ixI_eq, hj]; exact hz
      have q := Po.flat g rz hw
      rcases ha with ha | ha
      · exact ix_list value slice pins s σ H _ _ u1 u2 Q I r1 r2 ⟨a, vs, i, z, rfl, rfl, ha, hat, q⟩ hs
      · exact ix_tup value slice pins s σ H _ _ u1 u2 Q I r1 r2 ⟨a, vs, i, z, rfl, rfl, ha, hat, q⟩ hs
  · exact hw.elim

/-! ### slices -/
theorem sB_eq (n d : Nat) (o : Option Int) : sB n d o = HT.sIx n d o := by cases o <;> rfl
theorem Rps.cut {K : PySem.W.Frag} {mu F : List Addr} {H : Hp} {vs : List V} {ds : List D} (r : Rps K mu F H vs ds) (lo hi : Option Int) : Rps K mu F H (cutV vs lo hi) (cutD ds lo hi) := by
  unfold cutV cutD
  rw [r.length, sB_eq, sB_eq]
  exact (r.drop _).take _
def RSof (K : PySem.W.Frag) (m : Bool) : V → Option Int → Option Int → Hp → VK → Prop := fun v lo hi H Q => ∃ mu F S x, Gd K mu F H S ∧ Rp K mu F H v x ∧ WP (doSl m x lo hi S) (Po K mu F H Q)
theorem sl_ok (m : Bool) : SlR X (RSof X.K m) := by
  intro pins s σ H v u vl vu lo hi sl Q I rx hs pl pu h
  obtain ⟨mu, F, S, x, g, r, hw⟩ := h
  cases r with
  | @tup a vs ds q t =>
    have hw : WP (lsK (cutD ds lo hi) fun ys => Rs.ok (.tup ys) S) (Po X.K mu F H Q) := hw
    rw [lsK_eq] at hw
    have hw : Po X.K mu F H Q (.tup (cutD ds lo hi)) S := hw
    refine sl_tupA pins s σ H _ u vl vu lo hi sl Q I rx hs pl pu ⟨a, vs, rfl, q, fun hh => ?_, fun _ => Po.tup g (t.cut lo hi) hw⟩
    have e : cutD ds lo hi = ds := by
      unfold cutD
      rw [sB_eq, sB_eq, ← t.length, hh.1, hh.2, List.drop_zero, t.length, Nat.sub_zero, List.take_length]
    rw [e] at hw
    exact Po.flat g (.tup q t) hw
  | _ =>
    all_goals
      unfold doSl at hw
      simp only at hw
      split at hw
      · rename_i xs e
        obtain ⟨a, vs, e1, ha, ra⟩ := g.list (by first | exact Rp.lst ‹_› ‹_› | exact Rp.ref ‹_› | exact Rp.scr ‹_› ‹_› | constructor) e
        first
          | (cases e1; exact sl_list pins s σ H _ u vl vu lo hi sl Q I rx hs pl pu ⟨_, vs, rfl, .inl (.inl ha), mkL_ok g (ra.cut lo hi) hw⟩)
          | cases e1
      · exact hw.elim

/-! ### built-ins -/
theorem tup_list {its : List Value} {s : Shared} {t : Addr} (h : IsTup s.heap t its.toArray) : s.heap.IsTuple t its.toArray := h
theorem sum_rawT {prog : Program} {w : World} {A : Around} {E : Value → Shared → Prop} {s : Shared} {l : Addr} {its : List Value} {ns : List Int} {Q : Value → Shared → Prop} (hh : A.handled = none) (hl : s.heap.IsTuple l its.toArray) (hi : IntsAre its ns)
    (h : ∀ h' tk t', (∀ b o, s.heap.get? b = some o → h'.get? b = some o) → Q (.int ns.sum t') { s with heap := h', toks := tk }) : wpAny (model prog w) A (call (.builtin "sum") [.ref l]) Q E s := by
  obtain ⟨xs, e⟩ := hi.allInts.items
  have hn : numsOf (intItems xs).toList = ns := by rw [← e]; exact hi.numsOf
  rw [nums_intItems] at hn
  rw [e] at hl
  have hlt : l < s.heap.objs.size := by obtain ⟨o, ho, _⟩ := id hl; exact Heap.lt_size ho
  refine PySem.call_sum_walkG (wpAny_pyIter_tuple hl ?_)
  refine ⟨_, _, _, _, _, _, numAt xs, rfl, Walks.tuple (A := A.in1) hh s.heap.objs.size l (Nat.ne_of_lt hlt) (intItems xs), ⟨⟨_, Heap.get?_push_size _ rfl, rfl, rfl⟩, ?_⟩, fun b hb => ?_, fun _ _ => intItems_at, fun h' tk t' hk => ?_⟩
  · obtain ⟨o, ho, hr⟩ := hl
    exact ⟨o, Heap.get?_push_of_some _ ho, hr⟩
  · show b < (s.heap.push _).objs.size
    rw [Heap.size_push]
    simp only [List.mem_cons, List.not_mem_nil, or_false] at hb
    rcases hb with rfl | rfl
    · exact Nat.lt_succ_self _
    · exact Nat.lt_succ_of_lt hlt
  · have := h h' tk t' fun b o hb => hk b o (fun hm => by
      simp only [List.mem_cons, List.not_mem_nil, or_false] at hm
      subst hm
      exact absurd (Heap.lt_size hb) (Nat.lt_irrefl _)) (Heap.get?_push_of_some _ hb)
    rw [preSum_eq, List.take_of_length_le (by simp [intItems]), hn]
    exact this
theorem cr_sumT (hc : X.calm = true) : CallR X (.builtin "sum") (fun vs H Q => ∃ (a : Addr) (ns : List Int), vs = [V.ref a] ∧ SqT X.K H a (ns.map V.int) ∧ Q (.int ns.sum) H) := by
  intro pins s σ H vs us Q I r h
  obtain ⟨a, ns, rfl, hs, q⟩ := h
  obtain ⟨its, rv, hl, _⟩ := I.tuple hs
  rw [Vals.ref1 r]
  exact sum_rawT (I.ok.hd hc) hl rv.ints fun h' tk t' hk => ⟨.int _, H, I.kept hk, ⟨_, rfl⟩, q⟩
theorem maxI_le : ∀ (r : List Int) (a : Int), a ≤ maxI a r ∧ ∀ y ∈ r, y ≤ maxI a r
  | [], a => ⟨Int.le_refl _, fun y h => nomatch h⟩
  | b :: r, a => by
    unfold maxI
    split
    · have := maxI_le r b
      exact ⟨by omega, fun y hy => by rcases List.mem_cons.mp hy with rfl | hy; exact this.1; exact this.2 y hy⟩
    · have := maxI_le r a
      exact ⟨this.1, fun y hy => by rcases List.mem_cons.mp hy with rfl | hy; omega; exact this.2 y hy⟩
theorem maxI_mem : ∀ (r : List Int) (a : Int), maxI a r ∈ a :: r
  | [], a => List.mem_cons_self
  | b :: r, a => by
    unfold maxI
    split
    · exact List.mem_cons_of_mem _ (maxI_mem r b)
    · rcases List.mem_cons.mp (maxI_mem r a) with h | h
      · rw [h]; exact List.mem_cons_self
      · exact List.mem_cons_of_mem _ (List.mem_cons_of_mem _ h)
theorem minI_le : ∀ (r : List Int) (a : Int), minI a r ≤ a ∧ ∀ y ∈ r, minI a r ≤ y
  | [], a => ⟨Int.le_refl _, fun y h => nomatch h⟩
  | b :: r, a => by
    unfold minI
    split
    · have := minI_le r b
      exact ⟨by omega, fun y hy => by rcases List.mem_cons.mp hy with rfl | hy; exact this.1; exact this.2 y hy⟩
    · have := minI_le r a
      exact ⟨this.1, fun y hy => by rcases List.mem_cons.mp hy with rfl | hy; omega; exact this.2 y hy⟩
theorem minI_mem : ∀ (r : List Int) (a : Int), minI a r ∈ a :: r
  | [], a => List.mem_cons_self
  | b :: r, a => by
    unfold minI
    split
    · exact List.mem_cons_of_mem _ (minI_mem r b)
    · rcases List.mem_cons.mp (minI_mem r a) with h | h
      · rw [h]; exact List.mem_cons_self
      · exact List.mem_cons_of_mem _ (List.mem_cons_of_mem _ h)
def tyName : Ty → String
  | .tNone => "NoneType" | .tBool => "bool" | .tInt => "int" | .tStr => "str" | .tTuple => "tuple" | .tList => "list" | .tDict => "dict"
theorem kitB_ty : ∀ t u : Ty, kitB (tyName t) (tyName u) = some (isI t u) := by
  intro t u
  cases t <;> cases u <;> decide +kernel
theorem tyX_rp {K : PySem.W.Frag} {mu F : List Addr} {H : Hp} {S : Store} {v : V} {d : D} {t : Ty} (g : Gd K mu F H S) (r : Rp K mu F H v d) (h : tyOf S d = some t) : TyX K H v (.type (tyName t)) := by
  cases r with
  | non => cases h; exact .base .non
  | bl b => cases h; exact .base (.bl b)
  | int b => cases h; exact .base (.int b)
  | str b => cases h; exact .base (.str b)
  | tup q _ =>
    cases h
    rcases q with (q | ⟨o, q⟩) | ⟨o, its, n, q, c, _⟩
    · exact .base (.tup q)
    · exact .fTuple q
    · exact .kTuple q c
  | lst q _ => cases h; exact .base (.lst q.1)
  | @ref n a q =>
    cases e : S[n]? with
    | none => simp [tyOf, e] at h
    | some c => cases c with
      | obj _ _ => simp [tyOf, e] at h
      | lst xs =>
        simp only [tyOf, e] at h
        cases h
        obtain ⟨vs, h1, _⟩ := g.ref q e
        exact .base (.lst h1)
  | scr _ _ => cases h
theorem isi_ok (t : Ty) {v : V} {H : Hp} {Q : VK} {mu F : List Addr} {S : Store} {d : D} {u : Ty} (g : Gd X.K mu F H S) (r : Rp X.K mu F H v d) (h : tyOf S d = some u) (q : Q (.bl (isI u t)) H) : rIsi X.K [v, .ty (tyName t)] H Q :=
  ⟨v, _, _, _, _, rfl, .ty _, tyX_rp g r h, kit_ty (kitB_ty u t), q⟩

/-- what is called by a built-in's name -/
def biF : Bi → Value
  | .len => .builtin "len" | .int => .type "int" | .abs => .builtin "abs" | .max2 => .builtin "max" | .min2 => .builtin "min" | .maxL => .builtin "max" | .minL => .builtin "min"
  | .sum => .builtin "sum" | .all => .builtin "all" | .any => .builtin "any" | .list => .type "list" | .tuple => .type "tuple" | .gcd => .builtin "math.gcd" | .divmod => .builtin "divmod"
  | .sortedI => .builtin "sorted" | _ => .none
theorem vals_ref {K : PySem.W.Frag} {mu F : List Addr} {H : Hp} {vs : List V} {d : D} (r : Rps K mu F H vs [d]) : ∃ v, vs = [v] ∧ Rp K mu F H v d := by
  cases r with
  | cons r t => cases t; exact ⟨_, rfl, r⟩
theorem vals_ref2 {K : PySem.W.Frag} {mu F : List Addr} {H : Hp} {vs : List V} {d e : D} (r : Rps K mu F H vs [d, e]) : ∃ v w, vs = [v, w] ∧ Rp K mu F H v d ∧ Rp K mu F H w e := by
  cases r with
  | cons r t => obtain ⟨w, rfl, q⟩ := vals_ref t; exact ⟨_, w, rfl, r, q⟩
theorem insI_perm (x : Int) : ∀ l : List Int, (insI x l).Perm (x :: l)
  | [] => List.Perm.refl _
  | y :: r => by
    unfold insI
    split
    · exact List.Perm.refl _
    · exact ((insI_perm x r).cons y).trans (List.Perm.swap x y r)
theorem sortI_perm : ∀ l : List Int, (sortI l).Perm l
  | [] => List.Perm.refl _
  | x :: r => (insI_perm x (sortI r)).trans ((sortI_perm r).cons x)
theorem insI_sorted (x : Int) : ∀ l : List Int, l.Pairwise (· ≤ ·) → (insI x l).Pairwise (· ≤ ·)
  | [], _ => by simp [insI]
  | y :: r, h => by
    unfold insI
    rw [List.pairwise_cons] at h
    split
    · rename_i hx
      rw [List.pairwise_cons]
      refine ⟨fun z hz => ?_, List.pairwise_cons.mpr h⟩
      rcases List.mem_cons.mp hz with rfl | hz
      · exact hx
      · exact Int.le_trans hx (h.1 z hz)
    · rename_i hx
      rw [List.pairwise_cons]
      refine ⟨fun z hz => ?_, insI_sorted x r h.2⟩
      rcases List.mem_cons.mp ((insI_perm x r).mem_iff.mp hz) with rfl | hz
      · omega
      · exact h.1 z hz
theorem sortI_sorted : ∀ l : List Int, (sortI l).Pairwise (· ≤ ·)
  | [] => List.Pairwise.nil
  | x :: r => insI_sorted x _ (sortI_sorted r)
theorem sorted_eq {l l' : List Int} (p : l.Perm l') (h : l.Pairwise (· ≤ ·)) (h' : l'.Pairwise (· ≤ ·)) : l = l' := p.eq_of_pairwise (fun a b _ _ h1 h2 => Int.le_antisymm h1 h2) h h'
theorem bi_ok (k : Bi) (m : Bool) (hc : X.calm = true) (hk : biF k ≠ .none) : CallR X (biF k) (RLof X.K (doBi k m)) := by
  intro pins s σ H vs us Q I rv h
  obtain ⟨mu, F, S, xs, g, r, hw⟩ := h
  have q0 : ∀ {d : D} {v : V}, WP (Rs.ok d S) (Po X.K mu F H Q) → Rp X.K mu F H v d → Q v H := fun {d v} h r => Po.flat g r (show Po X.K mu F H Q d S from h)
  unfold doBi at hw
  simp only [rInt_eq] at hw
  split at hw
  · obtain ⟨v, rfl, r1⟩ := vals_ref r
    split at hw
    · rename_i e
      obtain ⟨a, ws, rfl, ha, ra⟩ := g.seq r1 e
      refine call_len_seq pins s σ H _ us Q I rv ⟨a, ws, rfl, ha, ?_⟩
      rw [ra.length]; exact q0 hw (.int _)
    · exact hw.elim
  · obtain ⟨v, rfl, r1⟩ := vals_ref r
    cases r1
    exact call_int1 pins s σ H _ us Q I rv (.inl ⟨_, rfl, q0 hw (.int _)⟩)
  · obtain ⟨v, rfl, r1⟩ := vals_ref r
    cases r1
    exact call_int1 pins s σ H _ us Q I rv (.inr ⟨_, rfl, q0 hw (.int _)⟩)
  · obtain ⟨v, rfl, r1⟩ := vals_ref r
    cases r1
    exact call_abs pins s σ H _ us Q I rv ⟨_, rfl, q0 hw (.int _)⟩
  · obtain ⟨v, w, rfl, r1, r2⟩ := vals_ref2 r
    cases r1; cases r2
    exact call_max2 hc pins s σ H _ us Q I rv ⟨_, _, rfl, q0 hw (.int _)⟩
  · obtain ⟨v, w, rfl, r1, r2⟩ := vals_ref2 r
    cases r1; cases r2
    exact call_min2 hc pins s σ H _ us Q I rv ⟨_, _, rfl, q0 hw (.int _)⟩
  · obtain ⟨v, rfl, r1⟩ := vals_ref r
    split at hw
    · rename_i e
      obtain ⟨a, ws, rfl, ha, ra⟩ := g.list r1 e
      split at hw
      · rename_i i l ei
        refine cr_max hc pins s σ H _ us Q I rv ⟨a, i :: l, rfl, .inl (.inl (by rw [← ra.of_ints ei]; exact ha)), by simp, fun x hx hx2 => ?_⟩
        have e1 : x = maxI i l := Int.le_antisymm (by rcases List.mem_cons.mp hx with rfl | h; exact (maxI_le l _).1; exact (maxI_le l _).2 x h) (hx2 _ (maxI_mem l i))
        rw [e1]; exact q0 hw (.int _)
      · exact hw.elim
    · exact hw.elim
  · obtain ⟨v, rfl, r1⟩ := vals_ref r
    split at hw
    · rename_i e
      obtain ⟨a, ws, rfl, ha, ra⟩ := g.list r1 e
      split at hw
      · rename_i i l ei
        refine cr_min hc pins s σ H _ us Q I rv ⟨a, i :: l, rfl, .inl (.inl (by rw [← ra.of_ints ei]; exact ha)), by simp, fun x hx hx2 => ?_⟩
        have e1 : x = minI i l := Int.le_antisymm (hx2 _ (minI_mem l i)) (by rcases List.mem_cons.mp hx with rfl | h; exact (minI_le l _).1; exact (minI_le l _).2 x h)
        rw [e1]; exact q0 hw (.int _)
      · exact hw.elim
    · exact hw.elim
  · obtain ⟨v, rfl, r1⟩ := vals_ref r
    split at hw
    · rename_i e
      obtain ⟨a, ws, rfl, ha, ra⟩ := g.seq r1 e
      split at hw
      · rename_i is ei
        rcases ha with ha | ha
        · exact cr_sum hc pins s σ H _ us Q I rv ⟨a, is, rfl, by rw [← ra.of_ints ei]; exact ha, q0 hw (.int _)⟩
        · exact cr_sumT hc pins s σ H _ us Q I rv ⟨a, is, rfl, by rw [← ra.of_ints ei]; exact ha, q0 hw (.int _)⟩
      · exact hw.elim
    · exact hw.elim
  · obtain ⟨v, rfl, r1⟩ := vals_ref r
    split at hw
    · rename_i e
      obtain ⟨a, ws, rfl, ha, ra⟩ := g.list r1 e
      split at hw
      · rename_i bs ei
        exact cr_all hc pins s σ H _ us Q I rv ⟨a, bs, rfl, .inl (.inl (by rw [← ra.of_bls ei]; exact ha)), q0 hw (.bl _)⟩
      · exact hw.elim
    · exact hw.elim
  · obtain ⟨v, rfl, r1⟩ := vals_ref r
    split at hw
    · rename_i e
      obtain ⟨a, ws, rfl, ha, ra⟩ := g.list r1 e
      split at hw
      · rename_i bs ei
        exact cr_any hc pins s σ H _ us Q I rv ⟨a, bs, rfl, .inl (.inl (by rw [← ra.of_bls ei]; exact ha)), q0 hw (.bl _)⟩
      · exact hw.elim
    · exact hw.elim
  · obtain ⟨v, rfl, r1⟩ := vals_ref r
    split at hw
    · rename_i e
      obtain ⟨a, ws, rfl, ha, ra⟩ := g.seq r1 e
      exact call_list_of pins s σ H _ us Q I rv ⟨a, ws, rfl, ha, mkL_ok g ra hw⟩
    · exact hw.elim
  · obtain ⟨v, rfl, r1⟩ := vals_ref r
    split at hw
    · rename_i xs e
      have hw : Po X.K mu F H Q (.tup xs) S := hw
      obtain ⟨a, ws, rfl, ha, ra⟩ := g.seq r1 e
      rcases ha with ha | ha
      · exact call_tuple_of pins s σ H _ us Q I rv ⟨a, ws, rfl, .inl ⟨ha, Po.tup g ra hw⟩⟩
      · exact call_tuple_of pins s σ H _ us Q I rv ⟨a, ws, rfl, .inr ⟨ha, Po.flat g (.tup ha ra) hw⟩⟩
    · exact hw.elim
  · exact absurd rfl hk
  · obtain ⟨v, w, rfl, r1, r2⟩ := vals_ref2 r
    cases r1; cases r2
    exact cr_gcd pins s σ H _ us Q I rv ⟨_, _, rfl, q0 hw (.int _)⟩
  · obtain ⟨v, w, rfl, r1, r2⟩ := vals_ref2 r
    cases r1; cases r2
    split at hw
    · rename_i hd
      simp only [Bool.and_eq_true, decide_eq_true_eq] at hd
      simp only [intK_eq] at hw
      refine call_divmod pins s σ H _ us Q I rv ⟨_, _, rfl, hd, Po.tup g (.cons (.int _) (.cons (.int _) .nil)) (show Po X.K mu F H Q _ S from hw)⟩
    · exact hw.elim
  · exact absurd rfl hk
  · exact absurd rfl hk
  · exact absurd rfl hk
  · exact absurd rfl hk
  · obtain ⟨v, rfl, r1⟩ := vals_ref r
    split at hw
    · rename_i e
      obtain ⟨a, ws, rfl, ha, ra⟩ := g.list r1 e
      split at hw
      · rename_i is ei
        refine cr_sortedI pins s σ H _ us Q I rv ⟨a, is, rfl, .inl (.inl (by rw [← ra.of_ints ei]; exact ha)), fun ns p hp hs hn => ?_⟩
        have e1 : ns = sortI is := sorted_eq (hp.trans (sortI_perm is).symm) hs (sortI_sorted is)
        rw [e1]
        exact mkL_ok g (Rps.ints _) hw p hn
      · exact hw.elim
    · exact hw.elim
  · exact hw.elim
end
end Ev
/-! Ev: enumerate and zip of lists and tuples in any mix -/
namespace Ev
open PySem PySem.Spec
open PyProof.Rows L2

/-- a list (true) or a tuple (false) that is read -/
def SqK (K : PySem.W.Frag) (H : Hp) : Bool → Addr → List V → Prop
  | true, a, xs => SqL K H a xs
  | false, a, xs => SqT K H a xs
def ItK (h : Heap) (it a : Addr) (i : Nat) : Bool → Prop
  | true => h.IsListIter it a i
  | false => h.IsTupleIter it a i
def AtK (h : Heap) (a : Addr) (its : Array Value) : Bool → Prop
  | true => h.IsList a its
  | false => h.IsTuple a its
def bgO (a : Addr) : Bool → Obj
  | true => { cls := .type "list_iterator", data := .fields #[.ref a, .int 0 0] }
  | false => { cls := .type "tuple_iterator", data := .fields #[.ref a, .int 0 0] }
theorem drawK {prog : Program} {w : World} {A : Around} (b : Bool) (hh : A.handled = none) (it a : Addr) (hne : a ≠ it) (items : Array Value) :
    Draws prog w A it [it, a] items.size (fun i v => items[i]? = some v) (fun i h => ItK h it a i b ∧ AtK h a items b) := by
  cases b with
  | true => exact Draws.list hh it a hne items
  | false => exact Draws.tuple hh it a hne items
theorem begK (b : Bool) (a : Addr) (items : Array Value) : Begins (.ref a) (bgO a b) fun h => AtK h a items b := by
  cases b with
  | true => exact begins_list a items
  | false => exact begins_tuple a items
theorem ItK.new {h : Heap} {it a : Addr} {b : Bool} (e : h.get? it = some (bgO a b)) : ItK h it a 0 b := by
  cases b with
  | true => exact ⟨_, e, rfl, rfl⟩
  | false => exact ⟨_, e, rfl, rfl⟩
theorem ItK.at {h h' : Heap} {it a : Addr} {i : Nat} {b : Bool} (x : ItK h it a i b) (k : ∀ o, h.get? it = some o → h'.get? it = some o) : ItK h' it a i b := by
  cases b with
  | true => exact Heap.IsListIter.at x k
  | false => exact Heap.IsTupleIter.at x k
theorem ItK.obj {h : Heap} {it a : Addr} {i : Nat} {b : Bool} (x : ItK h it a i b) : ∃ o, h.get? it = some o ∧ ∀ v, o.data ≠ .cell v := by
  cases b with
  | true => obtain ⟨o, e, _, d⟩ := x; exact ⟨o, e, fun v q => by rw [d] at q; cases q⟩
  | false => obtain ⟨o, e, _, d⟩ := x; exact ⟨o, e, fun v q => by rw [d] at q; cases q⟩
theorem AtK.lt {h : Heap} {a : Addr} {its : Array Value} {b : Bool} (x : AtK h a its b) : a < h.objs.size := by
  cases b with
  | true => obtain ⟨_, e, _⟩ := x; exact Heap.lt_size e
  | false => obtain ⟨_, e, _⟩ := x; exact Heap.lt_size e
theorem AtK.kept {h h' : Heap} {a : Addr} {its : Array Value} {b : Bool} (x : AtK h a its b) (k : ∀ c o, h.get? c = some o → h'.get? c = some o) : AtK h' a its b := (begK b a its).keeps h h' x k
theorem invK {X : Cx} {pins : List (Addr × Obj)} {σ : L2.St} {H : Hp} {s : Shared} {b : Bool} {a : Addr} {xs : List V} (I : Inv X pins σ H s) (h : SqK X.K H b a xs) : ∃ its : List Value, Vals xs its ∧ AtK s.heap a its.toArray b ∧ xs.length ≤ sizeLine := by
  cases b with
  | true => obtain ⟨its, r, p, z⟩ := I.list h; exact ⟨its, r, p.isList, z⟩
  | false => obtain ⟨its, r, p, z⟩ := I.tuple h; exact ⟨its, r, p, z⟩
theorem invK_inj {X : Cx} {pins : List (Addr × Obj)} {σ : L2.St} {H : Hp} {s : Shared} {b : Bool} {a : Addr} {xs ys : List V} (I : Inv X pins σ H s) (h : SqK X.K H b a xs) (h' : SqK X.K H b a ys) : xs = ys := by
  cases b with
  | true => exact I.list_inj h h'
  | false => exact I.tuple_inj h h'

/-- turns that give new tuples; row tells them -/
def ItC (row : Nat → Hp → List V → Prop) (stop : Nat → Hp → Prop) : It :=
  ⟨fun i H => ∃ ys, row i H ys, fun i H v H' => ∃ T xs, v = .ref T ∧ H T = none ∧ H' = upd H T (.tup xs) ∧ ∀ ys, row i H ys → ys = xs, stop⟩
theorem turn_W {P : Program} {w : World} {K : PySem.W.Frag} {elts : List Expr} {kk : Nat} {tpos : Pos} {row : Nat → Hp → List V → Prop} {stop : Nat → Hp → Prop} {fp : List Addr} {it : Addr} {tn : Nat → Heap → Prop} (mem : it ∈ fp)
    (obj : ∀ i h, tn i h → ∀ b ∈ fp, ∃ o, h.get? b = some o ∧ ∀ v, o.data ≠ .cell v) (keep : ∀ i h h', tn i h → (∀ b ∈ fp, ∀ o, h.get? b = some o → h'.get? b = some o) → tn i h')
    (self : ∀ (A : Around) (i : Nat) (s : Shared) (Q : Value → Shared → Prop) (E : Value → Shared → Prop), tn i s.heap → Q (.ref it) s → wpAny (model P w) A (pyIter (.ref it)) Q E s)
    (view : ∀ (X : Cx), X.prog = P → X.w = w → X.K = K → X.A.handled = none → ∀ (i : Nat) (pins : List (Addr × Obj)) (s : Shared) (σ : L2.St) (H : Hp), Inv X pins σ H s → tn i s.heap → ((∃ ys, row i H ys) ∨ stop i H) →
      ∃ (fpW wr : List Addr) (n : Nat) (Pt : Nat → Array Value → Prop) (St : Nat → Heap → Prop) (Mid : Nat → Addr → Heap → Prop), WalksT P w X.A it fpW wr n Pt St Mid ∧ (∀ b ∈ wr, b ∈ fp) ∧ St i s.heap ∧ (∀ j h', St j h' → tn j h') ∧
        ((∃ ys, row i H ys) → i < n) ∧ (stop i H → i = n) ∧ ∀ vals, Pt i vals → ∃ ys, ys.length ≤ sizeLine ∧ Vals ys vals.toList ∧ ∀ zs, row i H zs → zs = ys) :
    Turn P w K (.Tuple elts kk tpos) (ItC row stop) fp it tn where
  mem := mem
  obj := obj
  keep := keep
  self := self
  item := by
    intro X hP hw hK hc i pins s σ H E I hf st hg
    obtain ⟨fpW, wr, n, Pt, St, Mid, W, hwr, hst, htn, hlt, _, hv⟩ := view X hP hw hK (I.ok.hd hc) i pins s σ H I st (.inl hg)
    subst hP hw hK
    refine W.item i s _ E (hlt hg) hst fun T vals h' tk hp hT hIT hM hk => ?_
    obtain ⟨ys, hz, rv, hrow⟩ := hv vals hp
    refine ⟨_, rfl, W.go elts kk tpos i T { s with heap := h', toks := tk } _ E hM fun h'' hs'' hk'' => ?_⟩
    obtain ⟨o, ho, hcl, m, hd⟩ := hIT
    have ho'' : h''.get? T = some o := hk'' T o (W.apart i T h' hM) ho
    have new : ObjOk X.prog X.w (upd H T (.tup ys)) h'' T (.tup ys) := ⟨hz, vals.toList, rv, o, ho'', hcl, m, by simpa using hd⟩
    have I1 : Inv X pins σ (upd H T (.tup ys)) { s with heap := h'', toks := tk } :=
      I.turnedNew (t' := tk) (ch := fp) (fun b ob hb q => hk'' b ob (fun z => hb (hwr b z)) (hk b ob (fun z => hb (hwr b z)) q)) hf hT new
    refine ⟨.ref T, _, I1, rfl, ⟨T, ys, rfl, I.hok.fresh hT, rfl, hrow⟩, htn _ _ hs'', fun b hb => ?_⟩
    obtain ⟨ob, hob, _⟩ := obj i s.heap st b hb
    rw [upd_ne (Nat.ne_of_lt (Nat.lt_of_lt_of_le (Heap.lt_size hob) hT))]
    exact (hf b hb).1
  done := by
    intro X hP hw hK hc i pins s σ H E I hf st hg
    obtain ⟨fpW, wr, n, Pt, St, Mid, W, hwr, hst, htn, _, hend, _⟩ := view X hP hw hK (I.ok.hd hc) i pins s σ H I st (.inr hg)
    subst hP hw hK
    have e := hend hg
    subst e
    exact W.done s _ E hst fun h' tk hk => ⟨rfl, I.turnedL (t' := tk) (ch := fp) (fun b ob hb q => hk b ob (fun z => hb (hwr b z)) q) hf⟩

/-! ### enumerate -/
def rowE (K : PySem.W.Frag) (b : Bool) (a : Addr) : Nat → Hp → List V → Prop := fun i H ys => ∃ xs x, SqK K H b a xs ∧ xs[i]? = some x ∧ ys = [.int (i : Nat), x]
def stopE (K : PySem.W.Frag) (b : Bool) (a : Addr) : Nat → Hp → Prop := fun i H => ∃ xs, SqK K H b a xs ∧ xs.length = i
theorem turn_enumK {P : Program} {w : World} {K : PySem.W.Frag} {elts : List Expr} {kk : Nat} {tpos : Pos} (b : Bool) (a e it : Addr) (hei : e ≠ it) (hae : e ≠ a) (hai : a ≠ it) :
    Turn P w K (.Tuple elts kk tpos) (ItC (rowE K b a) (stopE K b a)) [e, it] e (fun i h => (∃ old, IsEnum h e it (0 + (i : Int)) old) ∧ ItK h it a i b) := by
  refine turn_W (by simp) (fun i h st c hc => ?_) (fun i h h' st k => ?_) (fun A i s Q E st h => ?_) (fun X hP hw hK hh i pins s σ H I st hg => ?_)
  · obtain ⟨⟨old, he⟩, hi⟩ := st
    have e' : c = e ∨ c = it := by simpa using hc
    rcases e' with rfl | rfl
    · exact ⟨_, he, fun v q => nomatch q⟩
    · exact hi.obj
  · obtain ⟨⟨old, he⟩, hi⟩ := st
    exact ⟨⟨old, k e (by simp) _ he⟩, hi.at fun o q => k it (by simp) o q⟩
  · obtain ⟨⟨old, he⟩, _⟩ := st
    exact wpAny_pyIter_enum he h
  · subst hP hw hK
    have hx : ∃ xs, SqK X.K H b a xs := by
      rcases hg with ⟨ys, xs, x, h, _⟩ | ⟨xs, h, _⟩ <;> exact ⟨xs, h⟩
    obtain ⟨xs, hx⟩ := hx
    obtain ⟨its, rv, hat, hz⟩ := invK I hx
    have W := WalksT.enumFrom (prog := X.prog) (w := X.w) (A := X.A) 0 (drawK (prog := X.prog) (w := X.w) (A := X.A.in1) b hh it a hai its.toArray) e hei (by simp [hei, hae]) (by simp)
    have hl := rv.length
    refine ⟨_, _, _, _, _, _, W, fun c hc => hc, ⟨st.1, st.2, hat⟩, fun j h' q => ⟨q.1, q.2.1⟩, fun ⟨ys, xs', x, h1, h2, _⟩ => ?_, fun ⟨xs', h1, h2⟩ => ?_, fun vals hv => ?_⟩
    · rw [invK_inj I h1 hx] at h2
      rw [List.size_toArray, ← hl]
      exact (List.getElem?_eq_some_iff.mp h2).1
    · rw [invK_inj I h1 hx] at h2
      rw [List.size_toArray, ← hl, h2]
    · obtain ⟨t, x, h1, rfl⟩ := hv
      rcases hg with ⟨ys, xs', x', g1, g2, rfl⟩ | ⟨xs', g1, g2⟩
      · rw [invK_inj I g1 hx] at g2
        obtain ⟨u, hu, ru⟩ := rv.get g2
        have e1 : u = x := by
          have : its.toArray[i]? = some u := by simpa using hu
          rw [this] at h1; exact Option.some.inj h1
        subst e1
        refine ⟨[.int (i : Nat), x'], by show 2 ≤ sizeLine; decide, .cons ⟨t, by simp⟩ (.cons ru .nil), fun zs ⟨ws, y, q1, q2, q3⟩ => ?_⟩
        rw [invK_inj I q1 hx, g2] at q2
        cases q2
        exact q3
      · rw [invK_inj I g1 hx] at g2
        have : its.toArray[i]? = none := by simp; omega
        rw [this] at h1; cases h1

/-! ### zip of 2 -/
def row2 (K : PySem.W.Frag) (b1 b2 : Bool) (a1 a2 : Addr) : Nat → Hp → List V → Prop := fun i H ys => ∃ xs1 xs2 x1 x2, SqK K H b1 a1 xs1 ∧ SqK K H b2 a2 xs2 ∧ xs1[i]? = some x1 ∧ xs2[i]? = some x2 ∧ ys = [x1, x2]
def stop2 (K : PySem.W.Frag) (b1 b2 : Bool) (a1 a2 : Addr) : Nat → Hp → Prop := fun i H => ∃ xs1 xs2, SqK K H b1 a1 xs1 ∧ SqK K H b2 a2 xs2 ∧ min xs1.length xs2.length = i
theorem turn_zipK2 {P : Program} {w : World} {K : PySem.W.Frag} {elts : List Expr} {kk : Nat} {tpos : Pos} (b1 b2 : Bool) {a1 a2 z TI TO i1 i2 : Addr} (Z : ZipSep2 z TI TO i1 i2 [i1, a1] [i2, a2]) (h1 : a1 ≠ i1) (h2 : a2 ≠ i2) :
    Turn P w K (.Tuple elts kk tpos) (ItC (row2 K b1 b2 a1 a2) (stop2 K b1 b2 a1 a2)) [z, TI, TO, i1, i2] z (fun i h => IsZip h z TI TO .none ∧ IsTupOf2 h TI (.ref i1) (.ref i2) ∧ (∃ v1 v2, IsTupOf2 h TO v1 v2) ∧ ItK h i1 a1 i b1 ∧ ItK h i2 a2 i b2) := by
  refine turn_W (by simp) (fun i h st c hc => ?_) (fun i h h' st k => ?_) (fun A i s Q E st h => ?_) (fun X hP hw hK hh i pins s σ H I st hg => ?_)
  · obtain ⟨hz, hTI, ⟨v1, v2, hTO⟩, hi1, hi2⟩ := st
    have e' : c = z ∨ c = TI ∨ c = TO ∨ c = i1 ∨ c = i2 := by simpa using hc
    rcases e' with rfl | rfl | rfl | rfl | rfl
    · exact ⟨_, hz, fun v q => nomatch q⟩
    · exact ⟨_, hTI, fun v q => nomatch q⟩
    · exact ⟨_, hTO, fun v q => nomatch q⟩
    · exact hi1.obj
    · exact hi2.obj
  · obtain ⟨hz, hTI, ⟨v1, v2, hTO⟩, hi1, hi2⟩ := st
    exact ⟨k z (by simp) _ hz, k TI (by simp) _ hTI, ⟨v1, v2, k TO (by simp) _ hTO⟩, hi1.at fun o q => k i1 (by simp) o q, hi2.at fun o q => k i2 (by simp) o q⟩
  · exact wpAny_pyIter_zip st.1 h
  · subst hP hw hK
    have hx : ∃ xs1 xs2, SqK X.K H b1 a1 xs1 ∧ SqK X.K H b2 a2 xs2 := by
      rcases hg with ⟨_, xs1, xs2, x1, x2, g1, g2, _⟩ | ⟨xs1, xs2, g1, g2, _⟩ <;> exact ⟨xs1, xs2, g1, g2⟩
    obtain ⟨xs1, xs2, hx1, hx2⟩ := hx
    obtain ⟨its1, rv1, hat1, hz1⟩ := invK I hx1
    have hl1 := rv1.length
    obtain ⟨its2, rv2, hat2, hz2⟩ := invK I hx2
    have hl2 := rv2.length
    have W := WalksT.zipD2 (prog := X.prog) (w := X.w) (A := X.A) Z (drawK (prog := X.prog) (w := X.w) (A := X.A.in1) b1 hh i1 a1 h1 its1.toArray) (drawK (prog := X.prog) (w := X.w) (A := X.A.in1) b2 hh i2 a2 h2 its2.toArray)
    obtain ⟨hz, hTI, ⟨v1, v2, hTO⟩, hi1, hi2⟩ := st
    refine ⟨_, _, _, _, _, _, W, fun c hc => ?_, ⟨hz, hTI, ⟨v1, v2, hTO⟩, ⟨hi1, hat1⟩, ⟨hi2, hat2⟩⟩, fun j h' q => ?_, fun ⟨ys, ws1, ws2, x1, x2, g1, g2, k1, k2, _⟩ => ?_, fun ⟨ws1, ws2, g1, g2, q2⟩ => ?_, fun vals hv => ?_⟩
    · have e' : c = z ∨ c = TO ∨ c = i1 ∨ c = i2 := by simpa using hc
      rcases e' with rfl | rfl | rfl | rfl <;> simp
    · obtain ⟨q1, q2, q3, p1, p2⟩ := q
      exact ⟨q1, q2, q3, p1.1, p2.1⟩
    · rw [invK_inj I g1 hx1] at k1; rw [invK_inj I g2 hx2] at k2
      have m1 := (List.getElem?_eq_some_iff.mp k1).1
      have m2 := (List.getElem?_eq_some_iff.mp k2).1
      simp only [List.size_toArray]
      omega
    · rw [invK_inj I g1 hx1, invK_inj I g2 hx2] at q2
      simp only [List.size_toArray]
      omega
    · obtain ⟨y1, y2, r1, r2, rfl⟩ := hv
      rcases hg with ⟨ys, ws1, ws2, x1, x2, g1, g2, k1, k2, rfl⟩ | ⟨ws1, ws2, g1, g2, q2⟩
      · rw [invK_inj I g1 hx1] at k1; rw [invK_inj I g2 hx2] at k2
        obtain ⟨u1, hu1, ru1⟩ := rv1.get k1
        have e1 : u1 = y1 := by
          have : its1.toArray[i]? = some u1 := by simpa using hu1
          rw [this] at r1; exact Option.some.inj r1
        subst e1
        obtain ⟨u2, hu2, ru2⟩ := rv2.get k2
        have e2 : u2 = y2 := by
          have : its2.toArray[i]? = some u2 := by simpa using hu2
          rw [this] at r2; exact Option.some.inj r2
        subst e2
        refine ⟨[x1, x2], by show 2 ≤ sizeLine; decide, .cons ru1 (.cons ru2 (.nil)), fun zs ⟨zs1, zs2, z1, z2, f1, f2, l1, l2, q3⟩ => ?_⟩
        rw [invK_inj I f1 hx1, k1] at l1; cases l1
        rw [invK_inj I f2 hx2, k2] at l2; cases l2
        exact q3
      · rw [invK_inj I g1 hx1, invK_inj I g2 hx2] at q2
        exfalso
        have m1 : i < its1.length := by
          have := (Array.getElem?_eq_some_iff.mp r1).1
          simpa using this
        have m2 : i < its2.length := by
          have := (Array.getElem?_eq_some_iff.mp r2).1
          simpa using this
        omega

/-! ### zip of 3 -/
def row3 (K : PySem.W.Frag) (b1 b2 b3 : Bool) (a1 a2 a3 : Addr) : Nat → Hp → List V → Prop := fun i H ys => ∃ xs1 xs2 xs3 x1 x2 x3, SqK K H b1 a1 xs1 ∧ SqK K H b2 a2 xs2 ∧ SqK K H b3 a3 xs3 ∧ xs1[i]? = some x1 ∧ xs2[i]? = some x2 ∧ xs3[i]? = some x3 ∧ ys = [x1, x2, x3]
def stop3 (K : PySem.W.Frag) (b1 b2 b3 : Bool) (a1 a2 a3 : Addr) : Nat → Hp → Prop := fun i H => ∃ xs1 xs2 xs3, SqK K H b1 a1 xs1 ∧ SqK K H b2 a2 xs2 ∧ SqK K H b3 a3 xs3 ∧ min (min xs1.length xs2.length) xs3.length = i
theorem turn_zipK3 {P : Program} {w : World} {K : PySem.W.Frag} {elts : List Expr} {kk : Nat} {tpos : Pos} (b1 b2 b3 : Bool) {a1 a2 a3 z TI TO i1 i2 i3 : Addr} (Z : ZipSep3 z TI TO i1 i2 i3 [i1, a1] [i2, a2] [i3, a3]) (h1 : a1 ≠ i1) (h2 : a2 ≠ i2) (h3 : a3 ≠ i3) :
    Turn P w K (.Tuple elts kk tpos) (ItC (row3 K b1 b2 b3 a1 a2 a3) (stop3 K b1 b2 b3 a1 a2 a3)) [z, TI, TO, i1, i2, i3] z (fun i h => IsZip h z TI TO .none ∧ IsTupOf3 h TI (.ref i1) (.ref i2) (.ref i3) ∧ (∃ v1 v2 v3, IsTupOf3 h TO v1 v2 v3) ∧ ItK h i1 a1 i b1 ∧ ItK h i2 a2 i b2 ∧ ItK h i3 a3 i b3) := by
  refine turn_W (by simp) (fun i h st c hc => ?_) (fun i h h' st k => ?_) (fun A i s Q E st h => ?_) (fun X hP hw hK hh i pins s σ H I st hg => ?_)
  · obtain ⟨hz, hTI, ⟨v1, v2, v3, hTO⟩, hi1, hi2, hi3⟩ := st
    have e' : c = z ∨ c = TI ∨ c = TO ∨ c = i1 ∨ c = i2 ∨ c = i3 := by simpa using hc
    rcases e' with rfl | rfl | rfl | rfl | rfl | rfl
    · exact ⟨_, hz, fun v q => nomatch q⟩
    · exact ⟨_, hTI, fun v q => nomatch q⟩
    · exact ⟨_, hTO, fun v q => nomatch q⟩
    · exact hi1.obj
    · exact hi2.obj
    · exact hi3.obj
  · obtain ⟨hz, hTI, ⟨v1, v2, v3, hTO⟩, hi1, hi2, hi3⟩ := st
    exact ⟨k z (by simp) _ hz, k TI (by simp) _ hTI, ⟨v1, v2, v3, k TO (by simp) _ hTO⟩, hi1.at fun o q => k i1 (by simp) o q, hi2.at fun o q => k i2 (by simp) o q, hi3.at fun o q => k i3 (by simp) o q⟩
  · exact wpAny_pyIter_zip st.1 h
  · subst hP hw hK
    have hx : ∃ xs1 xs2 xs3, SqK X.K H b1 a1 xs1 ∧ SqK X.K H b2 a2 xs2 ∧ SqK X.K H b3 a3 xs3 := by
      rcases hg with ⟨_, xs1, xs2, xs3, x1, x2, x3, g1, g2, g3, _⟩ | ⟨xs1, xs2, xs3, g1, g2, g3, _⟩ <;> exact ⟨xs1, xs2, xs3, g1, g2, g3⟩
    obtain ⟨xs1, xs2, xs3, hx1, hx2, hx3⟩ := hx
    obtain ⟨its1, rv1, hat1, hz1⟩ := invK I hx1
    have hl1 := rv1.length
    obtain ⟨its2, rv2, hat2, hz2⟩ := invK I hx2
    have hl2 := rv2.length
    obtain ⟨its3, rv3, hat3, hz3⟩ := invK I hx3
    have hl3 := rv3.length
    have W := WalksT.zipD3 (prog := X.prog) (w := X.w) (A := X.A) Z (drawK (prog := X.prog) (w := X.w) (A := X.A.in1) b1 hh i1 a1 h1 its1.toArray) (drawK (prog := X.prog) (w := X.w) (A := X.A.in1) b2 hh i2 a2 h2 its2.toArray) (drawK (prog := X.prog) (w := X.w) (A := X.A.in1) b3 hh i3 a3 h3 its3.toArray)
    obtain ⟨hz, hTI, ⟨v1, v2, v3, hTO⟩, hi1, hi2, hi3⟩ := st
    refine ⟨_, _, _, _, _, _, W, fun c hc => ?_, ⟨hz, hTI, ⟨v1, v2, v3, hTO⟩, ⟨hi1, hat1⟩, ⟨hi2, hat2⟩, ⟨hi3, hat3⟩⟩, fun j h' q => ?_, fun ⟨ys, ws1, ws2, ws3, x1, x2, x3, g1, g2, g3, k1, k2, k3, _⟩ => ?_, fun ⟨ws1, ws2, ws3, g1, g2, g3, q2⟩ => ?_, fun vals hv => ?_⟩
    · have e' : c = z ∨ c = TO ∨ c = i1 ∨ c = i2 ∨ c = i3 := by simpa using hc
      rcases e' with rfl | rfl | rfl | rfl | rfl <;> simp
    · obtain ⟨q1, q2, q3, p1, p2, p3⟩ := q
      exact ⟨q1, q2, q3, p1.1, p2.1, p3.1⟩
    · rw [invK_inj I g1 hx1] at k1; rw [invK_inj I g2 hx2] at k2; rw [invK_inj I g3 hx3] at k3
      have m1 := (List.getElem?_eq_some_iff.mp k1).1
      have m2 := (List.getElem?_eq_some_iff.mp k2).1
      have m3 := (List.getElem?_eq_some_iff.mp k3).1
      simp only [List.size_toArray]
      omega
    · rw [invK_inj I g1 hx1, invK_inj I g2 hx2, invK_inj I g3 hx3] at q2
      simp only [List.size_toArray]
      omega
    · obtain ⟨y1, y2, y3, r1, r2, r3, rfl⟩ := hv
      rcases hg with ⟨ys, ws1, ws2, ws3, x1, x2, x3, g1, g2, g3, k1, k2, k3, rfl⟩ | ⟨ws1, ws2, ws3, g1, g2, g3, q2⟩
      · rw [invK_inj I g1 hx1] at k1; rw [invK_inj I g2 hx2] at k2; rw [invK_inj I g3 hx3] at k3
        obtain ⟨u1, hu1, ru1⟩ := rv1.get k1
        have e1 : u1 = y1 := by
          have : its1.toArray[i]? = some u1 := by simpa using hu1
          rw [this] at r1; exact Option.some.inj r1
        subst e1
        obtain ⟨u2, hu2, ru2⟩ := rv2.get k2
        have e2 : u2 = y2 := by
          have : its2.toArray[i]? = some u2 := by simpa using hu2
          rw [this] at r2; exact Option.some.inj r2
        subst e2
        obtain ⟨u3, hu3, ru3⟩ := rv3.get k3
        have e3 : u3 = y3 := by
          have : its3.toArray[i]? = some u3 := by simpa using hu3
          rw [this] at r3; exact Option.some.inj r3
        subst e3
        refine ⟨[x1, x2, x3], by show 3 ≤ sizeLine; decide, .cons ru1 (.cons ru2 (.cons ru3 (.nil))), fun zs ⟨zs1, zs2, zs3, z1, z2, z3, f1, f2, f3, l1, l2, l3, q3⟩ => ?_⟩
        rw [invK_inj I f1 hx1, k1] at l1; cases l1
        rw [invK_inj I f2 hx2, k2] at l2; cases l2
        rw [invK_inj I f3 hx3, k3] at l3; cases l3
        exact q3
      · rw [invK_inj I g1 hx1, invK_inj I g2 hx2, invK_inj I g3 hx3] at q2
        exfalso
        have m1 : i < its1.length := by
          have := (Array.getElem?_eq_some_iff.mp r1).1
          simpa using this
        have m2 : i < its2.length := by
          have := (Array.getElem?_eq_some_iff.mp r2).1
          simpa using this
        have m3 : i < its3.length := by
          have := (Array.getElem?_eq_some_iff.mp r3).1
          simpa using this
        omega
end Ev
namespace PySem
set_option maxHeartbeats 1000000 in
theorem ev_enumerate_newB {v : Value} {o : Obj} {H : Heap → Prop} (B : Begins v o H) :
    Meets (Builtin.«enumerate.__new__» ⟨[.type "enumerate", v], []⟩) (fun _ R s => H s.heap ∧
      R (.ok (.ret (.ref (s.heap.push o).objs.size))) { s with heap := (s.heap.push o).push { cls := .type "enumerate", data := .fields #[.none, .bool false, .ref s.heap.objs.size, rawInt 0, .none, .none] } }) :=
  .of_wp fun prog w A R s h => by
    obtain ⟨hp, g, d, tk, os⟩ := s; obtain ⟨h1, h⟩ := h
    have hsub := sub_enumerate
    have q1 : ∀ {A' : Around} {E : Value → Shared → Prop} {Q : Value → Shared → Prop}, Q (.ref hp.objs.size) ⟨hp.push o, g, d, tk, os⟩ → wpAny (model prog w) A' (pyIter v) Q E ⟨hp, g, d, tk, os⟩ :=
      fun q => B.iter prog w _ _ ⟨hp, g, d, tk, os⟩ _ h1 q
    wp_walk using q1
    refine wpAny_stack_any fun st => wpAny_pure ?_
    split
    · rename_i c _ _ _ _ _
      cases (c == Value.type "enumerate")
      · wp_walk using q1
        exact ⟨_, rfl, h⟩
      · wp_walk using q1
        exact ⟨_, rfl, h⟩
    · wp_walk using q1
      exact ⟨_, rfl, h⟩
theorem ev_enum_begins {prog : Program} {w : World} {A : Around} {E : Value → Shared → Prop} {s : Shared} {v : Value} {o : Obj} {H : Heap → Prop} {Q : Value → Shared → Prop} (B : Begins v o H) (h1 : H s.heap)
    (h : ∀ h', IsEnum h' (s.heap.objs.size + 1) s.heap.objs.size 0 .none → h'.get? s.heap.objs.size = some o → h'.objs.size = s.heap.objs.size + 2 →
      (∀ b o, s.heap.get? b = some o → h'.get? b = some o) → Q (.ref (s.heap.objs.size + 1)) { s with heap := h' }) :
    wpAny (model prog w) A (call (.type "enumerate") [v]) Q E s := by
  refine callType_new F.called_enumerate (by decide) (F.typeCall_enumerate_1 _) (F.newCall_enumerate_1 _) (fun obj => F.args_object_init_2 obj _) F.entry_enumerate_new
    (ev_enumerate_newB B) ⟨h1, ?_⟩
  have hz : (s.heap.push o).objs.size = s.heap.objs.size + 1 := Heap.size_push ..
  show _ ∧ _
  rw [hz]
  have he : IsEnum ((s.heap.push o).push { cls := .type "enumerate", data := .fields #[.none, .bool false, .ref s.heap.objs.size, rawInt 0, .none, .none] }) (s.heap.objs.size + 1) s.heap.objs.size 0 .none := by
    have := Heap.get?_push_size (s.heap.push o) (o := { cls := .type "enumerate", data := .fields #[.none, .bool false, .ref s.heap.objs.size, rawInt 0, .none, .none] }) rfl
    rw [hz] at this; exact this
  refine ⟨⟨_, he, rfl⟩, h _ he (Heap.get?_push_of_some _ (Heap.get?_push_size _ B.free)) (by rw [Heap.size_push, hz]) fun b o x => Heap.get?_push_of_some _ (Heap.get?_push_of_some _ x)⟩
end PySem
/-! Ev: what a for or a comprehension walks -/
namespace Ev
open PySem PySem.Spec
open PyProof.Rows L2
section
variable {X : Cx}
def iEnK (K : PySem.W.Frag) (ta : TA) : TI := fun σ H R => ta σ H fun vs H1 => ∃ b a, vs = [.ref a] ∧ (∃ xs, SqK K H1 b a xs) ∧ R (ItC (rowE K b a) (stopE K b a)) H1
theorem pi_enK {e : Expr} {ta : TA} {p pos tpos : Pos} {elts : List Expr} {kk : Nat} (hg : Gl X "enumerate") (hm : X.mg "enumerate" = none) (ha : PA X [e] ta) (hs : starEach [e] X.env = [(false, eval e X.env)]) :
    PI X (.Tuple elts kk tpos) (.Call (.Name "enumerate" p) [e] [] pos) (iEnK X.K ta) := by
  refine ⟨fun pins s σ H R I h => ?_⟩
  refine Call_ (ld_blt I hg hm boot_enumerate (PyProof.Rows.callWith_type1 (thn (ha.run pos pins s σ H _ I h) fun us s1 ⟨vs, H1, I1, r1, q1⟩ => ?_) hs rfl))
  obtain ⟨b, a, ex, ⟨xs, hq⟩, q⟩ := q1
  subst ex
  cases r1 with
  | cons r rr =>
    cases rr
    cases r
    obtain ⟨its, rv, hat, hz⟩ := invK I1 hq
    have hlt := hat.lt
    refine PySem.ev_enum_begins (begK b a its.toArray) hat fun h' he hit hsz hk => wpAny_pyIter_enum he ?_
    have I2 : Inv X pins σ H1 { s1 with heap := h' } := I1.kept (t' := s1.toks) hk
    refine ⟨s1.heap.objs.size + 1, [s1.heap.objs.size + 1, s1.heap.objs.size], _, _, H1, rfl, I2, turn_enumK b a (s1.heap.objs.size + 1) s1.heap.objs.size (Nat.succ_ne_self _) (Nat.ne_of_gt (Nat.lt_succ_of_lt hlt)) (Nat.ne_of_lt hlt), ⟨⟨.none, he⟩, ItK.new hit⟩, fun c hc => ?_, q⟩
    have e' : c = s1.heap.objs.size + 1 ∨ c = s1.heap.objs.size := by simpa using hc
    have hle : s1.heap.objs.size ≤ c := by
      rcases e' with z | z
      · rw [z]; exact Nat.le_add_right _ _
      · rw [z]; exact Nat.le_refl _
    exact I1.fpOk hle (I1.hok.fresh hle)
def iZpK (K : PySem.W.Frag) (ta : TA) : TI := fun σ H R => ta σ H fun vs H1 => ∃ b1 b2 a1 a2, vs = [.ref a1, .ref a2] ∧ (∃ xs, SqK K H1 b1 a1 xs) ∧ (∃ xs, SqK K H1 b2 a2 xs) ∧ R (ItC (row2 K b1 b2 a1 a2) (stop2 K b1 b2 a1 a2)) H1
theorem pi_zpK {e e2 : Expr} {ta : TA} {p pos tpos : Pos} {elts : List Expr} {kk : Nat} (hg : Gl X "zip") (hm : X.mg "zip" = none) (ha : PA X [e, e2] ta)
    (hs : starEach [e, e2] X.env = (false, eval e X.env) :: starEach [e2] X.env) (hpl : (backTo pos (starEach [e2] X.env)).any (·.1) = false) :
    PI X (.Tuple elts kk tpos) (.Call (.Name "zip" p) [e, e2] [] pos) (iZpK X.K ta) := by
  refine ⟨fun pins s σ H R I h => ?_⟩
  refine Call_ (ld_blt I hg hm PyProof.Rows.boot_zip (PyProof.Rows.callWith_type1 (thn (ha.run pos pins s σ H _ I h) fun us s1 ⟨vs, H1, I1, r1, q1⟩ => ?_) hs hpl))
  obtain ⟨b1, b2, a1, a2, ex, ⟨xs1, hq1⟩, ⟨xs2, hq2⟩, q⟩ := q1
  subst ex
  cases r1 with
  | cons r rr =>
    cases rr with
    | cons r' rr =>
      cases rr
      cases r
      cases r'
      obtain ⟨its1, rv1, hat1, _⟩ := invK I1 hq1
      obtain ⟨its2, rv2, hat2, _⟩ := invK I1 hq2
      refine zip_begins2 (begK b1 a1 its1.toArray) (begK b2 a2 its2.toArray) hat1 hat2 fun h' hz hTI hTO h1 h2 hsz hk => wpAny_pyIter_zip hz ?_
      have I2 : Inv X pins σ H1 { s1 with heap := h' } := I1.kept (t' := s1.toks) hk
      refine ⟨_, [s1.heap.objs.size + 4, s1.heap.objs.size + 2, s1.heap.objs.size + 3, s1.heap.objs.size, s1.heap.objs.size + 1], _, _, H1, rfl, I2,
        turn_zipK2 b1 b2 (zip_sep2 (fp1 := [a1]) (fp2 := [a2]) (by simpa using hat1.lt) (by simpa using hat2.lt)) (Nat.ne_of_lt hat1.lt) (Nat.ne_of_lt (Nat.lt_succ_of_lt hat2.lt)), ⟨hz, hTI, ⟨_, _, hTO⟩, ItK.new h1, ItK.new h2⟩, fun c hc => ?_, q⟩
      have e' : c = s1.heap.objs.size + 4 ∨ c = s1.heap.objs.size + 2 ∨ c = s1.heap.objs.size + 3 ∨ c = s1.heap.objs.size ∨ c = s1.heap.objs.size + 1 := by simpa using hc
      have hle : s1.heap.objs.size ≤ c := by
        rcases e' with z | z | z | z | z
        · rw [z]; exact Nat.le_add_right _ _
        · rw [z]; exact Nat.le_add_right _ _
        · rw [z]; exact Nat.le_add_right _ _
        · rw [z]; exact Nat.le_refl _
        · rw [z]; exact Nat.le_add_right _ _
      exact I1.fpOk hle (I1.hok.fresh hle)
def iZp3K (K : PySem.W.Frag) (ta : TA) : TI := fun σ H R => ta σ H fun vs H1 => ∃ b1 b2 b3 a1 a2 a3, vs = [.ref a1, .ref a2, .ref a3] ∧ (∃ xs, SqK K H1 b1 a1 xs) ∧ (∃ xs, SqK K H1 b2 a2 xs) ∧ (∃ xs, SqK K H1 b3 a3 xs) ∧ R (ItC (row3 K b1 b2 b3 a1 a2 a3) (stop3 K b1 b2 b3 a1 a2 a3)) H1
theorem pi_zp3K {e e2 e3 : Expr} {ta : TA} {p pos tpos : Pos} {elts : List Expr} {kk : Nat} (hg : Gl X "zip") (hm : X.mg "zip" = none) (ha : PA X [e, e2, e3] ta)
    (hs : starEach [e, e2, e3] X.env = (false, eval e X.env) :: starEach [e2, e3] X.env) (hpl : (backTo pos (starEach [e2, e3] X.env)).any (·.1) = false) :
    PI X (.Tuple elts kk tpos) (.Call (.Name "zip" p) [e, e2, e3] [] pos) (iZp3K X.K ta) := by
  refine ⟨fun pins s σ H R I h => ?_⟩
  refine Call_ (ld_blt I hg hm PyProof.Rows.boot_zip (PyProof.Rows.callWith_type1 (thn (ha.run pos pins s σ H _ I h) fun us s1 ⟨vs, H1, I1, r1, q1⟩ => ?_) hs hpl))
  obtain ⟨b1, b2, b3, a1, a2, a3, ex, ⟨xs1, hq1⟩, ⟨xs2, hq2⟩, ⟨xs3, hq3⟩, q⟩ := q1
  subst ex
  cases r1 with
  | cons r rr =>
    cases rr with
    | cons r' rr =>
      cases rr with
      | cons r'' rr =>
        cases rr
        cases r
        cases r'
        cases r''
        obtain ⟨its1, rv1, hat1, _⟩ := invK I1 hq1
        obtain ⟨its2, rv2, hat2, _⟩ := invK I1 hq2
        obtain ⟨its3, rv3, hat3, _⟩ := invK I1 hq3
        refine zip_begins3 (begK b1 a1 its1.toArray) (begK b2 a2 its2.toArray) (begK b3 a3 its3.toArray) hat1 hat2 hat3 fun h' hz hTI hTO h1 h2 h3 hsz hk => wpAny_pyIter_zip hz ?_
        have I2 : Inv X pins σ H1 { s1 with heap := h' } := I1.kept (t' := s1.toks) hk
        refine ⟨_, [s1.heap.objs.size + 5, s1.heap.objs.size + 3, s1.heap.objs.size + 4, s1.heap.objs.size, s1.heap.objs.size + 1, s1.heap.objs.size + 2], _, _, H1, rfl, I2,
          turn_zipK3 b1 b2 b3 (zip_sep3 (fp1 := [a1]) (fp2 := [a2]) (fp3 := [a3]) (by simpa using hat1.lt) (by simpa using hat2.lt) (by simpa using hat3.lt)) (Nat.ne_of_lt hat1.lt) (Nat.ne_of_lt (Nat.lt_succ_of_lt hat2.lt)) (Nat.ne_of_lt (Nat.lt_succ_of_lt (Nat.lt_succ_of_lt hat3.lt))),
          ⟨hz, hTI, ⟨_, _, _, hTO⟩, ItK.new h1, ItK.new h2, ItK.new h3⟩, fun c hc => ?_, q⟩
        have e' : c = s1.heap.objs.size + 5 ∨ c = s1.heap.objs.size + 3 ∨ c = s1.heap.objs.size + 4 ∨ c = s1.heap.objs.size ∨ c = s1.heap.objs.size + 1 ∨ c = s1.heap.objs.size + 2 := by simpa using hc
        have hle : s1.heap.objs.size ≤ c := by
          rcases e' with z | z | z | z | z | z
          · rw [z]; exact Nat.le_add_right _ _
          · rw [z]; exact Nat.le_add_right _ _
          · rw [z]; exact Nat.le_add_right _ _
          · rw [z]; exact Nat.le_refl _
          · rw [z]; exact Nat.le_add_right _ _
          · rw [z]; exact Nat.le_add_right _ _
        exact I1.fpOk hle (I1.hok.fresh hle)

/-! ### what the evaluator walks, against it -/
theorem PI.or {tg e : Expr} {w1 w2 : TI} (h1 : PI X tg e w1) (h2 : PI X tg e w2) : PI X tg e (fun σ H R => w1 σ H R ∨ w2 σ H R) :=
  ⟨fun pins s σ H R I h => h.elim (h1.run pins s σ H R I) (h2.run pins s σ H R I)⟩
theorem PI.imp {tg e : Expr} {w1 w2 : TI} (h1 : PI X tg e w1) (h : ∀ σ H R, w2 σ H R → w1 σ H R) : PI X tg e w2 := ⟨fun pins s σ H R I q => h1.run pins s σ H R I (h σ H R q)⟩
end
/-- the iterator gives the items of xs, as long as the lists dp stand -/
structure Gives2 (K : PySem.W.Frag) (J : It) (xs : List D) (dp : Deps) (mu F : List Addr) (H : Hp) : Prop where
  go : ∀ mu' F' H' S', Xt mu H mu' H' → Fx F F' H → Gd K mu' F' H' S' → depOk dp S' = true → ∀ i, i < xs.length → J.go i H'
  yld : ∀ mu' F' H' S', Xt mu H mu' H' → Fx F F' H → Gd K mu' F' H' S' → depOk dp S' = true → ∀ i x v H'', xs[i]? = some x → J.yld i H' v H'' → Xt mu' H' mu' H'' ∧ Gd K mu' F' H'' S' ∧ Rp K mu' F' H'' v x
  stop : ∀ mu' F' H' S', Xt mu H mu' H' → Fx F F' H → Gd K mu' F' H' S' → depOk dp S' = true → J.stop xs.length H'
/-- a value that is walked: a list or a tuple -/
structure Colm (K : PySem.W.Frag) (b : Bool) (a : Addr) (ds : List D) (dp : Deps) (mu F : List Addr) (H : Hp) : Prop where
  now : ∃ xs, SqK K H b a xs
  sq : ∀ mu' F' H' S', Xt mu H mu' H' → Fx F F' H → Gd K mu' F' H' S' → depOk dp S' = true → ∃ vs, SqK K H' b a vs ∧ Rps K mu' F' H' vs ds
section
variable {K : PySem.W.Frag} {mu F : List Addr} {H : Hp} {S : Store}
theorem depOk_nil (S : Store) : depOk [] S = true := rfl
theorem depOk_app {p q : Deps} {S : Store} (h : depOk (p ++ q) S = true) : depOk p S = true ∧ depOk q S = true := by
  unfold depOk at h ⊢
  rw [List.all_append, Bool.and_eq_true] at h
  exact h
theorem colm {v : V} {d : D} {ds : List D} {dp : Deps} (g : Gd K mu F H S) (r : Rp K mu F H v d) (h : seqD S d = some (ds, dp)) : ∃ b a, v = .ref a ∧ Colm K b a ds dp mu F H ∧ (b = false ↔ ∃ xs, d = .tup xs) := by
  cases r with
  | @tup a vs xs q t =>
    cases h
    exact ⟨false, a, rfl, ⟨⟨vs, q⟩, fun mu' F' H' S' e f g' _ => ⟨vs, sqT_keep g.live.mt e q, t.far g.live f e⟩⟩, ⟨fun _ => ⟨_, rfl⟩, fun _ => rfl⟩⟩
  | @lst a vs xs q t =>
    cases h
    exact ⟨true, a, rfl, ⟨⟨vs, .inl (.inl q.1)⟩, fun mu' F' H' S' e f g' _ => ⟨vs, .inl (.inl (e.keep _ _ q.1 q.2.1)), t.far g.live f e⟩⟩, ⟨fun z => (nomatch z), fun ⟨_, z⟩ => nomatch z⟩⟩
  | @scr a vs xs q t =>
    cases h
    exact ⟨true, a, rfl, ⟨⟨vs, q.sq⟩, fun mu' F' H' S' e f g' _ => ⟨vs, (sqS_keep g.live.mt e q).sq, t.far g.live f e⟩⟩, ⟨fun z => (nomatch z), fun ⟨_, z⟩ => nomatch z⟩⟩
  | @ref n a q =>
    cases e2 : S[n]? with
    | none => simp [seqD, seqOf, e2] at h
    | some c => cases c with
      | obj _ _ => simp [seqD, seqOf, e2] at h
      | lst xs =>
      simp only [seqD, seqOf, e2, Option.map_some, Option.some.injEq, Prod.mk.injEq] at h
      obtain ⟨rfl, rfl⟩ := h
      obtain ⟨vs, h1, _⟩ := g.ref q e2
      refine ⟨true, a, rfl, ⟨⟨vs, .inl (.inl h1)⟩, fun mu' F' H' S' e f g' hd => ?_⟩, ⟨fun z => (nomatch z), fun ⟨_, z⟩ => nomatch z⟩⟩
      have e3 : S'[n]? = some (.lst xs) := by simpa [depOk] using hd
      obtain ⟨ws, w1, w2⟩ := g'.ref (e.get q) e3
      exact ⟨ws, .inl (.inl w1), w2⟩
  | _ => cases h
/-- the list or tuple itself -/
def itK (K : PySem.W.Frag) (b : Bool) (a : Addr) : It := match b with
  | true => Itl K a
  | false => Itt K a
theorem gives_vl {b : Bool} {a : Addr} {ds : List D} {dp : Deps} (c : Colm K b a ds dp mu F H) : Gives2 K (itK K b a) ds dp mu F H := by
  refine ⟨fun mu' F' H' S' e f g d i hi => ?_, fun mu' F' H' S' e f g d i x v H'' hx hy => ?_, fun mu' F' H' S' e f g d => ?_⟩
  all_goals obtain ⟨vs, hq, hr⟩ := c.sq mu' F' H' S' e f g d
  · have hl : i < vs.length := by rw [hr.length]; exact hi
    cases b with
    | true => exact ⟨vs, vs[i], hq, by simp [hl]⟩
    | false => exact ⟨vs, vs[i], hq, by simp [hl]⟩
  · obtain ⟨z, hz, rz⟩ := hr.get hx
    cases b with
    | true =>
      obtain ⟨rfl, hy⟩ := hy
      have := hy vs hq
      rw [hz] at this; cases this
      exact ⟨Xt.refl _ _, g, rz⟩
    | false =>
      obtain ⟨rfl, hy⟩ := hy
      have := hy vs hq
      rw [hz] at this; cases this
      exact ⟨Xt.refl _ _, g, rz⟩
  · cases b with
    | true => exact ⟨vs, hq, by rw [hr.length]; exact Nat.le_refl _⟩
    | false => exact ⟨vs, hq, by rw [hr.length]; exact Nat.le_refl _⟩
theorem rgF_get : ∀ (n : Nat) (a : Int) (i : Nat), i < n → (rgF a n)[i]? = some (a + i)
  | n + 1, a, 0, _ => by simp [rgF]
  | n + 1, a, i + 1, h => by
    simp only [rgF, intK_eq, List.getElem?_cons_succ]
    rw [rgF_get n (a + 1) i (by omega)]
    congr 1
    omega
theorem rgF_len : ∀ (n : Nat) (a : Int), (rgF a n).length = n
  | 0, _ => rfl
  | n + 1, a => by simp [rgF, rgF_len n]
theorem gives_rg (a b : Int) : Gives2 K (Itr a (b - a).toNat) ((rgI a b).map D.int) [] mu F H := by
  have hl : ((rgI a b).map D.int).length = (b - a).toNat := by rw [List.length_map]; exact rgF_len _ _
  refine ⟨fun mu' F' H' S' e f g d i hi => by rw [hl] at hi; exact hi, fun mu' F' H' S' e f g d i x v H'' hx hy => ?_, fun mu' F' H' S' e f g d => by rw [hl]; exact Nat.le_refl _⟩
  obtain ⟨rfl, rfl⟩ := hy
  have hi : i < (b - a).toNat := by rw [← hl]; exact (List.getElem?_eq_some_iff.mp hx).1
  rw [List.getElem?_map, show (rgI a b)[i]? = some (a + i) from rgF_get _ _ _ hi] at hx
  cases hx
  exact ⟨Xt.refl _ _, g, .int _⟩
/-- rows told one by one -/
theorem gives_C {row : Nat → Hp → List V → Prop} {stop : Nat → Hp → Prop} {xs : List D} {dp : Deps}
    (hrow : ∀ mu' F' H' S', Xt mu H mu' H' → Fx F F' H → Gd K mu' F' H' S' → depOk dp S' = true → ∀ i, i < xs.length → ∃ ys ds, row i H' ys ∧ xs[i]? = some (.tup ds) ∧ Rps K mu' F' H' ys ds)
    (hstop : ∀ mu' F' H' S', Xt mu H mu' H' → Fx F F' H → Gd K mu' F' H' S' → depOk dp S' = true → stop xs.length H') : Gives2 K (ItC row stop) xs dp mu F H := by
  refine ⟨fun mu' F' H' S' e f g d i hi => ?_, fun mu' F' H' S' e f g d i x v H'' hx hy => ?_, hstop⟩
  · obtain ⟨ys, ds, h, _⟩ := hrow mu' F' H' S' e f g d i hi
    exact ⟨ys, h⟩
  · obtain ⟨T, zs, rfl, hT, rfl, hu⟩ := hy
    obtain ⟨ys, ds, h1, h2, h3⟩ := hrow mu' F' H' S' e f g d i (List.getElem?_eq_some_iff.mp hx).1
    have := hu ys h1
    subst this
    rw [h2] at hx
    cases hx
    exact ⟨Xt.new hT, g.new hT, .tup (.inl (.inl upd_same)) (h3.mono g.live (Xt.new hT))⟩
theorem enumD_get : ∀ (xs : List D) (n i : Nat), (enumD xs n)[i]? = xs[i]?.map fun x => .tup [.int ((n + i : Nat) : Int), x]
  | [], n, i => by simp [enumD]
  | x :: r, n, 0 => by simp [enumD]
  | x :: r, n, i + 1 => by
    simp only [enumD, natK_eq, List.getElem?_cons_succ]
    rw [enumD_get r (n + 1) i]
    have e : n + 1 + i = n + (i + 1) := by omega
    rw [e]
theorem enumD_len : ∀ (xs : List D) (n : Nat), (enumD xs n).length = xs.length
  | [], n => by simp [enumD]
  | x :: r, n => by simp [enumD, enumD_len r]
theorem gives_en {b : Bool} {a : Addr} {ds : List D} {dp : Deps} (c : Colm K b a ds dp mu F H) : Gives2 K (ItC (rowE K b a) (stopE K b a)) (enumD ds 0) dp mu F H := by
  refine gives_C (fun mu' F' H' S' e f g d i hi => ?_) (fun mu' F' H' S' e f g d => ?_)
  all_goals obtain ⟨vs, hq, hr⟩ := c.sq mu' F' H' S' e f g d
  · rw [enumD_len] at hi
    obtain ⟨z, hz, rz⟩ := hr.get (List.getElem?_eq_getElem hi)
    exact ⟨_, _, ⟨vs, z, hq, hz, rfl⟩, by rw [enumD_get, List.getElem?_eq_getElem hi, Nat.zero_add]; rfl, .cons (.int _) (.cons rz .nil)⟩
  · exact ⟨vs, hq, by rw [hr.length, enumD_len]⟩
theorem zipD_get : ∀ (xs ys : List D) (i : Nat) (x y : D), xs[i]? = some x → ys[i]? = some y → (zipD xs ys)[i]? = some (.tup [x, y])
  | [], _, _, _, _, h, _ => by simp at h
  | _ :: _, [], _, _, _, _, h => by simp at h
  | x :: xs, y :: ys, 0, _, _, h, h' => by simp at h h'; subst h h'; simp [zipD]
  | x :: xs, y :: ys, i + 1, a, b, h, h' => by
    simp only [zipD, List.getElem?_cons_succ] at h h' ⊢
    exact zipD_get xs ys i a b h h'
theorem zipD_len : ∀ (xs ys : List D), (zipD xs ys).length = min xs.length ys.length
  | [], _ => by simp [zipD]
  | _ :: _, [] => by simp [zipD]
  | x :: xs, y :: ys => by simp only [zipD, List.length_cons, zipD_len xs ys]; omega
theorem gives_zp {b1 b2 : Bool} {a1 a2 : Addr} {ds1 ds2 : List D} {p1 p2 : Deps} (c1 : Colm K b1 a1 ds1 p1 mu F H) (c2 : Colm K b2 a2 ds2 p2 mu F H) : Gives2 K (ItC (row2 K b1 b2 a1 a2) (stop2 K b1 b2 a1 a2)) (zipD ds1 ds2) (p1 ++ p2) mu F H := by
  refine gives_C (fun mu' F' H' S' e f g d i hi => ?_) (fun mu' F' H' S' e f g d => ?_)
  all_goals
    obtain ⟨vs1, hq1, hr1⟩ := c1.sq mu' F' H' S' e f g (depOk_app d).1
    obtain ⟨vs2, hq2, hr2⟩ := c2.sq mu' F' H' S' e f g (depOk_app d).2
  · rw [zipD_len] at hi
    have i1 : i < ds1.length := by omega
    have i2 : i < ds2.length := by omega
    obtain ⟨z1, hz1, rz1⟩ := hr1.get (List.getElem?_eq_getElem i1)
    obtain ⟨z2, hz2, rz2⟩ := hr2.get (List.getElem?_eq_getElem i2)
    exact ⟨_, _, ⟨vs1, vs2, z1, z2, hq1, hq2, hz1, hz2, rfl⟩, zipD_get _ _ _ _ _ (List.getElem?_eq_getElem i1) (List.getElem?_eq_getElem i2), .cons rz1 (.cons rz2 .nil)⟩
  · exact ⟨vs1, vs2, hq1, hq2, by rw [hr1.length, hr2.length, zipD_len]⟩
theorem zip3D_get : ∀ (xs ys zs : List D) (i : Nat) (x y z : D), xs[i]? = some x → ys[i]? = some y → zs[i]? = some z → (zip3D xs ys zs)[i]? = some (.tup [x, y, z])
  | [], _, _, _, _, _, _, h, _, _ => by simp at h
  | _ :: _, [], _, _, _, _, _, _, h, _ => by simp at h
  | _ :: _, _ :: _, [], _, _, _, _, _, _, h => by simp at h
  | x :: xs, y :: ys, z :: zs, 0, _, _, _, h, h', h'' => by simp at h h' h''; subst h h' h''; simp [zip3D]
  | x :: xs, y :: ys, z :: zs, i + 1, a, b, c, h, h', h'' => by
    simp only [zip3D, List.getElem?_cons_succ] at h h' h'' ⊢
    exact zip3D_get xs ys zs i a b c h h' h''
theorem zip3D_len : ∀ (xs ys zs : List D), (zip3D xs ys zs).length = min (min xs.length ys.length) zs.length
  | [], _, _ => by simp [zip3D]
  | _ :: _, [], _ => by simp [zip3D]
  | _ :: _, _ :: _, [] => by simp [zip3D]
  | x :: xs, y :: ys, z :: zs => by simp only [zip3D, List.length_cons, zip3D_len xs ys zs]; omega
theorem gives_zp3 {b1 b2 b3 : Bool} {a1 a2 a3 : Addr} {ds1 ds2 ds3 : List D} {p1 p2 p3 : Deps} (c1 : Colm K b1 a1 ds1 p1 mu F H) (c2 : Colm K b2 a2 ds2 p2 mu F H) (c3 : Colm K b3 a3 ds3 p3 mu F H) :
    Gives2 K (ItC (row3 K b1 b2 b3 a1 a2 a3) (stop3 K b1 b2 b3 a1 a2 a3)) (zip3D ds1 ds2 ds3) (p1 ++ p2 ++ p3) mu F H := by
  refine gives_C (fun mu' F' H' S' e f g d i hi => ?_) (fun mu' F' H' S' e f g d => ?_)
  all_goals
    obtain ⟨vs1, hq1, hr1⟩ := c1.sq mu' F' H' S' e f g (depOk_app (depOk_app d).1).1
    obtain ⟨vs2, hq2, hr2⟩ := c2.sq mu' F' H' S' e f g (depOk_app (depOk_app d).1).2
    obtain ⟨vs3, hq3, hr3⟩ := c3.sq mu' F' H' S' e f g (depOk_app d).2
  · rw [zip3D_len] at hi
    have i1 : i < ds1.length := by omega
    have i2 : i < ds2.length := by omega
    have i3 : i < ds3.length := by omega
    obtain ⟨z1, hz1, rz1⟩ := hr1.get (List.getElem?_eq_getElem i1)
    obtain ⟨z2, hz2, rz2⟩ := hr2.get (List.getElem?_eq_getElem i2)
    obtain ⟨z3, hz3, rz3⟩ := hr3.get (List.getElem?_eq_getElem i3)
    exact ⟨_, _, ⟨vs1, vs2, vs3, z1, z2, z3, hq1, hq2, hq3, hz1, hz2, hz3, rfl⟩, zip3D_get _ _ _ _ _ _ _ (List.getElem?_eq_getElem i1) (List.getElem?_eq_getElem i2) (List.getElem?_eq_getElem i3), .cons rz1 (.cons rz2 (.cons rz3 .nil))⟩
  · exact ⟨vs1, vs2, vs3, hq1, hq2, hq3, by rw [hr1.length, hr2.length, hr3.length, zip3D_len]⟩
end
/-- a source's reading -/
def tSrc (K : PySem.W.Frag) (k : SK) (ev : EM (List D)) : TI := fun σ H R => ∃ env mu F S, EnvR K mu F H σ env ∧ Gd K mu F H S ∧
  WP (ev env S) fun ds S1 => ∃ xs dp, srcOf k ds S1 = some (xs, dp) ∧ ∀ J H1 mu1, Xt mu H mu1 H1 → Gd K mu1 F H1 S1 → Gives2 K J xs dp mu1 F H1 → R J H1
end Ev
/-! Ev: expressions -/
namespace Ev
open PySem PySem.Spec
open PyProof.Rows L2

/-- posts that stand when the heap grows -/
def Cl {α : Type} (F : List Addr) (P : List Addr → Hp → α → Store → Prop) : Prop := ∀ mu H mu1 H1 a S, Xt mu H mu1 H1 → Lv mu1 F H1 → P mu H a S → P mu1 H1 a S
section
variable {K : PySem.W.Frag} {F : List Addr}
theorem cl_Po {Q : VK} : Cl F fun mu H => Po K mu F H Q := fun mu H mu1 H1 a S e L h v H' mu' e' g r => h v H' mu' (e.trans L e') g r
theorem cl_PoS {Q : List V → Hp → Prop} : Cl F fun mu H => PoS K mu F H Q := fun mu H mu1 H1 a S e L h v H' mu' e' g r => h v H' mu' (e.trans L e') g r
def PoT (K : PySem.W.Frag) (mu F : List Addr) (H : Hp) (Q : Bool → Hp → Prop) : D → Store → Prop := fun d S' => ∃ b, d = .bl b ∧ ∀ H' mu', Xt mu H mu' H' → Gd K mu' F H' S' → Q b H'
theorem cl_PoT {Q : Bool → Hp → Prop} : Cl F fun mu H => PoT K mu F H Q := fun mu H mu1 H1 a S e L ⟨b, h1, h⟩ => ⟨b, h1, fun H' mu' e' g => h H' mu' (e.trans L e') g⟩
/-- a part is run first -/
theorem run1 {α : Type} {P : List Addr → Hp → α → Store → Prop} (hP : Cl F P) {ra : EM D} {f : D → M α} {env : Env} {mu : List Addr} {S : Store} {σ : L2.St} {H : Hp} (he : EnvR K mu F H σ env) (hg : Gd K mu F H S) (hw : WP (bnd (ra env) f S) (P mu H))
    {R : VK} (hR : ∀ v H1 mu1 S1 x, EnvR K mu1 F H1 σ env → Gd K mu1 F H1 S1 → Rp K mu1 F H1 v x → Xt mu H mu1 H1 → WP (f x S1) (P mu1 H1) → R v H1) : tE K ra σ H R := by
  refine ⟨env, mu, F, S, he, hg, (WP.bnd.mp hw).mono fun x S1 h v H1 mu1 e g r => ?_⟩
  exact hR v H1 mu1 S1 x (he.mono hg.live e) g r e (h.mono fun a S2 q => hP mu H mu1 H1 a S2 e g.live q)
theorem runL {α : Type} {P : List Addr → Hp → α → Store → Prop} (hP : Cl F P) {ra : EM (List D)} {f : List D → M α} {env : Env} {mu : List Addr} {S : Store} {σ : L2.St} {H : Hp} (he : EnvR K mu F H σ env) (hg : Gd K mu F H S) (hw : WP (bnd (ra env) f S) (P mu H))
    {R : List V → Hp → Prop} (hR : ∀ v H1 mu1 S1 x, EnvR K mu1 F H1 σ env → Gd K mu1 F H1 S1 → Rps K mu1 F H1 v x → Xt mu H mu1 H1 → WP (f x S1) (P mu1 H1) → R v H1) : tA K ra σ H R := by
  refine ⟨env, mu, F, S, he, hg, (WP.bnd.mp hw).mono fun x S1 h v H1 mu1 e g r => ?_⟩
  exact hR v H1 mu1 S1 x (he.mono hg.live e) g r e (h.mono fun a S2 q => hP mu H mu1 H1 a S2 e g.live q)
theorem go1 {P : List Addr → Hp → D → Store → Prop} {ra : EM D} {env : Env} {mu : List Addr} {S : Store} {σ : L2.St} {H : Hp} {Q : VK} (he : EnvR K mu F H σ env) (hg : Gd K mu F H S) (hw : WP (ra env S) (Po K mu F H Q)) : tE K ra σ H Q := ⟨env, mu, F, S, he, hg, hw⟩
end

/-! ### expressions, one by one -/
section
variable {X : Cx} {a b c : Expr} {ra rb rc : EM D} {pos : Pos}
theorem t2 {f : D → D → M D} {σ : L2.St} {H : Hp} {Q : VK} {ra rb : EM D} (h : tE X.K (fun env => bnd (ra env) fun x => bnd (rb env) fun y => f x y) σ H Q) : tOp (R2of X.K f) (tE X.K ra) (tE X.K rb) σ H Q := by
  obtain ⟨env, mu, F, S, he, hg, hw⟩ := h
  refine run1 cl_Po he hg hw fun v H1 mu1 S1 x he1 hg1 r1 e1 hw1 => ?_
  refine run1 cl_Po he1 hg1 hw1 fun w H2 mu2 S2 y he2 hg2 r2 e2 hw2 => ?_
  exact ⟨mu2, F, S2, x, y, hg2, r1.mono hg1.live e2, r2, hw2⟩
theorem pE_bin (o : Op2) (m : Bool) (ha : PE X a (tE X.K ra)) (hb : PE X b (tE X.K rb)) : PE X (.BinOp a (opO o) b pos) (tE X.K (kBin o m ra rb)) := Ev.PE.imp (pe_op (op_ok o m) ha hb) fun _ _ _ h => t2 h
theorem pE_cmp (o : Cm) (hu : X.A.units + 64 < cLine) (ha : PE X a (tE X.K ra)) (hb : PE X b (tE X.K rb)) (hm : behindInMarks (cmO o) b = false) : PE X (.Compare a [cmO o] [b] pos) (tE X.K (kCmp o ra rb)) :=
  Ev.PE.imp (pe_cmpR (cmp_ok o hu) ha hb hm) fun _ _ _ h => t2 h
theorem pE_ix (ha : PE X a (tE X.K ra)) (hb : PE X b (tE X.K rb)) (hs : PlainIx b) : PE X (.Subscript a b pos) (tE X.K (kIx ra rb)) := Ev.PE.imp (pe_ix ix_ok ha hb hs) fun _ _ _ h => t2 h
theorem pE_neg (ha : PE X a (tE X.K ra)) : PE X (.UnaryOp .USub a pos) (tE X.K (kNeg ra)) := Ev.PE.imp (pe_un un_neg ha) fun σ H Q ⟨env, mu, F, S, he, hg, hw⟩ =>
  run1 cl_Po he hg hw fun v H1 mu1 S1 x he1 hg1 r1 e1 hw1 => by
    cases r1 with
    | int i => simp only [rInt_eq] at hw1; exact ⟨i, rfl, Po.flat hg1 (.int _) hw1⟩
    | _ => exact hw1.elim
theorem pE_not (ha : PE X a (tE X.K ra)) : PE X (.UnaryOp .Not a pos) (tE X.K (kNot ra)) := Ev.PE.imp (pe_not ha) fun σ H Q ⟨env, mu, F, S, he, hg, hw⟩ =>
  run1 cl_Po he hg hw fun v H1 mu1 S1 x he1 hg1 r1 e1 hw1 => by
    cases r1 with
    | bl i => exact ⟨i, rfl, Po.flat hg1 (.bl _) hw1⟩
    | _ => exact hw1.elim
theorem tst_bl {α : Type} {d : D} {x y : M D} {S : Store} {P : D → Store → Prop} (h : WP (tst d x y S) P) : ∃ b, d = .bl b ∧ if b = true then WP (x S) P else WP (y S) P := by
  unfold tst at h
  split at h
  · exact ⟨true, rfl, h⟩
  · exact ⟨false, rfl, h⟩
  · exact h.elim
theorem boolR_bl {d : D} {S : Store} {P : D → Store → Prop} (h : WP (boolR d S) P) : ∃ b, d = .bl b ∧ P (.bl b) S := by
  unfold boolR at h
  split at h
  · exact ⟨_, rfl, h⟩
  · exact h.elim
theorem pE_and {rest : List Expr} (ha : PE X a (tE X.K ra)) (hb : PE X (.BoolOp .And (b :: rest) pos) (tE X.K rb)) : PE X (.BoolOp .And (a :: b :: rest) pos) (tE X.K (kAnd ra rb)) := Ev.PE.imp (pe_and ha hb) fun σ H Q ⟨env, mu, F, S, he, hg, hw⟩ =>
  run1 cl_Po he hg hw fun v H1 mu1 S1 x he1 hg1 r1 e1 hw1 => by
    obtain ⟨k, rfl, hw2⟩ := tst_bl (α := D) hw1
    cases r1
    refine ⟨k, rfl, ?_⟩
    cases k with
    | true =>
      rw [if_pos rfl] at hw2 ⊢
      refine run1 cl_Po he1 hg1 hw2 fun w H2 mu2 S2 y he2 hg2 r2 e2 hw3 => ?_
      obtain ⟨k, rfl, q⟩ := boolR_bl hw3
      exact Po.flat hg2 r2 q
    | false =>
      rw [if_neg Bool.false_ne_true] at hw2 ⊢
      exact Po.flat hg1 (.bl _) hw2
theorem pE_or {rest : List Expr} (ha : PE X a (tE X.K ra)) (hb : PE X (.BoolOp .Or (b :: rest) pos) (tE X.K rb)) : PE X (.BoolOp .Or (a :: b :: rest) pos) (tE X.K (kOr ra rb)) := Ev.PE.imp (pe_or ha hb) fun σ H Q ⟨env, mu, F, S, he, hg, hw⟩ =>
  run1 cl_Po he hg hw fun v H1 mu1 S1 x he1 hg1 r1 e1 hw1 => by
    obtain ⟨k, rfl, hw2⟩ := tst_bl (α := D) hw1
    cases r1
    refine ⟨k, rfl, ?_⟩
    cases k with
    | true =>
      rw [if_pos rfl] at hw2 ⊢
      exact Po.flat hg1 (.bl _) hw2
    | false =>
      rw [if_neg Bool.false_ne_true] at hw2 ⊢
      refine run1 cl_Po he1 hg1 hw2 fun w H2 mu2 S2 y he2 hg2 r2 e2 hw3 => ?_
      obtain ⟨k, rfl, q⟩ := boolR_bl hw3
      exact Po.flat hg2 r2 q
theorem chain_rd (o o' : Cm) {σ : L2.St} {H : Hp} {Q : VK} (h : tE X.K (kChain o o' ra rb rc) σ H Q) : tChain (R2of X.K (doCmp o)) (R2of X.K (doCmp o')) (tE X.K ra) (tE X.K rb) (tE X.K rc) σ H Q := by
  obtain ⟨env, mu, F, S, he, hg, hw⟩ := h
  refine run1 cl_Po he hg hw fun v H1 mu1 S1 x he1 hg1 r1 e1 hw1 => ?_
  refine run1 cl_Po he1 hg1 hw1 fun w H2 mu2 S2 y he2 hg2 r2 e2 hw2 => ?_
  refine ⟨mu2, F, S2, x, y, hg2, r1.mono hg1.live e2, r2, (WP.bnd.mp hw2).mono fun z S3 hw3 vz H3 mu3 e3 hg3 r3 => ?_⟩
  obtain ⟨k, rfl, hw4⟩ := tst_bl (α := D) hw3
  cases r3
  refine ⟨k, rfl, ?_⟩
  have he3 := he2.mono hg2.live e3
  cases k with
  | true =>
    rw [if_pos rfl] at hw4 ⊢
    refine run1 cl_Po he3 hg3 (hw4.mono fun d S4 q => cl_Po mu2 H2 mu3 H3 d S4 e3 hg3.live q) fun u H4 mu4 S4 zz he4 hg4 r4 e4 hw5 => ?_
    exact ⟨mu4, F, S4, y, zz, hg4, (r2.mono hg2.live e3).mono hg3.live e4, r4, hw5⟩
  | false =>
    rw [if_neg Bool.false_ne_true] at hw4 ⊢
    exact Po.flat hg3 (.bl _) (cl_Po (K := X.K) (F := F) mu2 H2 mu3 H3 _ _ e3 hg3.live hw4)
theorem pE_chain (o o' : Cm) (hu : X.A.units + 64 < cLine) (ha : PE X a (tE X.K ra)) (hb : PE X b (tE X.K rb)) (hc : PE X c (tE X.K rc)) (hm : behindInMarks (cmO o') c = false) : PE X (.Compare a [cmO o, cmO o'] [b, c] pos) (tE X.K (kChain o o' ra rb rc)) := by
  exact Ev.PE.imp (pe_chain (cmp_ok o hu) (cmp_ok o' hu) ha hb hc hm) fun σ H Q h => chain_rd o o' h
theorem pE_ite {tT0 : EM D} (hc : PT X c (tT X.K rc)) (ha : PE X a (tE X.K ra)) (hb : PE X b (tE X.K rb)) : PE X (.IfExp c a b pos) (tE X.K (kIte rc ra rb)) := by
  refine Ev.PE.imp (pe_ifExp hc ha hb) fun σ H Q ⟨env, mu, F, S, he, hg, hw⟩ => ?_
  refine ⟨env, mu, F, S, he, hg, (WP.bnd.mp hw).mono fun x S1 hw1 => ?_⟩
  obtain ⟨k, rfl, hw2⟩ := tst_bl (α := D) hw1
  refine ⟨k, rfl, fun H1 mu1 e1 hg1 => ?_⟩
  cases k with
  | true => exact ⟨env, mu1, F, S1, he.mono hg.live e1, hg1, hw2.mono fun d S4 q => cl_Po mu H mu1 H1 d S4 e1 hg1.live q⟩
  | false => exact ⟨env, mu1, F, S1, he.mono hg.live e1, hg1, hw2.mono fun d S4 q => cl_Po mu H mu1 H1 d S4 e1 hg1.live q⟩

/-! ### tests -/
theorem pT_of (ha : PE X a (tE X.K ra)) (he : ∀ whole, isTrue a X.env whole = (do let v ← whole; standAt a.pos; holding [v] (truthy v))) : PT X a (tT X.K ra) :=
  Ev.PT.imp (pt_val ha he) fun _ _ _ h => tE_bl h
theorem pT_not (ha : PT X a (tT X.K ra)) : PT X (.UnaryOp .Not a pos) (tT X.K (kNot ra)) := Ev.PT.imp (pt_not ha) fun σ H Q ⟨env, mu, F, S, he, hg, hw⟩ => by
  refine ⟨env, mu, F, S, he, hg, (WP.bnd.mp hw).mono fun x S1 hw1 => ?_⟩
  cases x with
  | bl k =>
    obtain ⟨b, e, q⟩ := hw1
    cases e
    exact ⟨k, rfl, q⟩
  | _ => exact hw1.elim
theorem pT_cmp (o : Cm) (hu : X.A.units + 64 < cLine) (ha : PE X a (tE X.K ra)) (hb : PE X b (tE X.K rb)) (hm : behindInMarks (cmO o) b = false) : PT X (.Compare a [cmO o] [b] pos) (tT X.K (kCmp o ra rb)) := by
  refine Ev.PT.imp (pt_cmpR (cmp_ok o hu) ha hb hm) fun σ H Q h => ?_
  have h2 : tE X.K (kCmp o ra rb) σ H (fun x H' => ∃ k, x = .bl k ∧ Q k H') := tE_bl h
  exact t2 h2
theorem pT_chain (o o' : Cm) (hu : X.A.units + 64 < cLine) (ha : PE X a (tE X.K ra)) (hb : PE X b (tE X.K rb)) (hc : PE X c (tE X.K rc)) (hm : behindInMarks (cmO o') c = false) : PT X (.Compare a [cmO o, cmO o'] [b, c] pos) (tT X.K (kChain o o' ra rb rc)) := by
  exact Ev.PT.imp (pt_chain (cmp_ok o hu) (cmp_ok o' hu) ha hb hc hm) fun σ H Q h => chain_rd o o' (tE_bl h)
theorem pW_and1 (ha : PT X a (tT X.K ra)) : PW X (.BoolOp .And [a] pos) (tT X.K ra) := pw_and1 ha
theorem pW_or1 (ha : PT X a (tT X.K ra)) : PW X (.BoolOp .Or [a] pos) (tT X.K ra) := pw_or1 ha
theorem pW_and {rest : List Expr} (ha : PT X a (tT X.K ra)) (hb : PW X (.BoolOp .And (b :: rest) pos) (tT X.K rb)) : PW X (.BoolOp .And (a :: b :: rest) pos) (tT X.K (kAnd ra rb)) := Ev.PW.imp (pw_and ha hb) fun σ H Q ⟨env, mu, F, S, he, hg, hw⟩ => by
  refine ⟨env, mu, F, S, he, hg, (WP.bnd.mp hw).mono fun x S1 hw1 => ?_⟩
  obtain ⟨k, rfl, hw2⟩ := tst_bl (α := D) hw1
  refine ⟨k, rfl, fun H1 mu1 e1 hg1 => ?_⟩
  cases k with
  | true =>
    rw [if_pos rfl] at hw2 ⊢
    refine ⟨env, mu1, F, S1, he.mono hg.live e1, hg1, (WP.bnd.mp hw2).mono fun y S2 hw3 => ?_⟩
    obtain ⟨k, rfl, b, e, q⟩ := boolR_bl hw3
    cases e
    exact ⟨_, rfl, fun H2 mu2 e2 hg2 => q H2 mu2 (e1.trans hg1.live e2) hg2⟩
  | false =>
    rw [if_neg Bool.false_ne_true] at hw2 ⊢
    obtain ⟨b, e, q⟩ := hw2
    cases e
    exact q H1 mu1 e1 hg1
theorem pW_or {rest : List Expr} (ha : PT X a (tT X.K ra)) (hb : PW X (.BoolOp .Or (b :: rest) pos) (tT X.K rb)) : PW X (.BoolOp .Or (a :: b :: rest) pos) (tT X.K (kOr ra rb)) := Ev.PW.imp (pw_or ha hb) fun σ H Q ⟨env, mu, F, S, he, hg, hw⟩ => by
  refine ⟨env, mu, F, S, he, hg, (WP.bnd.mp hw).mono fun x S1 hw1 => ?_⟩
  obtain ⟨k, rfl, hw2⟩ := tst_bl (α := D) hw1
  refine ⟨k, rfl, fun H1 mu1 e1 hg1 => ?_⟩
  cases k with
  | true =>
    rw [if_pos rfl] at hw2 ⊢
    obtain ⟨b, e, q⟩ := hw2
    cases e
    exact q H1 mu1 e1 hg1
  | false =>
    rw [if_neg Bool.false_ne_true] at hw2 ⊢
    refine ⟨env, mu1, F, S1, he.mono hg.live e1, hg1, (WP.bnd.mp hw2).mono fun y S2 hw3 => ?_⟩
    obtain ⟨k, rfl, b, e, q⟩ := boolR_bl hw3
    cases e
    exact ⟨_, rfl, fun H2 mu2 e2 hg2 => q H2 mu2 (e1.trans hg1.live e2) hg2⟩
end
end Ev
namespace HT
open PySem PySem.Spec
open PyProof.Rows L2
variable {prog : Program} {w : World} {A : Around} {E : Value → Shared → Prop} {s : Shared}
theorem ev_sliceApplied_rev {sl : Addr} {n : Nat} {t : Tok} {Q : Int × Int × Nat → Shared → Prop} (hs : s.heap.IsSliceOf sl .none .none (.int (-1) t))
    (h : Q ((n : Int) - 1, -1, n) s) : wpAny (model prog w) A (Builtin.Slice.sliceApplied (.ref sl) (pure (n : Int))) Q E s := by
  obtain ⟨os, hos, hcs, hds⟩ := id hs
  unfold Builtin.Slice.sliceApplied Builtin.Slice.sliceFields
  refine wpAny_bind (wpAny_bind (wpAny_field hos hds (x := .none) rfl (wpAny_bind (wpAny_field hos hds (x := .none) rfl (wpAny_bind (wpAny_field hos hds (x := .int (-1) t) rfl (wpAny_pure ?_)))))))
  refine wpAny_bind (slicePart_int ?_)
  show wpAny _ _ (if ((-1 : Int) == 0) = true then _ else _) _ _ s
  rw [if_neg (by decide)]
  refine wpAny_bind (slicePart_none (wpAny_bind (slicePart_none (wpAny_bind (wpAny_pure ?_)))))
  show wpAny _ _ (match Builtin.Slice.sliceAdjust none none (-1) (n : Int) with | (lo, hi) => pure (lo, (-1 : Int), Builtin.Slice.slicePlaces lo hi (-1))) _ _ s
  have e : Builtin.Slice.sliceAdjust none none (-1) (n : Int) = ((n : Int) - 1, -1) := rfl
  rw [e]
  show wpAny _ _ (pure ((n : Int) - 1, (-1 : Int), Builtin.Slice.slicePlaces ((n : Int) - 1) (-1) (-1))) _ _ s
  have e2 : Builtin.Slice.slicePlaces ((n : Int) - 1) (-1) (-1) = n := by
    unfold Builtin.Slice.slicePlaces
    rw [if_neg (by decide)]
    split
    · rw [show (-(-1 : Int)) = 1 by decide, Int.ediv_one]; omega
    · omega
  rw [e2]
  exact wpAny_pure h
theorem ev_fm {α β : Type} (f : α → Option β) (g : α → β) : ∀ l : List α, (∀ m ∈ l, f m = some (g m)) → l.filterMap f = l.map g
  | [], _ => rfl
  | x :: r, h => by
    rw [List.filterMap_cons, h x List.mem_cons_self, List.map_cons, ev_fm f g r fun m hm => h m (List.mem_cons_of_mem _ hm)]
theorem ev_pick_rev (xs : Array Value) : ((List.range xs.size).filterMap fun (m : Nat) => xs[((xs.size : Int) - 1 + (m : Int) * -1).toNat]?).toArray = xs.toList.reverse.toArray := by
  have e : ∀ m ∈ List.range xs.size, xs[((xs.size : Int) - 1 + (m : Int) * -1).toNat]? = some (xs.toList.reverse.getD m .none) := by
    intro m hm
    rw [List.mem_range] at hm
    have e1 : ((xs.size : Int) - 1 + (m : Int) * -1).toNat = xs.size - 1 - m := by omega
    rw [e1, List.getD_eq_getElem?_getD, List.getElem?_reverse (by simpa using hm)]
    simp only [Array.length_toList, Array.getElem?_toList]
    rw [Array.getElem?_eq_getElem (by omega)]
    rfl
  congr 1
  refine List.ext_getElem? fun i => ?_
  have e2 : ((List.range xs.size).filterMap fun (m : Nat) => xs[((xs.size : Int) - 1 + (m : Int) * -1).toNat]?) = (List.range xs.size).map fun m => xs.toList.reverse.getD m .none := by
    exact ev_fm _ _ _ e
  rw [e2, List.getElem?_map]
  by_cases hi : i < xs.size
  · rw [List.getElem?_range hi]
    simp only [Option.map_some]
    rw [List.getD_eq_getElem?_getD, List.getElem?_eq_getElem (by simpa using hi)]
    rfl
  · rw [List.getElem?_eq_none (by simpa using hi), List.getElem?_eq_none (by simpa using hi)]
    rfl
theorem ev_getItem_tuple_rev {t sl : Addr} {items : Array Value} {tk : Tok} {Q : Value → Shared → Prop} (ht : IsTup s.heap t items) (hs : s.heap.IsSliceOf sl .none .none (.int (-1) tk))
    (h : Q (.ref s.heap.objs.size) { s with heap := s.heap.push { cls := .type "tuple", data := .seq items.toList.reverse.toArray } })
    (hsz : items.size ≤ sizeLine) : wpAny (model prog w) A (getItem (.ref t) (.ref sl)) Q E s := by
  have htake : sizeOk (.seq items.toList.reverse.toArray) := by
    show items.toList.reverse.toArray.size ≤ sizeLine
    simpa using hsz
  obtain ⟨os, hos, hcs, hds⟩ := id hs
  have hTs : s.TypeIs (.ref sl) "slice" := ⟨os, hos, hcs⟩
  unfold getItem
  try with_reducible refine wpAny_holding ?_
  first | refine wpAny_bind (wpAny_pure ?_) | skip
  refine wpAny_bind (wpAny_sequenceKey ht.typeIs (by decide) ?_)
  refine wpAny_bind (wpAny_callSpecial?_slot (name := Str.ofString "__getitem__") ht.typeIs PyProof.Rows.slot_tuple_getitem
    (wpAny_call_entry PyProof.Rows.slot_tuple_getitem ht.typeIs entry_tuple_getitem ?_ (args_tuple_getitem _ _)))
  show wpAny _ _ (Builtin.Tuple.tupleItemsOf (.ref t) >>= _) _ _ s
  refine wpAny_bind (tupleItemsOf_ ht ?_)
  refine wpAny_bind (wpAny_typeOf hTs ?_)
  rw [if_pos (by decide)]
  refine wpAny_bind (ev_sliceApplied_rev hs ?_)
  show wpAny _ _ (if (((items.size : Int) - 1) == 0 && (-1 : Int) == 1 && items.size == items.size) = true then _ else _) _ _ s
  rw [if_neg (by simp), ev_pick_rev]
  first
    | exact wpAny_bind (m := Builtin.Tuple.tupleExact _) (wpAny_newObj_type (wpAny_pure ⟨_, rfl, wpAny_pure h⟩) htake)
    | exact wpAny_bind (m := Builtin.Tuple.tupleExact _) (wpAny_newObj_type (wpAny_bind (wpAny_pure (wpAny_pure ⟨_, rfl, wpAny_pure h⟩))) htake)
    | exact wpAny_bind (wpAny_bind (m := Builtin.Tuple.tupleExact _) (wpAny_newObj_type (wpAny_pure (wpAny_pure ⟨_, rfl, wpAny_pure h⟩)) htake))
    | exact wpAny_bind (wpAny_bind (m := Builtin.Tuple.tupleExact _) (wpAny_newObj_type (wpAny_pure ⟨_, rfl, wpAny_pure h⟩) htake))
end HT
namespace Ev
open PySem PySem.Spec
open PyProof.Rows L2
section
variable {X : Cx} {e : Expr} {te : TE} {pos : Pos}
def tRevT (K : PySem.W.Frag) (te : TE) : TE := fun σ H Q => te σ H fun x H1 => ∃ a xs, x = .ref a ∧ SqT K H1 a xs ∧ ∀ p, H1 p = none → Q (.ref p) (upd H1 p (.tup xs.reverse))
theorem pe_revT {k : Nat} {p1 p2 p3 pos : Pos} (he : PE X e te) : PE X (.Subscript e (.Slice none none (some (.UnaryOp .USub (.Constant (.int 1) k p1) p2)) p3) pos) (tRevT X.K te) := by
  refine ⟨fun pins s σ H Q I h => ?_⟩
  refine Subscript_ (thn (he.run pins s σ H _ I h) fun v s1 ⟨x, H1, I1, r1, q1⟩ => ?_)
  obtain ⟨a, xs, ex, hx, q⟩ := q1
  subst ex
  cases r1
  have hst : PO X (some (.UnaryOp .USub (.Constant (.int 1) k p1) p2)) (tPart (tUn (rU fun i => .int (-i)) (tC (.int 1)))) := po_some (pe_un un_neg pe_int)
  refine wpAny_Slice (thn (po_none.run pins s1 σ H1 (fun o H2 => o = none ∧ H2 = H1) I1 ⟨rfl, rfl⟩) fun vl s2 ⟨l, H2, I2, pl, el, e2⟩ => ?_)
  subst el e2
  refine thn (po_none.run pins s2 σ H2 (fun o H3 => o = none ∧ H3 = H2) I2 ⟨rfl, rfl⟩) fun vu s3 ⟨u, H3, I3, pu, eu, e3⟩ => ?_
  subst eu e3
  refine thn (hst.run pins s3 σ H3 (fun o H4 => o = some (-1) ∧ H4 = H3) I3 ⟨1, rfl, -1, rfl, rfl, rfl⟩) fun vs s4 ⟨o, H4, I4, ps, eo, e4⟩ => ?_
  subst eo e4
  have I5 : Inv X pins σ H4 { s4 with heap := s4.heap.push { cls := .type "slice", data := .fields #[vl, vu, vs] } } := I4.kept (t' := s4.toks) fun b ob q => Heap.get?_push_of_some _ q
  obtain ⟨its, r, ht, hz⟩ := I5.tuple hx
  have hlen := r.length
  show wpAny (model X.prog X.w) X.A (subscriptTail e (.Slice none none (some (.UnaryOp .USub (.Constant (.int 1) k p1) p2)) p3) (.ref a) (.ref s4.heap.objs.size)) (EP X pins σ Q) X.xe { s4 with heap := s4.heap.push { cls := .type "slice", data := .fields #[vl, vu, vs] } }
  refine tail_any (ops := [.ref a, .ref s4.heap.objs.size]) ht.typeIs (PyProof.Rows.slot_tuple_getitem.lookup) ?_ (by with_unfolding_all rfl)
  cases pl
  cases pu
  cases ps
  refine HT.ev_getItem_tuple_rev ht (Heap.IsSliceOf.new _ _ _ _) ?_ (by rw [List.size_toArray, ← hlen]; exact hz)
  refine ⟨.ref _, _, I5.laid (t' := s4.toks) (o := .tup xs.reverse) (fun b ob q => Heap.get?_push_of_some _ q) (Nat.le_refl _) ?_, rfl, q _ (I5.hok.fresh (Nat.le_refl _))⟩
  exact ⟨by rw [List.length_reverse]; exact hz, _, r.reverse, ⟨_, Heap.get?_push_size _ rfl, rfl, _, rfl⟩⟩

/-! ### the other forms -/
variable {a b c : Expr} {ra rb rc : EM D} {rs : EM (List D)} {es : List Expr}
theorem pE_rev {k : Nat} {p1 p2 p3 : Pos} (m : Bool) (ha : PE X a (tE X.K ra)) : PE X (.Subscript a (.Slice none none (some (.UnaryOp .USub (.Constant (.int 1) k p1) p2)) p3) pos) (tE X.K (kRev m ra)) := by
  -- by what the value is
  have h1 : PE X a (fun σ H Q => tE X.K ra σ H Q) := ha
  refine ⟨fun pins s σ H Q I h => ?_⟩
  obtain ⟨env, mu, F, S, he, hg, hw⟩ := h
  have hw' := WP.bnd.mp hw
  cases er : ra env S with
  | exc _ _ _ => rw [er] at hw'; exact hw'.elim
  | no => rw [er] at hw'; exact hw'.elim
  | ok x S1 =>
    rw [er] at hw'
    have hw1 : WP (doRev m x S1) (Po X.K mu F H Q) := hw'
    have hr : ∀ {R : VK}, (∀ v H1 mu1, EnvR X.K mu1 F H1 σ env → Gd X.K mu1 F H1 S1 → Rp X.K mu1 F H1 v x → WP (doRev m x S1) (Po X.K mu1 F H1 Q) → R v H1) → tE X.K ra σ H R := fun {R} hR => by
      refine ⟨env, mu, F, S, he, hg, ?_⟩
      rw [er]
      exact fun v H1 mu1 e g r => hR v H1 mu1 (he.mono hg.live e) g r (hw1.mono fun d S2 q => cl_Po mu H mu1 H1 d S2 e g.live q)
    by_cases hx : ∃ xs, x = .tup xs
    · obtain ⟨xs, rfl⟩ := hx
      refine (pe_revT ha).run pins s σ H Q I (hr fun v H1 mu1 he1 hg1 r1 hw2 => ?_)
      cases r1 with
      | @tup a vs _ q t =>
        have hw2 : WP (lsK xs.reverse fun ys => Rs.ok (.tup ys) S1) (Po X.K mu1 F H1 Q) := hw2
        rw [lsK_eq] at hw2
        exact ⟨a, vs, rfl, q, Po.tup hg1 t.reverse hw2⟩
    · refine (pe_revL ha).run pins s σ H Q I (hr fun v H1 mu1 he1 hg1 r1 hw2 => ?_)
      unfold doRev at hw2
      split at hw2
      · rename_i xs; exact absurd ⟨xs, rfl⟩ hx
      · split at hw2
        · rename_i ys e
          obtain ⟨a, vs, rfl, ha, ra⟩ := hg1.list r1 e
          exact ⟨a, vs, rfl, .inl (.inl ha), mkL_ok hg1 ra.reverse hw2⟩
        · exact hw2.elim
theorem pE_slA {p2 : Pos} (m : Bool) (ha : PE X a (tE X.K ra)) : PE X (.Subscript a (.Slice none none none p2) pos) (tE X.K (kSlA m ra)) := Ev.PE.imp (pe_slice (sl_ok m) ha po_none po_none) fun σ H Q ⟨env, mu, F, S, he, hg, hw⟩ =>
  run1 cl_Po he hg hw fun v H1 mu1 S1 x he1 hg1 r1 e1 hw1 => ⟨mu1, F, S1, x, hg1, r1, hw1⟩
theorem pE_slL {p2 : Pos} (m : Bool) (ha : PE X a (tE X.K ra)) (hb : PE X b (tE X.K rb)) : PE X (.Subscript a (.Slice (some b) none none p2) pos) (tE X.K (kSlL m ra rb)) := Ev.PE.imp (pe_slice (sl_ok m) ha (po_some hb) po_none) fun σ H Q ⟨env, mu, F, S, he, hg, hw⟩ =>
  run1 cl_Po he hg hw fun v H1 mu1 S1 x he1 hg1 r1 e1 hw1 => run1 cl_Po he1 hg1 hw1 fun w H2 mu2 S2 y he2 hg2 r2 e2 hw2 => by
    cases r2 with
    | int i => exact ⟨i, rfl, mu2, F, S2, x, hg2, r1.mono hg1.live e2, hw2⟩
    | _ => exact hw2.elim
theorem pE_slH {p2 : Pos} (m : Bool) (ha : PE X a (tE X.K ra)) (hb : PE X b (tE X.K rb)) : PE X (.Subscript a (.Slice none (some b) none p2) pos) (tE X.K (kSlH m ra rb)) := Ev.PE.imp (pe_slice (sl_ok m) ha po_none (po_some hb)) fun σ H Q ⟨env, mu, F, S, he, hg, hw⟩ =>
  run1 cl_Po he hg hw fun v H1 mu1 S1 x he1 hg1 r1 e1 hw1 => run1 cl_Po he1 hg1 hw1 fun w H2 mu2 S2 y he2 hg2 r2 e2 hw2 => by
    cases r2 with
    | int i => exact ⟨i, rfl, mu2, F, S2, x, hg2, r1.mono hg1.live e2, hw2⟩
    | _ => exact hw2.elim
theorem pE_slLH {p2 : Pos} (m : Bool) (ha : PE X a (tE X.K ra)) (hb : PE X b (tE X.K rb)) (hc : PE X c (tE X.K rc)) : PE X (.Subscript a (.Slice (some b) (some c) none p2) pos) (tE X.K (kSlLH m ra rb rc)) := Ev.PE.imp (pe_slice (sl_ok m) ha (po_some hb) (po_some hc)) fun σ H Q ⟨env, mu, F, S, he, hg, hw⟩ =>
  run1 cl_Po he hg hw fun v H1 mu1 S1 x he1 hg1 r1 e1 hw1 => run1 cl_Po he1 hg1 hw1 fun w H2 mu2 S2 y he2 hg2 r2 e2 hw2 => by
    cases y with
    | int i =>
      cases r2
      refine ⟨i, rfl, run1 cl_Po he2 hg2 hw2 fun u H3 mu3 S3 z he3 hg3 r3 e3 hw3 => ?_⟩
      cases r3 with
      | int j => exact ⟨j, rfl, mu3, F, S3, x, hg3, (r1.mono hg1.live e2).mono hg2.live e3, hw3⟩
      | _ => exact hw3.elim
    | _ =>
      exfalso
      have := WP.bnd.mp hw2
      cases q : rc env S2 with
      | ok z S3 =>
        rw [q] at this
        cases z <;> exact this.elim
      | exc _ _ _ => rw [q] at this; exact this.elim
      | no => rw [q] at this; exact this.elim
/-! ### lists of arguments, displays -/
theorem pA_nil : PA X [] (tA X.K kNil) := Ev.PA.imp pa_nil fun σ H Q ⟨env, mu, F, S, he, hg, hw⟩ => hw [] H mu (Xt.refl _ _) hg .nil
theorem pA_cons (ha : PE X a (tE X.K ra)) (hs : PA X es (tA X.K rs)) (hst : starEach (a :: es) X.env = (false, eval a X.env) :: starEach es X.env) : PA X (a :: es) (tA X.K (kCons ra rs)) := Ev.PA.imp (pa_cons ha hs hst) fun σ H Q ⟨env, mu, F, S, he, hg, hw⟩ =>
  run1 cl_PoS he hg hw fun v H1 mu1 S1 x he1 hg1 r1 e1 hw1 => runL cl_PoS he1 hg1 hw1 fun ws H2 mu2 S2 ys he2 hg2 r2 e2 hw2 =>
    hw2 _ H2 mu2 (Xt.refl _ _) hg2 (.cons (r1.mono hg1.live e2) r2)
theorem WP.get {α : Type} {r : Rs α} {P : α → Store → Prop} (h : WP r P) : ∃ a S, r = .ok a S ∧ P a S := by
  cases r with
  | ok a S => exact ⟨a, S, rfl, h⟩
  | exc _ _ _ => exact h.elim
  | no => exact h.elim
/-- as many values as parts -/
def Len (rs : EM (List D)) (n : Nat) : Prop := ∀ env S ds S1, rs env S = .ok ds S1 → ds.length = n
theorem WP.len {rs : EM (List D)} {n : Nat} {env : Env} {S : Store} {P : List D → Store → Prop} (l : Len rs n) (h : WP (rs env S) P) : WP (rs env S) fun ds S1 => P ds S1 ∧ ds.length = n := by
  obtain ⟨ds, S1, e, p⟩ := h.get
  rw [e]
  exact ⟨p, l _ _ _ _ e⟩
theorem runN {α : Type} {F : List Addr} {P : List Addr → Hp → α → Store → Prop} (hP : Cl F P) {n : Nat} {ra : EM (List D)} (l : Len ra n) {f : List D → M α} {env : Env} {mu : List Addr} {S : Store} {σ : L2.St} {H : Hp} (he : EnvR X.K mu F H σ env) (hg : Gd X.K mu F H S) (hw : WP (bnd (ra env) f S) (P mu H))
    {R : List V → Hp → Prop} (hR : ∀ v H1 mu1 S1 x, x.length = n → EnvR X.K mu1 F H1 σ env → Gd X.K mu1 F H1 S1 → Rps X.K mu1 F H1 v x → Xt mu H mu1 H1 → WP (f x S1) (P mu1 H1) → R v H1) : tA X.K ra σ H R := by
  refine ⟨env, mu, F, S, he, hg, (WP.len l (WP.bnd.mp hw)).mono fun x S1 h v H1 mu1 e g r => ?_⟩
  exact hR v H1 mu1 S1 x h.2 (he.mono hg.live e) g r e (h.1.mono fun a S2 q => hP mu H mu1 H1 a S2 e g.live q)
theorem pE_tup {x1 n : Nat} (hs : PA X es (tA X.K rs)) (l : Len rs n) (hn : n ≤ sizeLine) : PE X (.Tuple es x1 pos) (tE X.K (kTup rs)) := Ev.PE.imp (pe_tup hs) fun σ H Q ⟨env, mu, F, S, he, hg, hw⟩ =>
  runN (X := X) cl_Po l he hg hw fun v H1 mu1 S1 x hx he1 hg1 r1 e1 hw1 => ⟨by rw [r1.length, hx]; exact hn, Po.tup hg1 r1 hw1⟩
theorem pE_lst {n : Nat} (m : Bool) (hs : PA X es (tA X.K rs)) (l : Len rs n) (hn : n ≤ sizeLine) : PE X (.List es pos) (tE X.K (kLst m rs)) := Ev.PE.imp (pe_lst hs) fun σ H Q ⟨env, mu, F, S, he, hg, hw⟩ =>
  runN (X := X) cl_Po l he hg hw fun v H1 mu1 S1 x hx he1 hg1 r1 e1 hw1 => ⟨by rw [r1.length, hx]; exact hn, mkL_ok hg1 r1 hw1⟩

/-! ### calls -/
/-- what a def does, as a promise -/
def spF (K : PySem.W.Frag) (cl : List D → M D) : Sp := fun vs H Q _ => RLof K cl vs H Q
theorem tCB_rd {f : List D → M D} {σ : L2.St} {H : Hp} {Q : VK} (h : tE X.K (kCall f rs) σ H Q) : tA X.K rs σ H fun vs H1 => RLof X.K f vs H1 Q := by
  obtain ⟨env, mu, F, S, he, hg, hw⟩ := h
  exact runL cl_Po he hg hw fun vs H1 mu1 S1 x he1 hg1 r1 e1 hw1 => ⟨mu1, F, S1, x, hg1, r1, hw1⟩
theorem pE_bi {x : Str} {p : Pos} {id : String} (k : Bi) (m : Bool) (hc : X.calm = true) (hk : biF k = .builtin id) (hg : Gl X x) (hm : X.mg x = none) (hv : bootBuiltins x = some (.builtin id)) (ha : PA X (a :: es) (tA X.K rs)) (hn : x ≠ "__name__") (hdb : (x == ("__debug__" : Str)) = false)
    (he : starEach (a :: es) X.env = (false, eval a X.env) :: starEach es X.env) (hpl : (backTo pos (starEach es X.env)).any (·.1) = false) : PE X (.Call (.Name x p) (a :: es) [] pos) (tE X.K (kBi k m rs)) :=
  Ev.PE.imp (pe_callB (r := RLof X.K (doBi k m)) (by have := bi_ok (X := X) k m hc (by rw [hk]; exact fun z => nomatch z); rw [hk] at this; exact this) hg hm hv ha hn hdb he hpl) fun σ H Q h => tCB_rd h
theorem pE_biTy {x : Str} {p : Pos} {T : String} (k : Bi) (m : Bool) (hc : X.calm = true) (hk : biF k = .type T) (hg : Gl X x) (hm : X.mg x = none) (hv : bootBuiltins x = some (.type T)) (ha : PA X (a :: es) (tA X.K rs)) (hn : x ≠ "__name__") (hdb : (x == ("__debug__" : Str)) = false)
    (he : starEach (a :: es) X.env = (false, eval a X.env) :: starEach es X.env) (hpl : (backTo pos (starEach es X.env)).any (·.1) = false) : PE X (.Call (.Name x p) (a :: es) [] pos) (tE X.K (kBi k m rs)) :=
  Ev.PE.imp (pe_callTy (r := RLof X.K (doBi k m)) (by have := bi_ok (X := X) k m hc (by rw [hk]; exact fun z => nomatch z); rw [hk] at this; exact this) hg hm hv ha hn hdb he hpl) fun σ H Q h => tCB_rd h
theorem pE_biFun {x : Str} {p : Pos} {id : String} (k : Bi) (m : Bool) (hc : X.calm = true) (hk : biF k = .builtin id) (hg : Gl X x) (hm : X.mg x = some (.builtin id)) (ha : PA X (a :: es) (tA X.K rs)) (hdb : (x == ("__debug__" : Str)) = false)
    (he : starEach (a :: es) X.env = (false, eval a X.env) :: starEach es X.env) (hpl : (backTo pos (starEach es X.env)).any (·.1) = false) : PE X (.Call (.Name x p) (a :: es) [] pos) (tE X.K (kBi k m rs)) :=
  Ev.PE.imp (pe_callBfun (r := RLof X.K (doBi k m)) (by have := bi_ok (X := X) k m hc (by rw [hk]; exact fun z => nomatch z); rw [hk] at this; exact this) hg hm ha hdb he hpl) fun σ H Q h => tCB_rd h
/-- isinstance(e, T) -/
theorem pE_isi {xT : Str} {p p1 : Pos} (t : Ty) (m : Bool) (hg : Gl X "isinstance") (hm : X.mg "isinstance" = none) (hg2 : Gl X xT) (hm2 : X.mg xT = none) (hv2 : bootBuiltins xT = some (.type (tyName t))) (hn2 : xT ≠ "__name__") (hd2 : (xT == ("__debug__" : Str)) = false) (ha : PE X a (tE X.K ra))
    (hst : starEach (a :: [.Name xT p1]) X.env = (false, eval a X.env) :: starEach [.Name xT p1] X.env) :
    PE X (.Call (.Name "isinstance" p) [a, .Name xT p1] [] pos) (tE X.K (kBi (.isinst t) m (kCons ra kNil))) := by
  refine Ev.PE.imp (pe_callB call_isi hg hm (by decide +kernel) (pa_cons ha (pa_cons (pe_bltn (v := .ty (tyName t)) hg2 hm2 hv2 rfl hn2 hd2) pa_nil (by rfl)) hst) (by decide) (by decide) hst rfl) fun σ H Q ⟨env, mu, F, S, he, hg, hw⟩ => ?_
  have hw2 : WP (bnd (ra env) (fun d => doBi (.isinst t) m [d]) S) (Po X.K mu F H Q) := by
    refine WP.bnd.mpr ?_
    have h1 := WP.bnd.mp hw
    have h2 := WP.bnd.mp h1
    exact h2.mono fun d S1 q => by
      have q2 := WP.bnd.mp q
      exact q2
  refine run1 cl_Po he hg hw2 fun v H1 mu1 S1 x he1 hg1 r1 e1 hw1 => ?_
  unfold doBi at hw1
  simp only at hw1
  split at hw1
  · rename_i u e
    exact isi_ok t hg1 r1 e (Po.flat hg1 (.bl _) hw1)
  · exact hw1.elim
theorem pE_call {x : Str} {p : Pos} {k : Nat} {f : Addr} {fd : FuncData} {ps : List Str} {cl : List D → M D} (Fk : FnOk X.prog X.w X.K X.mg X.base CX0 k f fd ps (spF X.K cl)) (hr : Room k X.A) (hg : Gl X x) (hm : X.mg x = some (.ref f)) (hk : PySem.W.keepIn X.K (.ref f) = true) (hb : Binds X.K fd ps [])
    (ha : PA X (a :: es) (tA X.K rs)) (hdb : (x == ("__debug__" : Str)) = false) (he : starEach (a :: es) X.env = (false, eval a X.env) :: starEach es X.env) (hpl : (backTo pos (starEach es X.env)).any (·.1) = false) : PE X (.Call (.Name x p) (a :: es) [] pos) (tE X.K (kCall cl rs)) := by
  refine Ev.PE.imp (pe_call Fk hr hg hm hk hb .nil pass0 ha hdb he hpl) fun σ H Q h => ?_
  have := tCB_rd h
  show tA X.K rs σ H fun vs H1 => spF X.K cl (vs ++ []) H1 Q E0
  simp only [List.append_nil]
  exact this
theorem pE_call0 {x : Str} {p : Pos} {k : Nat} {f : Addr} {fd : FuncData} {ps : List Str} {cl : List D → M D} (Fk : FnOk X.prog X.w X.K X.mg X.base CX0 k f fd ps (spF X.K cl)) (hr : Room k X.A) (hg : Gl X x) (hm : X.mg x = some (.ref f)) (hk : PySem.W.keepIn X.K (.ref f) = true) (hb : Binds X.K fd ps [])
    (hdb : (x == ("__debug__" : Str)) = false) : PE X (.Call (.Name x p) [] [] pos) (tE X.K (kCall cl kNil)) := by
  refine Ev.PE.imp (pe_call0 Fk hr hg hm hk hb .nil pass0 hdb) fun σ H Q ⟨env, mu, F, S, he, hg, hw⟩ => ?_
  exact ⟨mu, F, S, [], hg, .nil, hw⟩
end
end Ev
/-! Ev: methods, ranges, sources -/
namespace Ev
open PySem PySem.Spec
open PyProof.Rows L2
section
variable {K : PySem.W.Frag} {mu F : List Addr} {H : Hp} {S : Store} {Q : VK}
theorem Po.put {n : Nat} {p : Addr} {vs : List V} {ds : List D} {v : V} {d : D} (g : Gd K mu F H S) (hn : mu[n]? = some p) (r : Rps K mu F H vs ds) (rd : Rp K mu F H v d) (h : Po K mu F H Q d (S.set n (.lst ds))) : Q v (upd H p (.lst vs)) :=
  have e : Xt mu H mu (upd H p (.lst vs)) := Xt.put (List.mem_of_getElem? hn)
  h v _ mu e (g.put (ds0 := []) hn r) (rd.mono g.live e)
theorem putL_ok {n : Nat} {f : List D → Option (List D × D)} {P : D → Store → Prop} (h : WP (putL n f S) P) : ∃ xs ys d, S[n]? = some (.lst xs) ∧ f xs = some (ys, d) ∧ P d (S.set n (.lst ys)) := by
  unfold putL at h
  split at h
  · rename_i xs e
    split at h
    · rename_i ys d e2
      rw [lsK_eq, lsK_eq] at h
      exact ⟨xs, ys, d, e, e2, h⟩
    · exact h.elim
  · exact h.elim
/-- what stands in the store is a list -/
theorem Gd.isList {n : Nat} {a : Addr} (g : Gd K mu F H S) (h : mu[n]? = some a) : ∃ vs, H a = some (.lst vs) := by
  have hn : n < S.length := by rw [← g.len]; exact (List.getElem?_eq_some_iff.mp h).1
  have := g.cell n S[n] a (List.getElem?_eq_getElem hn) h
  cases e : S[n] with
  | lst ds => rw [e] at this; obtain ⟨vs, h1, _⟩ := this; exact ⟨vs, h1⟩
  | obj _ _ => rw [e] at this; exact this.elim
end
section
variable {X : Cx} {a b c : Expr} {ra rb rc : EM D} {rs : EM (List D)} {es : List Expr} {pos apos : Pos}
theorem tyV_list {K : PySem.W.Frag} {H : Hp} {p : Addr} {vs : List V} (h : H p = some (.lst vs)) : tyV K "list" (.ref p) H := .inl ⟨rfl, vs, .inl (.inl h)⟩
theorem pE_append (ha : PE X a (tE X.K ra)) (hb : PE X b (tE X.K rb)) (hbase : attributeBase a "append" X.env (eval a X.env) = eval a X.env) (hline : (apos.endLine == pos.line) = true)
    (hst : starEach [b] X.env = (false, eval b X.env) :: starEach [] X.env) : PE X (.Call (.Attribute a "append" apos) [b] [] pos) (tE X.K (kMt .append ra (kCons rb kNil))) := by
  refine Ev.PE.imp (pe_bm PySem.F.plainAttrs_list PySem.F.slot_list_append PySem.F.type_list_append mt_append ha (pa_cons hb pa_nil hst) (hbase := hbase) (hfew := by rw [hst]; rfl) (hline := hline) (hs := hst)) fun σ H Q ⟨env, mu, F, S, he, hg, hw⟩ => ?_
  refine run1 cl_Po he hg hw fun v H1 mu1 S1 x he1 hg1 r1 e1 hw1 => ?_
  have hw2 : WP (bnd (rb env) (fun d => doMt .append x [d]) S1) (Po X.K mu1 F H1 Q) := WP.bnd.mpr ((WP.bnd.mp (WP.bnd.mp hw1)).mono fun d S2 q => WP.bnd.mp q)
  cases x with
  | ref n =>
    cases r1 with
    | @ref _ p hn =>
      obtain ⟨vs0, h0⟩ := hg1.isList hn
      refine ⟨tyV_list h0, run1 cl_Po he1 hg1 hw2 fun w H2 mu2 S2 y he2 hg2 r2 e2 hw3 => ?_⟩
      have hn2 := e2.get hn
      have hw3 : WP (putL n (fun xs => if xs.length < LIM then some (xs ++ [y], .non) else none) S2) (Po X.K mu2 F H2 Q) := hw3
      obtain ⟨xs, ys, d, h1, h2, h3⟩ := putL_ok hw3
      split at h2
      · rename_i hz
        cases h2
        obtain ⟨vs, h4, h5⟩ := hg2.ref hn2 h1
        exact ⟨p, vs, w, rfl, rfl, h4, by rw [h5.length, ← LIM_eq]; exact hz, Po.put hg2 hn2 (h5.append (.cons r2 .nil)) .non h3⟩
      · cases h2
  | _ =>
    exfalso
    have := WP.bnd.mp hw2
    obtain ⟨y, S2, _, q⟩ := this.get
    exact q
theorem pE_extend (ha : PE X a (tE X.K ra)) (hb : PE X b (tE X.K rb)) (hbase : attributeBase a "extend" X.env (eval a X.env) = eval a X.env) (hline : (apos.endLine == pos.line) = true)
    (hst : starEach [b] X.env = (false, eval b X.env) :: starEach [] X.env) : PE X (.Call (.Attribute a "extend" apos) [b] [] pos) (tE X.K (kMt .extend ra (kCons rb kNil))) := by
  refine Ev.PE.imp (pe_bm PySem.F.plainAttrs_list PySem.F.slot_list_extend PySem.F.type_list_extend mt_extend ha (pa_cons hb pa_nil hst) (hbase := hbase) (hfew := by rw [hst]; rfl) (hline := hline) (hs := hst)) fun σ H Q ⟨env, mu, F, S, he, hg, hw⟩ => ?_
  refine run1 cl_Po he hg hw fun v H1 mu1 S1 x he1 hg1 r1 e1 hw1 => ?_
  have hw2 : WP (bnd (rb env) (fun d => doMt .extend x [d]) S1) (Po X.K mu1 F H1 Q) := WP.bnd.mpr ((WP.bnd.mp (WP.bnd.mp hw1)).mono fun d S2 q => WP.bnd.mp q)
  cases x with
  | ref n =>
    cases r1 with
    | @ref _ p hn =>
      obtain ⟨vs0, h0⟩ := hg1.isList hn
      refine ⟨tyV_list h0, run1 cl_Po he1 hg1 hw2 fun w H2 mu2 S2 y he2 hg2 r2 e2 hw3 => ?_⟩
      have hn2 := e2.get hn
      have hw3 : WP ((fun S => match lstOf S y with
        | some ys => putL n (fun xs => if xs.length + ys.length ≤ LIM then some (xs ++ ys, .non) else none) S
        | none => .no) S2) (Po X.K mu2 F H2 Q) := hw3
      simp only at hw3
      split at hw3
      · rename_i zs ez
        obtain ⟨q, ws, rfl, hb, rb'⟩ := hg2.list r2 ez
        obtain ⟨xs, ys, d, h1, h2, h3⟩ := putL_ok hw3
        split at h2
        · rename_i hz
          cases h2
          obtain ⟨vs, h4, h5⟩ := hg2.ref hn2 h1
          exact ⟨p, q, vs, ws, rfl, rfl, h4, hb, by rw [h5.length, rb'.length, ← LIM_eq]; exact hz, Po.put hg2 hn2 (h5.append rb') .non h3⟩
        · cases h2
      · exact hw3.elim
  | _ =>
    exfalso
    have := WP.bnd.mp hw2
    obtain ⟨y, S2, _, q⟩ := this.get
    exact q
theorem pE_pop (ha : PE X a (tE X.K ra)) (hbase : attributeBase a "pop" X.env (eval a X.env) = eval a X.env) (hline : (apos.endLine == pos.line) = true) :
    PE X (.Call (.Attribute a "pop" apos) [] [] pos) (tE X.K (kMt .pop ra kNil)) := by
  refine Ev.PE.imp (pe_bm0 PySem.F.plainAttrs_list PySem.F.slot_list_pop PySem.F.type_list_pop mt_pop ha hbase hline) fun σ H Q ⟨env, mu, F, S, he, hg, hw⟩ => ?_
  refine run1 cl_Po he hg hw fun v H1 mu1 S1 x he1 hg1 r1 e1 hw1 => ?_
  have hw2 : WP (doMt .pop x [] S1) (Po X.K mu1 F H1 Q) := WP.bnd.mp hw1
  cases x with
  | ref n =>
    cases r1 with
    | @ref _ p hn =>
      obtain ⟨vs0, h0⟩ := hg1.isList hn
      have hw3 : WP (putL n (fun xs => match xs[xs.length - 1]? with | some d => some (xs.dropLast, d) | none => none) S1) (Po X.K mu1 F H1 Q) := hw2
      obtain ⟨xs, ys, d, h1, h2, h3⟩ := putL_ok hw3
      obtain ⟨vs, h4, h5⟩ := hg1.ref hn h1
      split at h2
      · rename_i d0 ed
        cases h2
        obtain ⟨w, hw, rw'⟩ := h5.get ed
        exact ⟨tyV_list h0, p, vs, w, rfl, rfl, h4, by rw [h5.length]; exact hw, Po.put hg1 hn h5.dropLast rw' h3⟩
      · cases h2
  | _ => exact hw2.elim
theorem pE_bits (ha : PE X a (tE X.K ra)) (hbase : attributeBase a "bit_length" X.env (eval a X.env) = eval a X.env) (hline : (apos.endLine == pos.line) = true) :
    PE X (.Call (.Attribute a "bit_length" apos) [] [] pos) (tE X.K (kMt .bits ra kNil)) := by
  refine Ev.PE.imp (pe_bits ha hbase hline) fun σ H Q ⟨env, mu, F, S, he, hg, hw⟩ => ?_
  refine run1 cl_Po he hg hw fun v H1 mu1 S1 x he1 hg1 r1 e1 hw1 => ?_
  have hw2 : WP (doMt .bits x [] S1) (Po X.K mu1 F H1 Q) := WP.bnd.mp hw1
  cases r1 with
  | int i => exact ⟨i, rfl, Po.flat hg1 (.int _) hw2⟩
  | _ => exact hw2.elim

/-! ### list(range(..)), tuple(range(..)) -/
theorem rgV_eq (a b : Int) : rgV a b = (rgI a b).map V.int := by
  unfold rgV
  refine List.ext_getElem? fun i => ?_
  rw [List.getElem?_map, List.getElem?_map]
  by_cases hi : i < (b - a).toNat
  · rw [List.getElem?_range hi, show (rgI a b)[i]? = some (a + i) from rgF_get _ _ _ hi]
    rfl
  · rw [List.getElem?_eq_none (by simpa using hi), List.getElem?_eq_none (by rw [show (rgI a b).length = (b - a).toNat from rgF_len _ _]; omega)]
    rfl
theorem rgOk_of {a b : Int} (h : rgOk a b = true) : RgOk a b := by
  unfold rgOk at h
  simp only [leI_eq, Bool.and_eq_true, decide_eq_true_eq, Nat.ble_eq] at h
  have e : LIM = 16777216 := rfl
  rw [e] at h
  exact ⟨by omega, by omega, by omega, by omega, by omega⟩
theorem WP.kCons1 {ra : EM D} {env : Env} {S : Store} {P : List D → Store → Prop} : WP (kCons ra kNil env S) P ↔ WP (ra env S) fun d S1 => P [d] S1 := by
  unfold kCons kNil
  rw [WP.bnd]
  exact ⟨fun h => h.mono fun d S1 q => (WP.bnd.mp q), fun h => h.mono fun d S1 q => WP.bnd.mpr q⟩
theorem WP.kCons2 {ra rb : EM D} {env : Env} {S : Store} {P : List D → Store → Prop} : WP (kCons ra (kCons rb kNil) env S) P ↔ WP (ra env S) fun d S1 => WP (rb env S1) fun e S2 => P [d, e] S2 := by
  unfold kCons kNil
  rw [WP.bnd]
  refine ⟨fun h => h.mono fun d S1 q => ?_, fun h => h.mono fun d S1 q => ?_⟩
  · have q := WP.bnd.mp (WP.bnd.mp q)
    exact q.mono fun e S2 q2 => WP.bnd.mp q2
  · exact WP.bnd.mpr (WP.bnd.mpr (q.mono fun e S2 q2 => WP.bnd.mpr q2))
theorem WP.kBi1 {k : Bi} {m : Bool} {ra : EM D} {env : Env} {S : Store} {P : D → Store → Prop} : WP (kBi k m (kCons ra kNil) env S) P ↔ WP (Ev.bnd (ra env) (fun d => doBi k m [d]) S) P := by
  unfold kBi
  rw [WP.bnd, WP.kCons1, WP.bnd]
theorem WP.kBi2 {k : Bi} {m : Bool} {ra rb : EM D} {env : Env} {S : Store} {P : D → Store → Prop} : WP (kBi k m (kCons ra (kCons rb kNil)) env S) P ↔ WP (Ev.bnd (ra env) (fun d => Ev.bnd (rb env) fun e => doBi k m [d, e]) S) P := by
  unfold kBi
  rw [WP.bnd, WP.kCons2, WP.bnd]
  exact ⟨fun h => h.mono fun d S1 q => WP.bnd.mpr q, fun h => h.mono fun d S1 q => WP.bnd.mp q⟩
variable {p q : Pos}
theorem pE_listRg1 (m : Bool) (hc : X.calm = true) (hg : Gl X "list") (hm : X.mg "list" = none) (hg2 : Gl X "range") (hm2 : X.mg "range" = none) (ha : PE X a (tE X.K ra)) (na : starEach [a] X.env = (false, eval a X.env) :: starEach [] X.env) :
    PE X (.Call (.Name "list" p) [.Call (.Name "range" q) [a] [] apos] [] pos) (tE X.K (kBi .listRg m (kCons ra kNil))) := by
  refine Ev.PE.imp (pe_listRg hc hg hm (prg_1 hg2 hm2 ha na)) fun σ H Q ⟨env, mu, F, S, he, hg, hw⟩ => ?_
  refine run1 cl_Po he hg (WP.kBi1.mp hw) fun v H1 mu1 S1 x he1 hg1 r1 e1 hw1 => ?_
  cases r1 with
  | int i =>
    have hw1 : WP (if rgOk 0 i then mkL m ((rgI 0 i).map D.int) S1 else .no) (Po X.K mu1 F H1 Q) := hw1
    split at hw1
    · rename_i h
      exact ⟨i, rfl, rgOk_of h, by rw [rgV_eq]; exact mkL_ok hg1 (Rps.ints _) hw1⟩
    · exact hw1.elim
  | _ => exact hw1.elim
theorem pE_listRg2 (m : Bool) (hc : X.calm = true) (hg : Gl X "list") (hm : X.mg "list" = none) (hg2 : Gl X "range") (hm2 : X.mg "range" = none) (ha : PE X a (tE X.K ra)) (hb : PE X b (tE X.K rb))
    (na : starEach [a, b] X.env = (false, eval a X.env) :: starEach [b] X.env) (nb : starEach [b] X.env = (false, eval b X.env) :: starEach [] X.env) :
    PE X (.Call (.Name "list" p) [.Call (.Name "range" q) [a, b] [] apos] [] pos) (tE X.K (kBi .listRg m (kCons ra (kCons rb kNil)))) := by
  refine Ev.PE.imp (pe_listRg hc hg hm (prg_2 hg2 hm2 ha hb na nb (by rw [nb]; rfl))) fun σ H Q ⟨env, mu, F, S, he, hg, hw⟩ => ?_
  refine run1 cl_Po he hg (WP.kBi2.mp hw) fun v H1 mu1 S1 x he1 hg1 r1 e1 hw1 => run1 cl_Po he1 hg1 hw1 fun w H2 mu2 S2 y he2 hg2 r2 e2 hw2 => ?_
  cases x with
  | int i =>
    cases y with
    | int j =>
      cases r1; cases r2
      have hw2 : WP (if rgOk i j then mkL m ((rgI i j).map D.int) S2 else .no) (Po X.K mu2 F H2 Q) := hw2
      split at hw2
      · rename_i h
        exact ⟨i, j, rfl, rfl, rgOk_of h, by rw [rgV_eq]; exact mkL_ok hg2 (Rps.ints _) hw2⟩
      · exact hw2.elim
    | _ => exact hw2.elim
  | _ => exact hw2.elim
theorem pE_tupRg1 (m : Bool) (hc : X.calm = true) (hg : Gl X "tuple") (hm : X.mg "tuple" = none) (hg2 : Gl X "range") (hm2 : X.mg "range" = none) (ha : PE X a (tE X.K ra)) (na : starEach [a] X.env = (false, eval a X.env) :: starEach [] X.env) :
    PE X (.Call (.Name "tuple" p) [.Call (.Name "range" q) [a] [] apos] [] pos) (tE X.K (kBi .tupRg m (kCons ra kNil))) := by
  refine Ev.PE.imp (pe_tupRg hc hg hm (prg_1 hg2 hm2 ha na)) fun σ H Q ⟨env, mu, F, S, he, hg, hw⟩ => ?_
  refine run1 cl_Po he hg (WP.kBi1.mp hw) fun v H1 mu1 S1 x he1 hg1 r1 e1 hw1 => ?_
  cases r1 with
  | int i =>
    have hw1 : WP (if rgOk 0 i then lsK ((rgI 0 i).map D.int) fun ys => .ok (.tup ys) S1 else .no) (Po X.K mu1 F H1 Q) := hw1
    split at hw1
    · rename_i h
      rw [lsK_eq] at hw1
      exact ⟨i, rfl, rgOk_of h, by rw [rgV_eq]; exact Po.tup hg1 (Rps.ints _) hw1⟩
    · exact hw1.elim
  | _ => exact hw1.elim
theorem pE_tupRg2 (m : Bool) (hc : X.calm = true) (hg : Gl X "tuple") (hm : X.mg "tuple" = none) (hg2 : Gl X "range") (hm2 : X.mg "range" = none) (ha : PE X a (tE X.K ra)) (hb : PE X b (tE X.K rb))
    (na : starEach [a, b] X.env = (false, eval a X.env) :: starEach [b] X.env) (nb : starEach [b] X.env = (false, eval b X.env) :: starEach [] X.env) :
    PE X (.Call (.Name "tuple" p) [.Call (.Name "range" q) [a, b] [] apos] [] pos) (tE X.K (kBi .tupRg m (kCons ra (kCons rb kNil)))) := by
  refine Ev.PE.imp (pe_tupRg hc hg hm (prg_2 hg2 hm2 ha hb na nb (by rw [nb]; rfl))) fun σ H Q ⟨env, mu, F, S, he, hg, hw⟩ => ?_
  refine run1 cl_Po he hg (WP.kBi2.mp hw) fun v H1 mu1 S1 x he1 hg1 r1 e1 hw1 => run1 cl_Po he1 hg1 hw1 fun w H2 mu2 S2 y he2 hg2 r2 e2 hw2 => ?_
  cases x with
  | int i =>
    cases y with
    | int j =>
      cases r1; cases r2
      have hw2 : WP (if rgOk i j then lsK ((rgI i j).map D.int) fun ys => .ok (.tup ys) S2 else .no) (Po X.K mu2 F H2 Q) := hw2
      split at hw2
      · rename_i h
        rw [lsK_eq] at hw2
        exact ⟨i, j, rfl, rfl, rgOk_of h, by rw [rgV_eq]; exact Po.tup hg2 (Rps.ints _) hw2⟩
      · exact hw2.elim
    | _ => exact hw2.elim
  | _ => exact hw2.elim

/-! ### sources -/
theorem src_rg1 {ds : List D} {S : Store} {r : List D × Deps} (e : srcOf .rg1 ds S = some r) : ∃ b, ds = [.int b] ∧ (if rgOk 0 b then some ((rgI 0 b).map D.int, ([] : Deps)) else none) = some r := by
  rcases ds with _ | ⟨d, _ | ⟨d2, rest⟩⟩
  · cases e
  · cases d <;> first | exact ⟨_, rfl, e⟩ | cases e
  · cases d <;> cases e
theorem src_rg2 {ds : List D} {S : Store} {r : List D × Deps} (e : srcOf .rg2 ds S = some r) : ∃ a b, ds = [.int a, .int b] ∧ (if rgOk a b then some ((rgI a b).map D.int, ([] : Deps)) else none) = some r := by
  rcases ds with _ | ⟨d, _ | ⟨d2, _ | ⟨d3, rest⟩⟩⟩
  · cases e
  · cases d <;> cases e
  · cases d <;> first | (cases e; done) | (cases d2 <;> first | exact ⟨_, _, rfl, e⟩ | cases e)
  · cases d <;> cases d2 <;> cases e
theorem src_en {ds : List D} {S : Store} {r : List D × Deps} (e : srcOf .en ds S = some r) : ∃ d, ds = [d] ∧ (seqD S d).map (fun p => (enumD p.1 0, p.2)) = some r := by
  rcases ds with _ | ⟨d, _ | ⟨d2, rest⟩⟩
  · cases e
  · exact ⟨_, rfl, e⟩
  · cases e
theorem src_zp {ds : List D} {S : Store} {r : List D × Deps} (e : srcOf .zp ds S = some r) : ∃ d d', ds = [d, d'] ∧ ((seqD S d).bind fun p => (seqD S d').map fun q => (zipD p.1 q.1, p.2 ++ q.2)) = some r := by
  rcases ds with _ | ⟨d, _ | ⟨d2, _ | ⟨d3, rest⟩⟩⟩
  · cases e
  · cases e
  · exact ⟨_, _, rfl, e⟩
  · cases e
theorem src_zp3 {ds : List D} {S : Store} {r : List D × Deps} (e : srcOf .zp3 ds S = some r) : ∃ d d' d'', ds = [d, d', d''] ∧ ((seqD S d).bind fun p => (seqD S d').bind fun q => (seqD S d'').map fun r => (zip3D p.1 q.1 r.1, p.2 ++ q.2 ++ r.2)) = some r := by
  rcases ds with _ | ⟨d, _ | ⟨d2, _ | ⟨d3, _ | ⟨d4, rest⟩⟩⟩⟩
  · cases e
  · cases e
  · cases e
  · exact ⟨_, _, _, rfl, e⟩
  · cases e
theorem src_get {k : SK} {σ : L2.St} {H : Hp} {R : It → Hp → Prop} (h : tSrc X.K k rs σ H R) {T : List V → Hp → Prop}
    (hT : ∀ vs H1 mu1 F S1 ds xs dp, Gd X.K mu1 F H1 S1 → Rps X.K mu1 F H1 vs ds → srcOf k ds S1 = some (xs, dp) → (∀ J, Gives2 X.K J xs dp mu1 F H1 → R J H1) → T vs H1) : tA X.K rs σ H T := by
  obtain ⟨env, mu, F, S, he, hg, hw⟩ := h
  refine ⟨env, mu, F, S, he, hg, hw.mono fun ds S1 ⟨xs, dp, e, q⟩ vs H1 mu1 e1 g1 r1 => ?_⟩
  exact hT vs H1 mu1 F S1 ds xs dp g1 r1 e fun J hJ => q J H1 mu1 e1 g1 hJ
variable {tg e2 e3 : Expr} {elts : List Expr} {kk : Nat} {tpos : Pos}
theorem pI_vl (ha : PE X a (tE X.K ra)) : PI X tg a (tSrc X.K .vl (kCons ra kNil)) := by
  refine Ev.PI.imp (Ev.PI.or (pi_list ha) (pi_tup ha)) fun σ H R h => ?_
  obtain ⟨env, mu, F, S, he, hg, hw⟩ := h
  have hw1 := WP.kCons1.mp hw
  obtain ⟨x, S1, ex, xs, dp, e, q⟩ := hw1.get
  have hr : ∀ {T : VK}, (∀ v H1 mu1, Xt mu H mu1 H1 → Gd X.K mu1 F H1 S1 → Rp X.K mu1 F H1 v x → T v H1) → tE X.K ra σ H T := fun {T} hT => by
    refine ⟨env, mu, F, S, he, hg, ?_⟩
    rw [ex]
    exact fun v H1 mu1 e1 g1 r1 => hT v H1 mu1 e1 g1 r1
  have e : seqD S1 x = some (xs, dp) := e
  by_cases hx : ∃ ys, x = .tup ys
  · refine .inr (hr fun v H1 mu1 e1 g1 r1 => ?_)
    obtain ⟨b, p, rfl, c, hb⟩ := colm g1 r1 e
    cases hb.mpr hx
    exact ⟨p, rfl, c.now, q _ H1 mu1 e1 g1 (gives_vl c)⟩
  · refine .inl (hr fun v H1 mu1 e1 g1 r1 => ?_)
    obtain ⟨b, p, rfl, c, hb⟩ := colm g1 r1 e
    cases b with
    | true => exact ⟨p, rfl, c.now, q _ H1 mu1 e1 g1 (gives_vl c)⟩
    | false => exact absurd (hb.mp rfl) hx
theorem pI_rg1 (hg : Gl X "range") (hm : X.mg "range" = none) (ha : PA X [a] (tA X.K rs)) (hs : starEach [a] X.env = (false, eval a X.env) :: starEach [] X.env) : PI X tg (.Call (.Name "range" p) [a] [] pos) (tSrc X.K .rg1 rs) := by
  refine Ev.PI.imp (pi_range1 hg hm ha hs) fun σ H R h => src_get h fun vs H1 mu1 F S1 ds xs dp g r e hR => ?_
  have e' := src_rg1 e
  clear e
  obtain ⟨b, rfl, e⟩ := e'
  obtain ⟨v, rfl, r1⟩ := vals_ref r
  cases r1
  split at e
  · rename_i hk
    cases e
    have := rgOk_of hk
    refine ⟨b, rfl, this.2.2.1, this.2.2.2.1, hR _ ?_⟩
    have := gives_rg (K := X.K) (mu := mu1) (F := F) (H := H1) 0 b
    rwa [Int.sub_zero] at this
  · cases e
theorem pI_rg2 (hg : Gl X "range") (hm : X.mg "range" = none) (ha : PA X [a, b] (tA X.K rs)) (hs : starEach [a, b] X.env = (false, eval a X.env) :: starEach [b] X.env) (hs2 : starEach [b] X.env = (false, eval b X.env) :: starEach [] X.env) : PI X tg (.Call (.Name "range" p) [a, b] [] pos) (tSrc X.K .rg2 rs) := by
  refine Ev.PI.imp (pi_range2 hg hm ha (by rw [hs, hs2]; rfl) hs2) fun σ H R h => src_get h fun vs H1 mu1 F S1 ds xs dp g r e hR => ?_
  have e' := src_rg2 e
  clear e
  obtain ⟨i, j, rfl, e⟩ := e'
  obtain ⟨v, w, rfl, r1, r2⟩ := vals_ref2 r
  cases r1; cases r2
  split at e
  · rename_i hk
    cases e
    have := rgOk_of hk
    exact ⟨i, j, rfl, ⟨this.1, this.2.1, this.2.2.1, this.2.2.2.1⟩, hR _ (gives_rg i j)⟩
  · cases e
theorem pI_en (hg : Gl X "enumerate") (hm : X.mg "enumerate" = none) (ha : PA X [a] (tA X.K rs)) (hs : starEach [a] X.env = (false, eval a X.env) :: starEach [] X.env) : PI X (.Tuple elts kk tpos) (.Call (.Name "enumerate" p) [a] [] pos) (tSrc X.K .en rs) := by
  refine Ev.PI.imp (pi_enK hg hm ha hs) fun σ H R h => src_get h fun vs H1 mu1 F S1 ds xs dp g r e hR => ?_
  have e' := src_en e
  clear e
  obtain ⟨d, rfl, e⟩ := e'
  obtain ⟨v, rfl, r1⟩ := vals_ref r
  cases e1 : seqD S1 d with
  | none => rw [e1] at e; cases e
  | some pr =>
    obtain ⟨ys, dq⟩ := pr
    rw [e1] at e
    cases e
    obtain ⟨b, q, rfl, c, _⟩ := colm g r1 e1
    exact ⟨b, q, rfl, c.now, hR _ (gives_en c)⟩
theorem pI_zp (hg : Gl X "zip") (hm : X.mg "zip" = none) (ha : PA X [a, b] (tA X.K rs)) (hs : starEach [a, b] X.env = (false, eval a X.env) :: starEach [b] X.env) (hs2 : starEach [b] X.env = (false, eval b X.env) :: starEach [] X.env) : PI X (.Tuple elts kk tpos) (.Call (.Name "zip" p) [a, b] [] pos) (tSrc X.K .zp rs) := by
  refine Ev.PI.imp (pi_zpK hg hm ha hs (by rw [hs2]; rfl)) fun σ H R h => src_get h fun vs H1 mu1 F S1 ds xs dp g r e hR => ?_
  have e' := src_zp e
  clear e
  obtain ⟨d, d', rfl, e⟩ := e'
  obtain ⟨v, w, rfl, r1, r2⟩ := vals_ref2 r
  cases e1 : seqD S1 d with
  | none => rw [e1] at e; cases e
  | some pr =>
    obtain ⟨ys, dq⟩ := pr
    cases e2 : seqD S1 d' with
    | none => rw [e1, e2] at e; cases e
    | some pr' =>
      obtain ⟨ys', dq'⟩ := pr'
      rw [e1, e2] at e
      cases e
      obtain ⟨b, q, rfl, c, _⟩ := colm g r1 e1
      obtain ⟨b', q', rfl, c', _⟩ := colm g r2 e2
      exact ⟨b, b', q, q', rfl, c.now, c'.now, hR _ (gives_zp c c')⟩
theorem vals_ref3 {K : PySem.W.Frag} {mu F : List Addr} {H : Hp} {vs : List V} {d e f : D} (r : Rps K mu F H vs [d, e, f]) : ∃ v w u, vs = [v, w, u] ∧ Rp K mu F H v d ∧ Rp K mu F H w e ∧ Rp K mu F H u f := by
  cases r with
  | cons r t => obtain ⟨w, u, rfl, q, q'⟩ := vals_ref2 t; exact ⟨_, w, u, rfl, r, q, q'⟩
theorem pI_zp3 (hg : Gl X "zip") (hm : X.mg "zip" = none) (ha : PA X [a, b, c] (tA X.K rs)) (hs : starEach [a, b, c] X.env = (false, eval a X.env) :: starEach [b, c] X.env) (hs2 : starEach [b, c] X.env = (false, eval b X.env) :: starEach [c] X.env) (hs3 : starEach [c] X.env = (false, eval c X.env) :: starEach [] X.env) :
    PI X (.Tuple elts kk tpos) (.Call (.Name "zip" p) [a, b, c] [] pos) (tSrc X.K .zp3 rs) := by
  refine Ev.PI.imp (pi_zp3K hg hm ha hs (by rw [hs2, hs3]; rfl)) fun σ H R h => src_get h fun vs H1 mu1 F S1 ds xs dp g r e hR => ?_
  have e' := src_zp3 e
  clear e
  obtain ⟨d, d', d'', rfl, e⟩ := e'
  obtain ⟨v, w, u, rfl, r1, r2, r3⟩ := vals_ref3 r
  cases e1 : seqD S1 d with
  | none => rw [e1] at e; cases e
  | some pr =>
    obtain ⟨ys, dq⟩ := pr
    cases e2 : seqD S1 d' with
    | none => rw [e1, e2] at e; cases e
    | some pr' =>
      obtain ⟨ys', dq'⟩ := pr'
      cases e3 : seqD S1 d'' with
      | none => rw [e1, e2, e3] at e; cases e
      | some pr'' =>
        obtain ⟨ys'', dq''⟩ := pr''
        rw [e1, e2, e3] at e
        cases e
        obtain ⟨b, q, rfl, c, _⟩ := colm g r1 e1
        obtain ⟨b', q', rfl, c', _⟩ := colm g r2 e2
        obtain ⟨b'', q'', rfl, c'', _⟩ := colm g r3 e3
        exact ⟨b, b', b'', q, q', q'', rfl, c.now, c'.now, c''.now, hR _ (gives_zp3 c c' c'')⟩
end
end Ev
/-! Ev: names, targets, comprehensions -/
namespace Ev
open PySem PySem.Spec
open PyProof.Rows L2

section
variable {K : PySem.W.Frag} {mu mu' F F' : List Addr} {H H' : Hp} {S S' : Store} {a p : Addr}
/-! ### fewer addresses kept out; a list of ours that is kept out changes; it becomes a value -/
mutual
theorem Rp.fewer (f : ∀ b, b ∈ F' → b ∈ F) : ∀ {v : V} {d : D}, Rp K mu F H v d → Rp K mu F' H v d
  | _, _, .non => .non
  | _, _, .bl b => .bl b
  | _, _, .int i => .int i
  | _, _, .str s => .str s
  | _, _, .tup h r => .tup h (Rps.fewer f r)
  | _, _, .lst h r => .lst ⟨h.1, h.2.1, fun hf => h.2.2 (f _ hf)⟩ (Rps.fewer f r)
  | _, _, .ref h => .ref h
  | _, _, .scr h r => .scr h (Rps.fewer f r)
theorem Rps.fewer (f : ∀ b, b ∈ F' → b ∈ F) : ∀ {vs : List V} {ds : List D}, Rps K mu F H vs ds → Rps K mu F' H vs ds
  | _, _, .nil => .nil
  | _, _, .cons r t => .cons (Rp.fewer f r) (Rps.fewer f t)
end
theorem Gd.fewer (f : ∀ b, b ∈ F' → b ∈ F) (g : Gd K mu F H S) : Gd K mu F' H S :=
  ⟨⟨g.live.nd, g.live.mt, fun b hb hf => g.live.out b hb (f b hf), fun b hb => g.live.frn b (f b hb)⟩, g.len, fun n c b h1 h2 => by
    have := g.cell n c b h1 h2
    cases c with
    | lst ds => obtain ⟨vs, e, r⟩ := this; exact ⟨vs, e, r.fewer f⟩
    | obj _ _ => exact this.elim⟩
theorem upd_ne_of {o u : HO} {b : Addr} (h : H b = some u) (ho : ∀ z, H p = some z → z ≠ u) (hp : ∃ z, H p = some z) : upd H p o b = some u := by
  obtain ⟨z, hz⟩ := hp
  rw [upd_ne (show b ≠ p from fun e => by subst e; rw [hz] at h; exact ho z hz (Option.some.inj h))]
  exact h
mutual
theorem Rp.inF {xs ys : List V} (hp : H p = some (.lst xs)) (hF : p ∈ F) : ∀ {v : V} {d : D}, Rp K mu F H v d → Rp K mu F (upd H p (.lst ys)) v d
  | _, _, .non => .non
  | _, _, .bl b => .bl b
  | _, _, .int i => .int i
  | _, _, .str s => .str s
  | _, _, .tup h r => .tup (h.elim (fun h => .inl (h.elim (fun h => .inl (upd_ne_of h (fun z hz e => by rw [hp] at hz; cases hz; cases e) ⟨_, hp⟩)) fun ⟨o, h⟩ => .inr ⟨o, upd_ne_of h (fun z hz e => by rw [hp] at hz; cases hz; cases e) ⟨_, hp⟩⟩)) .inr) (Rps.inF hp hF r)
  | _, _, .lst h r => .lst ⟨by rw [upd_ne (show _ ≠ p from fun e => h.2.2 (by rw [e]; exact hF))]; exact h.1, h.2.1, h.2.2⟩ (Rps.inF hp hF r)
  | _, _, .ref h => .ref h
  | _, _, .scr h r => .scr (h.elim (fun ⟨o, h⟩ => .inl ⟨o, upd_ne_of h (fun z hz e => by rw [hp] at hz; cases hz; cases e) ⟨_, hp⟩⟩) .inr) (Rps.inF hp hF r)
theorem Rps.inF {xs ys : List V} (hp : H p = some (.lst xs)) (hF : p ∈ F) : ∀ {vs : List V} {ds : List D}, Rps K mu F H vs ds → Rps K mu F (upd H p (.lst ys)) vs ds
  | _, _, .nil => .nil
  | _, _, .cons r t => .cons (Rp.inF hp hF r) (Rps.inF hp hF t)
end
theorem Gd.inF {xs ys : List V} (hp : H p = some (.lst xs)) (hF : p ∈ F) (g : Gd K mu F H S) : Gd K mu F (upd H p (.lst ys)) S := by
  have hm : ∀ b, b ∈ mu → b ≠ p := fun b hb e => g.live.out b hb (by rw [e]; exact hF)
  refine ⟨⟨g.live.nd, fun b hb => ?_, g.live.out, fun b hb => ?_⟩, g.len, fun n c b h1 h2 => ?_⟩
  · rw [upd_ne (hm b hb)]; exact g.live.mt b hb
  · by_cases e : b = p
    · subst e; rw [upd_same]; exact Option.some_ne_none _
    · rw [upd_ne e]; exact g.live.frn b hb
  · have := g.cell n c b h1 h2
    cases c with
    | lst ds => obtain ⟨vs, e, r⟩ := this; exact ⟨vs, by rw [upd_ne (hm b (List.mem_of_getElem? h2))]; exact e, r.inF hp hF⟩
    | obj _ _ => exact this.elim
mutual
theorem Rp.thaw : ∀ {v : V} {d : D}, Rp K mu (p :: F) H v d → Rp K (mu ++ [p]) F H v d
  | _, _, .non => .non
  | _, _, .bl b => .bl b
  | _, _, .int i => .int i
  | _, _, .str s => .str s
  | _, _, .tup h r => .tup h (Rps.thaw r)
  | _, _, .lst h r => .lst ⟨h.1, fun hm => (List.mem_append.mp hm).elim h.2.1 fun z => h.2.2 (by rw [List.mem_singleton] at z; rw [z]; exact List.mem_cons_self), fun hf => h.2.2 (List.mem_cons_of_mem _ hf)⟩ (Rps.thaw r)
  | _, _, .ref h => .ref (by rw [List.getElem?_append_left (List.getElem?_eq_some_iff.mp h).1]; exact h)
  | _, _, .scr h r => .scr h (Rps.thaw r)
theorem Rps.thaw : ∀ {vs : List V} {ds : List D}, Rps K mu (p :: F) H vs ds → Rps K (mu ++ [p]) F H vs ds
  | _, _, .nil => .nil
  | _, _, .cons r t => .cons (Rp.thaw r) (Rps.thaw t)
end
theorem Gd.thaw {vs : List V} {ds : List D} (hp : H p = some (.lst vs)) (hF : p ∉ F) (r : Rps K mu (p :: F) H vs ds) (g : Gd K mu (p :: F) H S) : Gd K (mu ++ [p]) F H (S ++ [.lst ds]) := by
  have hpm : p ∉ mu := fun h => g.live.out p h List.mem_cons_self
  refine ⟨⟨?_, fun b hb => ?_, fun b hb => ?_, fun b hb => g.live.frn b (List.mem_cons_of_mem _ hb)⟩, by simp [g.len], fun n c b h1 h2 => ?_⟩
  · rw [List.nodup_append]
    refine ⟨g.live.nd, by simp, fun b hb c hc e => ?_⟩
    simp at hc
    subst hc e
    exact hpm hb
  · rcases List.mem_append.mp hb with hb | hb
    · exact g.live.mt b hb
    · simp at hb; subst hb; rw [hp]; trivial
  · rcases List.mem_append.mp hb with hb | hb
    · exact fun hf => g.live.out b hb (List.mem_cons_of_mem _ hf)
    · simp at hb; subst hb; exact hF
  · by_cases hn : n < S.length
    · rw [List.getElem?_append_left hn] at h1
      rw [List.getElem?_append_left (by rw [g.len]; exact hn)] at h2
      have := g.cell n c b h1 h2
      cases c with
      | lst ds => obtain ⟨vs, e, r⟩ := this; exact ⟨vs, e, r.thaw⟩
      | obj _ _ => exact this.elim
    · rw [List.getElem?_append_right (by omega)] at h1
      rw [List.getElem?_append_right (by rw [g.len]; omega), g.len] at h2
      have hz : n - S.length = 0 := by
        by_cases h0 : n - S.length = 0
        · exact h0
        · rw [List.getElem?_eq_none (by simp; omega)] at h1; cases h1
      rw [hz] at h1 h2
      simp at h1 h2
      subst h1 h2
      exact ⟨vs, hp, r.thaw⟩
/-- what mkL asks of a list that stands already -/
theorem mkL_fin {m : Bool} {vs : List V} {ds : List D} {Q : VK} {H0 : Hp} {mu0 : List Addr} (g : Gd K mu (p :: F) H S) (hp : H p = some (.lst vs)) (r : Rps K mu (p :: F) H vs ds) (e : Xt mu0 H0 mu H) (h0 : H0 p = none) (hF : p ∉ F)
    (h : WP (mkL m ds S) (Po K mu0 F H0 Q)) : Q (.ref p) H := by
  unfold mkL at h
  rw [lsK_eq] at h
  have hpm : p ∉ mu := fun h => g.live.out p h List.mem_cons_self
  have sub : ∀ b, b ∈ F → b ∈ p :: F := fun b hb => List.mem_cons_of_mem _ hb
  cases m with
  | false =>
    have h : Po K mu0 F H0 Q (.lst ds) S := h
    exact h _ _ mu e (g.fewer sub) (.lst ⟨hp, hpm, hF⟩ (r.fewer sub))
  | true =>
    have h : WP (alloc (.lst ds) S) (Po K mu0 F H0 Q) := h
    unfold alloc at h
    rw [natK_eq, lsK_eq] at h
    have h : Po K mu0 F H0 Q (.ref S.length) (S ++ [.lst ds]) := h
    refine h _ _ (mu ++ [p]) ?_ (g.thaw hp hF r) (.ref (by rw [← g.len]; simp))
    obtain ⟨l, rfl, hl⟩ := e.pre
    exact ⟨⟨l ++ [p], by simp, fun b hb => by
      rcases List.mem_append.mp hb with hb | hb
      · exact hl b hb
      · simp at hb; subst hb; exact h0⟩, e.keep⟩
end

/-! ### names -/
section
variable {X : Cx} {pos : Pos}
theorem pE_var {i : Nat} {x : Str} (hN : X.N[i]? = some x) (hv : Vis X.env.scope x) (hd : (x == ("__debug__" : Str)) = false) (hcd : (x == ("__classdict__" : Str)) = false) : PE X (.Name x pos) (tE X.K (getV i)) :=
  Ev.PE.imp (pe_var hN hv hd hcd) fun σ H Q ⟨env, mu, F, S, he, hg, hw⟩ => by
    unfold getV at hw
    rw [nth_eq] at hw
    split at hw
    · rename_i d hd
      obtain ⟨v, h1, h2⟩ := he.2 i d hd
      have hw : Po X.K mu F H Q d S := hw
      exact ⟨v, h1, hw v H mu (Xt.refl _ _) hg h2⟩
    · exact hw.elim
theorem tE_ret {K : PySem.W.Frag} {d : D} {σ : L2.St} {H : Hp} {Q : VK} {v : V} (r : ∀ mu F, Rp K mu F H v d) (h : tE K (kRet d) σ H Q) : Q v H := by
  obtain ⟨env, mu, F, S, he, hg, hw⟩ := h
  have hw : Po K mu F H Q d S := hw
  exact hw v H mu (Xt.refl _ _) hg (r mu F)
theorem pE_int {i : Int} {j} : PE X (.Constant (.int i) j pos) (tE X.K (kRet (.int i))) := Ev.PE.imp pe_int fun σ H Q h => tE_ret (fun _ _ => .int i) h
theorem pE_bl {i : Bool} {j} : PE X (.Constant (.bool i) j pos) (tE X.K (kRet (.bl i))) := Ev.PE.imp pe_bl fun σ H Q h => tE_ret (fun _ _ => .bl i) h
theorem pE_non {j} : PE X (.Constant .none j pos) (tE X.K (kRet .non)) := Ev.PE.imp pe_non fun σ H Q h => tE_ret (fun _ _ => .non) h
theorem pE_str {x : Str} {j} : PE X (.Constant (.str x) j pos) (tE X.K (kRet (.str x))) := Ev.PE.imp pe_str fun σ H Q h => tE_ret (fun _ _ => .str x) h
/-- a module's value -/
theorem pE_glob {x : Str} {o : Option D} {v : V} {u : Value} (hg : Gl X x) (hm : X.mg x = some u) (r : RelV v u) (hr : ∀ d, o = some d → ∀ mu F H, Rp X.K mu F H v d) (hd : (x == ("__debug__" : Str)) = false) : PE X (.Name x pos) (tE X.K (kOpt o)) :=
  Ev.PE.imp (pe_glob hg hm r hd) fun σ H Q ⟨env, mu, F, S, he, hg, hw⟩ => by
    obtain ⟨d, e, q⟩ := WP.opt.mp hw
    exact q v H mu (Xt.refl _ _) hg (hr d e mu F H)

/-! ### targets of names -/
mutual
def Tn.names : Tn → List Nat
  | .nm i => [i]
  | .tp ts => Tn.namess ts
def Tn.namess : List Tn → List Nat
  | [] => []
  | t :: ts => Tn.names t ++ Tn.namess ts
end
/-- only the slots of l may differ -/
def Only (l : List Nat) (σ σ' : L2.St) : Prop := σ'.length = σ.length ∧ ∀ j, j ∉ l → σ'[j]? = σ[j]?
theorem Only.trans {l l' : List Nat} {σ σ' σ'' : L2.St} (h : Only l σ σ') (h' : Only l' σ' σ'') : Only (l ++ l') σ σ'' :=
  ⟨h'.1.trans h.1, fun j hj => (h'.2 j fun z => hj (List.mem_append_right _ z)).trans (h.2 j fun z => hj (List.mem_append_left _ z))⟩
theorem wipe_get {σ : L2.St} {j : Nat} : ∀ {vs : List Nat}, j ∈ vs → (wipe σ vs)[j]? = (if j < σ.length then some none else none)
  | v :: vs, h => by
    unfold wipe
    by_cases e : v = j
    · subst e
      by_cases hl : v < σ.length
      · rw [if_pos hl, List.getElem?_set_self (by rw [wipe_length]; exact hl)]
      · rw [if_neg hl, List.getElem?_eq_none (by rw [List.length_set, wipe_length]; omega)]
    · rw [List.getElem?_set_ne e]
      exact wipe_get ((List.mem_cons.mp h).resolve_left fun z => e z.symm)
theorem wipe_out {σ : L2.St} {j : Nat} : ∀ {vs : List Nat}, j ∉ vs → (wipe σ vs)[j]? = σ[j]?
  | [], _ => rfl
  | v :: vs, h => by
    unfold wipe
    rw [List.getElem?_set_ne (fun e => h (by rw [e]; exact List.mem_cons_self))]
    exact wipe_out fun z => h (List.mem_cons_of_mem _ z)
theorem wipe_only {l vs : List Nat} {σ σ' : L2.St} (h : Only l σ σ') (hl : ∀ i, i ∈ l → i ∈ vs) : wipe σ' vs = wipe σ vs := by
  refine List.ext_getElem? fun j => ?_
  by_cases hj : j ∈ vs
  · rw [wipe_get hj, wipe_get hj, h.1]
  · rw [wipe_out hj, wipe_out hj]
    exact h.2 j fun z => hj (hl j z)
def tG (K : PySem.W.Frag) (t : Tn) : TG := fun v σ H Q => ∃ env mu F S d env', EnvR K mu F H σ env ∧ Gd K mu F H S ∧ Rp K mu F H v d ∧ asgT t d env = some env' ∧ ∀ σ', EnvR K mu F H σ' env' → Only t.names σ σ' → Q σ' H
def tGs (K : PySem.W.Frag) (ts : List Tn) : TGs := fun vs σ H Q => ∃ env mu F S ds env', EnvR K mu F H σ env ∧ Gd K mu F H S ∧ Rps K mu F H vs ds ∧ asgTs ts ds env = some env' ∧ ∀ σ', EnvR K mu F H σ' env' → Only (Tn.namess ts) σ σ' → Q σ' H
theorem PG.imp {e : Expr} {t t' : TG} (h : PG X e t) (hi : ∀ v σ H Q, t' v σ H Q → t v σ H Q) : PG X e t' := ⟨fun pins s σ H v u Q I r q => h.run pins s σ H v u Q I r (hi v σ H Q q)⟩
theorem PGs.imp {e : List Expr} {t t' : TGs} (h : PGs X e t) (hi : ∀ v σ H Q, t' v σ H Q → t v σ H Q) : PGs X e t' := ⟨fun pins s σ H v u Q I r q => h.run pins s σ H v u Q I r (hi v σ H Q q)⟩
theorem pG_nm {i : Nat} {x : Str} (hN : X.N.Nodup) (hi : X.N[i]? = some x) (hx : Loc X.env.scope x) (hf : X.fn x = true ∨ X.env.scope.names.lookup x = some .local) : PG X (.Name x pos) (tG X.K (.nm i)) :=
  Ev.PG.imp (pg_name hN hi hx hf) fun v σ H Q ⟨env, mu, F, S, d, env', he, hg, r, e, q⟩ => by
    have e : lsK (env.set i (some d)) some = some env' := e
    rw [lsK_eq] at e
    cases e
    exact q _ (he.set r) ⟨by simp, fun j hj => by rw [List.getElem?_set_ne]; intro z; apply hj; rw [← z]; exact List.mem_singleton.mpr rfl⟩
theorem pGs_nil : PGs X [] (tGs X.K []) := Ev.PGs.imp pgs_nil fun v σ H Q ⟨env, mu, F, S, ds, env', he, hg, r, e, q⟩ => by
  cases r with
  | nil => cases e; exact ⟨rfl, q σ he ⟨rfl, fun _ _ => rfl⟩⟩
  | cons _ _ => cases e
theorem pGs_cons {e : Expr} {es : List Expr} {t : Tn} {ts : List Tn} (h1 : PG X e (tG X.K t)) (h2 : PGs X es (tGs X.K ts))
    (hs : (assignEach (e :: es) X.env).map (·.2) = assign e X.env :: (assignEach es X.env).map (·.2)) : PGs X (e :: es) (tGs X.K (t :: ts)) := Ev.PGs.imp (pgs_cons h1 h2 hs) fun v σ H Q ⟨env, mu, F, S, ds, env', he, hg, r, e, q⟩ => by
  cases r with
  | nil => cases e
  | @cons v vs d ds r rr =>
    cases e1 : asgT t d env with
    | none => unfold asgTs at e; rw [e1] at e; cases e
    | some env1 =>
      unfold asgTs at e; rw [e1] at e
      refine ⟨v, vs, rfl, env, mu, F, S, d, env1, he, hg, r, e1, fun σ1 he1 o1 => ?_⟩
      exact ⟨env1, mu, F, S, ds, env', he1, hg, rr, e, fun σ2 he2 o2 => q σ2 he2 (o1.trans o2)⟩
theorem asgTs_len : ∀ {ts : List Tn} {ds : List D} {env env' : Env}, asgTs ts ds env = some env' → ds.length = ts.length
  | [], [], _, _, _ => rfl
  | [], _ :: _, _, _, h => by simp [asgTs] at h
  | _ :: _, [], _, _, h => by simp [asgTs] at h
  | t :: ts, d :: ds, env, env', h => by
    cases e1 : asgT t d env with
    | none => unfold asgTs at h; rw [e1] at h; cases h
    | some env1 =>
      unfold asgTs at h; rw [e1] at h
      simp [asgTs_len (ts := ts) (ds := ds) h]
theorem pG_tp {es : List Expr} {k : Nat} {ts : List Tn} (hc : X.calm = true) (h : PGs X es (tGs X.K ts)) (hn : (assignEach es X.env).length = ts.length) (hst : (assignEach es X.env).findIdx? (·.1) = none) : PG X (.Tuple es k pos) (tG X.K (.tp ts)) :=
  Ev.PG.imp (pg_tup hc h hn hst) fun v σ H Q ⟨env, mu, F, S, d, env', he, hg, r, e, q⟩ => by
    cases r with
    | @tup a vs ds hq rr =>
      have e : asgTs ts ds env = some env' := e
      exact ⟨a, vs, rfl, hq, by rw [rr.length, asgTs_len e], env, mu, F, S, ds, env', he, hg, rr, e, q⟩
    | _ => cases e
end

/-! ### comprehensions -/
section
variable {X : Cx} {pos : Pos} {rs : EM (List D)} {ri re : EM D}
theorem pTs_nil : PTs X [] (tT X.K (kRet (.bl true))) := ⟨fun pins s σ H Q I ⟨env, mu, F, S, he, hg, hw⟩ => pts_nil.run pins s σ H Q I (by
  obtain ⟨b, e, q⟩ := hw
  cases e
  exact q H mu (Xt.refl _ _) hg)⟩
theorem pTs_one {c : Expr} (h : PT X c (tT X.K ri)) : PTs X [c] (tT X.K ri) := pts_one h
theorem lim_eq : LIM = sizeLine := rfl
theorem comp_wp {m : Bool} {own : List Nat} {t : Tn} {k : SK} {σ : L2.St} {H : Hp} {Q : VK} (ht : ∀ i, i ∈ t.names → i ∈ own) (h : tE X.K (kComp m own t k rs ri re) σ H Q) : tLc (tSrc X.K k rs) (tG X.K t) (tT X.K ri) (tE X.K re) own σ H Q := by
  obtain ⟨env, mu, F, S, he, hg, hw⟩ := h
  refine ⟨env, mu, F, S, he, hg, (WP.bnd.mp hw).mono fun ds S1 h1 => ?_⟩
  cases e0 : srcOf k ds S1 with
  | none => simp only [e0] at h1; exact h1.elim
  | some r =>
  obtain ⟨xs, dp⟩ := r
  simp only [e0] at h1
  obtain ⟨hlen, h1⟩ := WP.guard.mp h1
  have hlen : xs.length ≤ LIM := by rw [Nat.ble_eq] at hlen; exact hlen
  have h1 := WP.bnd.mp h1
  refine ⟨xs, dp, rfl, fun J H1 mu1 e1 g1 gv p hp => ?_⟩
  have he1 := he.mono hg.live e1
  have hpF : p ∉ F := fun h => g1.live.frn p h hp
  have fx : Fx F (p :: F) H1 := fun b hb => (List.mem_cons.mp hb).elim (fun z => .inr (by rw [z]; exact hp)) .inl
  have h0 : H p = none := by
    cases q : H p with
    | none => rfl
    | some o =>
      by_cases hm : p ∈ mu
      · obtain ⟨o', e'⟩ := g1.live.ex (e1.sub hm)
        rw [hp] at e'; cases e'
      · rw [e1.keep p o q hm] at hp; cases hp
  let W : Nat → Nat → Hp → Prop := fun i n H' => n = xs.length - i ∧ i ≤ xs.length ∧ ∃ mu' S' acc accD, Xt mu1 H1 mu' H' ∧ Gd X.K mu' (p :: F) H' S' ∧ H' p = some (.lst acc) ∧ Rps X.K mu' (p :: F) H' acc accD ∧ accD.length ≤ i ∧
    WP (compL dp (turn t ri re (wipeD env own)) (xs.drop i) accD S') fun ys S'' => WP (mkL m ys S'') (Po X.K mu F H Q)
  refine ⟨W, ⟨xs.length, by simp, Nat.zero_le _, mu1, S1, [], [], Xt.new hp, ?_, upd_same, .nil, Nat.le_refl _, by simpa using h1⟩, ?_⟩
  · have g2 := g1.new (o := .lst []) hp
    refine ⟨⟨g2.live.nd, g2.live.mt, fun b hb hf => ?_, fun b hb => ?_⟩, g2.len, fun n c b h1 h2 => ?_⟩
    · rcases List.mem_cons.mp hf with z | z
      · exact g1.live.notin hp (by rw [← z]; exact hb)
      · exact g1.live.out b hb z
    · rcases List.mem_cons.mp hb with z | z
      · rw [z, upd_same]; exact Option.some_ne_none _
      · exact g2.live.frn b z
    · have q := g1.cell n c b h1 h2
      cases c with
      | lst ds =>
        obtain ⟨vs, e, r⟩ := q
        exact ⟨vs, by rw [upd_ne (ne_of_none e hp)]; exact e, r.far g1.live fx (Xt.new hp)⟩
      | obj _ _ => exact q.elim
  · rintro i n H' ⟨hn, hi, mu', S', acc, accD, e2, g2, hp2, ra, hla, h2⟩
    by_cases hlt : i < xs.length
    · refine .inr ?_
      have hxs : xs.drop i = xs[i] :: xs.drop (i + 1) := List.drop_eq_getElem_cons hlt
      rw [hxs] at h2
      unfold compL at h2
      by_cases hd : depOk dp S' = true
      · rw [if_pos hd] at h2
        refine ⟨gv.go mu' (p :: F) H' S' e2 fx g2 hd i hlt, fun H'' => W (i + 1) (xs.length - (i + 1)) H'', fun H'' w => ⟨_, by omega, w⟩, fun v H3 hy => ?_⟩
        obtain ⟨e3, g3, rv⟩ := gv.yld mu' (p :: F) H' S' e2 fx g2 hd i xs[i] v H3 (by simp [hlt]) hy
        have e13 := e2.trans g2.live e3
        have he3 : EnvR X.K mu' (p :: F) H3 (wipe σ own) (wipeD env own) := (he1.far g1.live fx e13).wipe own
        have hp3 : H3 p = some (.lst acc) := e3.keep p _ hp2 (fun z => g2.live.out p z List.mem_cons_self)
        unfold turn at h2
        cases e4 : asgT t xs[i] (wipeD env own) with
        | none => simp only [e4] at h2; exact h2.elim
        | some env' =>
          simp only [e4] at h2
          refine ⟨wipeD env own, mu', p :: F, S', xs[i], env', he3, g3, rv, e4, fun σ' he' ho => ⟨?_, ?_⟩⟩
          · rw [wipe_only ho ht]
            exact wipe_only ⟨wipe_length σ own, fun j hj => wipe_out hj⟩ fun i hi => hi
          · refine ⟨env', mu', p :: F, S', he', g3, ?_⟩
            unfold Ev.bnd at h2
            cases e5 : ri env' S' with
            | no => simp only [e5] at h2; exact h2.elim
            | exc _ _ _ => simp only [e5] at h2; exact h2.elim
            | ok b S2 =>
              simp only [e5] at h2
              split at h2
              · rename_i z hz
                split at hz
                · refine ⟨true, rfl, fun H4 mu4 e6 g4 => ?_⟩
                  dsimp only
                  rw [if_pos rfl]
                  refine ⟨env', mu4, p :: F, S2, he'.mono g3.live e6, g4, ?_⟩
                  unfold Ev.ret at hz
                  cases e7 : re env' S2 with
                  | no => simp only [e7] at hz; cases hz
                  | exc _ _ _ => simp only [e7] at hz; cases hz
                  | ok y S3 =>
                    simp only [e7] at hz
                    cases hz
                    intro vy H5 mu5 e8 g5 r5
                    have e48 := e6.trans g4.live e8
                    have hp5 : H5 p = some (.lst acc) := e48.keep p _ hp3 (fun z => g2.live.out p z List.mem_cons_self)
                    have ra5 : Rps X.K mu5 (p :: F) H5 acc accD := (ra.mono g2.live e3).mono g3.live e48
                    have e15 := e13.trans g3.live e48
                    refine ⟨acc, hp5, by rw [ra.length]; rw [lim_eq] at hlen; omega, rfl, hlt, mu5, _, acc ++ [vy], _, ?_, g5.inF hp5 List.mem_cons_self, upd_same, (ra5.append (.cons r5 .nil)).inF hp5 List.mem_cons_self, by simp; omega, h2⟩
                    exact ⟨e15.pre, fun b o hb hm => by rw [upd_ne (ne_of_none hb hp)]; exact e15.keep b o hb hm⟩
                · cases hz
                · cases hz
              · rename_i z hz
                split at hz
                · unfold Ev.ret at hz
                  split at hz <;> cases hz
                · cases hz
                  refine ⟨false, rfl, fun H4 mu4 e6 g4 => ?_⟩
                  dsimp only
                  rw [if_neg Bool.false_ne_true]
                  exact ⟨rfl, hlt, mu4, _, acc, accD, e13.trans g3.live e6, g4, e6.keep p _ hp3 (fun z => g2.live.out p z List.mem_cons_self), (ra.mono g2.live e3).mono g3.live e6, by omega, h2⟩
                · cases hz
              · exact h2.elim
              · exact h2.elim
      · rw [if_neg hd] at h2; exact h2.elim
    · have hi : i = xs.length := by omega
      subst hi
      rw [List.drop_length] at h2
      unfold compL at h2
      by_cases hd : depOk dp S' = true
      · rw [if_pos hd] at h2
        have h2 : WP (mkL m accD S') (Po X.K mu F H Q) := h2
        exact .inl ⟨gv.stop mu' (p :: F) H' S' e2 fx g2 hd, mkL_fin g2 hp2 ra (e1.trans g1.live e2) h0 hpF h2⟩
      · rw [if_neg hd] at h2; exact h2.elim
end
end Ev
/-! Ev: statements -/
namespace Ev
open PySem PySem.Spec
open PyProof.Rows L2

/-- what is wanted behind statements -/
def endS (K : PySem.W.Frag) (mu F : List Addr) (H : Hp) (D : Ends) : Fl → Store → Prop := fun f S' => match f with
  | .nx env' => ∀ σ' H' mu', Xt mu H mu' H' → Gd K mu' F H' S' → EnvR K mu' F H' σ' env' → D.nx σ' H'
  | .bk env' => ∀ σ' H' mu', Xt mu H mu' H' → Gd K mu' F H' S' → EnvR K mu' F H' σ' env' → D.bk σ' H'
  | .ct env' => ∀ σ' H' mu', Xt mu H mu' H' → Gd K mu' F H' S' → EnvR K mu' F H' σ' env' → D.ct σ' H'
  | .rt d => ∀ v H' mu', Xt mu H mu' H' → Gd K mu' F H' S' → Rp K mu' F H' v d → D.rt v H'
def tS (K : PySem.W.Frag) (ev : EM Fl) : TS := fun D σ H => ∃ env mu F S, EnvR K mu F H σ env ∧ Gd K mu F H S ∧ WP (ev env S) (endS K mu F H D)
section
variable {K : PySem.W.Frag} {F : List Addr}
theorem cl_endS {D : Ends} : Cl F fun mu H => endS K mu F H D := fun mu H mu1 H1 a S e L h => by
  cases a with
  | nx env => exact fun σ' H' mu' e' g r => h σ' H' mu' (e.trans L e') g r
  | bk env => exact fun σ' H' mu' e' g r => h σ' H' mu' (e.trans L e') g r
  | ct env => exact fun σ' H' mu' e' g r => h σ' H' mu' (e.trans L e') g r
  | rt d => exact fun v H' mu' e' g r => h v H' mu' (e.trans L e') g r
/-- what is wanted behind a target -/
def endG (K : PySem.W.Frag) (mu F : List Addr) (H : Hp) (Q : L2.St → Hp → Prop) : Env → Store → Prop := fun env' S' => ∀ σ' H' mu', Xt mu H mu' H' → Gd K mu' F H' S' → EnvR K mu' F H' σ' env' → Q σ' H'
theorem cl_endG {Q : L2.St → Hp → Prop} : Cl F fun mu H => endG K mu F H Q := fun mu H mu1 H1 a S e L h σ' H' mu' e' g r => h σ' H' mu' (e.trans L e') g r
end
def tGg (K : PySem.W.Frag) (gg : D → EM Env) : TG := fun v σ H Q => ∃ env mu F S d, EnvR K mu F H σ env ∧ Gd K mu F H S ∧ Rp K mu F H v d ∧ WP (gg d env S) (endG K mu F H Q)
def tGgs (K : PySem.W.Frag) (gg : List D → EM Env) : TGs := fun vs σ H Q => ∃ env mu F S ds, EnvR K mu F H σ env ∧ Gd K mu F H S ∧ Rps K mu F H vs ds ∧ WP (gg ds env S) (endG K mu F H Q)

section
variable {X : Cx} {pos : Pos}
theorem setIx_rd {x y d : D} {S : Store} {P : Unit → Store → Prop} (h : WP (setIx x y d S) P) : ∃ n k xs j, x = .ref n ∧ y = .int k ∧ S[n]? = some (.lst xs) ∧ ixI xs.length k = some j ∧ P () (S.set n (.lst (xs.set j d))) := by
  unfold setIx at h
  split at h
  · rename_i n k
    cases e : S[n]? with
    | none => simp only [e] at h; exact h.elim
    | some c => cases c with
      | obj _ _ => simp only [e] at h; exact h.elim
      | lst xs =>
        simp only [e] at h
        cases e2 : ixI xs.length k with
        | none => simp only [e2] at h; exact h.elim
        | some j =>
          simp only [e2, lsK_eq] at h
          exact ⟨n, k, xs, j, rfl, rfl, by first | exact e | rfl, e2, h⟩
  · exact h.elim
theorem pGg_nm {i : Nat} {x : Str} (hN : X.N.Nodup) (hi : X.N[i]? = some x) (hx : Loc X.env.scope x) (hf : X.fn x = true ∨ X.env.scope.names.lookup x = some .local) : PG X (.Name x pos) (tGg X.K (gNm i)) :=
  Ev.PG.imp (pg_name hN hi hx hf) fun v σ H Q ⟨env, mu, F, S, d, he, hg, r, hw⟩ => by
    unfold gNm at hw
    rw [lsK_eq] at hw
    have hw : endG X.K mu F H Q (env.set i (some d)) S := hw
    exact hw _ H mu (Xt.refl _ _) hg (he.set r)
theorem set_step {K : PySem.W.Frag} {mu F : List Addr} {H : Hp} {S : Store} {v w u : V} {x y d : D} {Q : Hp → Prop} {P : Unit → Store → Prop} (g : Gd K mu F H S) (rx : Rp K mu F H v x) (ry : Rp K mu F H w y) (rd : Rp K mu F H u d)
    (h : WP (setIx x y d S) P) (hQ : ∀ S' H', P () S' → Xt mu H mu H' → Gd K mu F H' S' → Q H') : rSetL v w u H Q := by
  obtain ⟨n, k, xs, j, rfl, rfl, e, e2, p⟩ := setIx_rd h
  cases rx with
  | @ref n a hn =>
  cases ry
  obtain ⟨vs, h1, h2⟩ := g.ref hn e
  refine ⟨a, vs, k, j, rfl, rfl, h1, by rw [h2.length, ← ixI_eq]; exact e2, ?_⟩
  exact hQ _ _ p (Xt.put (List.mem_of_getElem? hn)) (g.put (ds0 := xs) hn (h2.set rd j))
theorem pGg_ix {o i : Expr} {ro ri : EM D} (ho : PE X o (tE X.K ro)) (hi : PE X i (tE X.K ri))
    (ha : ∀ v, assign (.Subscript o i pos) X.env v = (do
      let ov ← holding [v] (eval o X.env)
      let iv ← holding [v, ov] (eval i X.env)
      standAt pos
      holding [v, ov, iv] (setItem ov iv v)
      release [v, ov, iv] [])) : PG X (.Subscript o i pos) (tGg X.K (gIx ro ri)) :=
  Ev.PG.imp (pg_sub ho hi set_list ha) fun v σ H Q ⟨env, mu, F, S, d, he, hg, r, hw⟩ => by
    refine run1 cl_endG he hg hw fun v1 H1 mu1 S1 x he1 hg1 r1 e1 hw1 => run1 cl_endG he1 hg1 hw1 fun v2 H2 mu2 S2 y he2 hg2 r2 e2 hw2 => ?_
    refine set_step hg2 (r1.mono hg1.live e2) r2 ((r.mono hg.live e1).mono hg1.live e2) (WP.bnd.mp hw2) fun S' H' p e3 g3 => ?_
    have p : endG X.K mu2 F H2 Q env S' := p
    exact p _ _ _ e3 g3 (he2.mono hg2.live e3)
theorem pGgs_nil : PGs X [] (tGgs X.K Ev.gNil) := Ev.PGs.imp pgs_nil fun v σ H Q ⟨env, mu, F, S, ds, he, hg, r, hw⟩ => by
  cases r with
  | nil =>
    have hw : endG X.K mu F H Q env S := hw
    exact ⟨rfl, hw σ H mu (Xt.refl _ _) hg he⟩
  | cons _ _ => exact hw.elim
theorem pGgs_cons {e : Expr} {es : List Expr} {gg : D → EM Env} {gs : List D → EM Env} (h1 : PG X e (tGg X.K gg)) (h2 : PGs X es (tGgs X.K gs))
    (hs : (assignEach (e :: es) X.env).map (·.2) = assign e X.env :: (assignEach es X.env).map (·.2)) : PGs X (e :: es) (tGgs X.K (Ev.gCons gg gs)) := Ev.PGs.imp (pgs_cons h1 h2 hs) fun v σ H Q ⟨env, mu, F, S, ds, he, hg, r, hw⟩ => by
  cases r with
  | nil => exact hw.elim
  | @cons v vs d ds r rr =>
    refine ⟨v, vs, rfl, env, mu, F, S, d, he, hg, r, (WP.bnd.mp hw).mono fun env1 S1 h σ1 H1 mu1 e1 g1 he1 => ?_⟩
    exact ⟨env1, mu1, F, S1, ds, he1, g1, rr.mono hg.live e1, h.mono fun env2 S2 q => cl_endG (K := X.K) (F := F) mu H mu1 H1 env2 S2 e1 g1.live q⟩
theorem pGg_tp {es : List Expr} {k : Nat} {gs : List D → EM Env} {n : Nat} (hc : X.calm = true) (h : PGs X es (tGgs X.K gs)) (hl : ∀ ds env S P, WP (gs ds env S) P → ds.length = n) (hn : (assignEach es X.env).length = n) (hst : (assignEach es X.env).findIdx? (·.1) = none) :
    PG X (.Tuple es k pos) (tGg X.K (gTp gs)) :=
  Ev.PG.imp (pg_tup hc h hn hst) fun v σ H Q ⟨env, mu, F, S, d, he, hg, r, hw⟩ => by
    cases r with
    | @tup a vs ds hq rr =>
      have hw : WP (gs ds env S) (endG X.K mu F H Q) := hw
      exact ⟨a, vs, rfl, hq, by rw [rr.length]; exact hl ds env S _ hw, env, mu, F, S, ds, he, hg, rr, hw⟩
    | _ => exact hw.elim
theorem asgGs_len {C : Ctx} : ∀ {ts : List Tg} {ds : List D} {env : Env} {S : Store} {P : Env → Store → Prop}, WP (asgGs C ts ds env S) P → ds.length = ts.length
  | [], [], _, _, _, _ => rfl
  | [], _ :: _, _, _, _, h => h.elim
  | _ :: _, [], _, _, _, h => h.elim
  | t :: ts, d :: ds, env, S, P, h => by
    have h := WP.bnd.mp (show WP (bnd (asgG C t d env) (fun e => asgGs C ts ds e) S) P from h)
    obtain ⟨e, S1, _, h⟩ := h.get
    simp [asgGs_len (ts := ts) (ds := ds) h]

/-! ### statements, one by one -/
variable {re rc ro ri : EM D} {rs : EM (List D)} {gg : D → EM Env} {e : Expr} {st : Stmt} {rest body b2 : List Stmt} {rb rb2 r1 : EM Fl}
theorem asg_rd {D : Ends} {σ : L2.St} {H : Hp} (h : tS X.K (sAsg re gg) D σ H) : tAsg (tE X.K re) (tGg X.K gg) D σ H := by
  obtain ⟨env, mu, F, S, he, hg, hw⟩ := h
  refine run1 cl_endS he hg hw fun v1 H1 mu1 S1 x he1 hg1 r1 e1 hw1 => ?_
  exact ⟨env, mu1, F, S1, x, he1, hg1, r1, (WP.bnd.mp hw1).mono fun env' S' q => q⟩
theorem pS_asg {tg : Expr} (he : PE X e (tE X.K re)) (hg : PG X tg (tGg X.K gg)) (hs : swapsWithSole [tg] e pos.line X.env = pure false) (hw : swappedStores [tg] e X.env = pure none)
    (h1 : (assignEach [tg] X.env).map (·.2) = [assign tg X.env]) : PS X (.Assign [tg] e pos) (tS X.K (sAsg re gg)) := Ev.PS.imp (ps_asg he hg hs hw h1) fun D σ H h => asg_rd h
theorem par2_rd {i j : Nat} {D : Ends} {σ : L2.St} {H : Hp} (h : tS X.K (sPar [i, j] rs) D σ H) : tPar i j (tA X.K rs) D σ H := by
  obtain ⟨env, mu, F, S, he, hg, hw⟩ := h
  refine runL cl_endS he hg hw fun vs H1 mu1 S1 ds he1 hg1 r1 e1 hw1 => ?_
  cases r1 with
  | nil => exact hw1.elim
  | @cons v vs d ds r r1 => cases r1 with
    | nil => simp only [parE, lsK_eq] at hw1; exact hw1.elim
    | @cons v2 vs d2 ds r2 r1 => cases r1 with
      | cons _ _ => simp only [parE, lsK_eq] at hw1; exact hw1.elim
      | nil =>
        simp only [parE, lsK_eq] at hw1
        have hw1 : endS X.K mu1 F H1 D (.nx ((env.set i (some d)).set j (some d2))) S1 := hw1
        exact ⟨v, v2, rfl, hw1 _ _ _ (Xt.refl _ _) hg1 ((he1.set r).set r2)⟩
theorem par3_rd {i j l : Nat} {D : Ends} {σ : L2.St} {H : Hp} (h : tS X.K (sPar [i, j, l] rs) D σ H) : tPar3 i j l (tA X.K rs) D σ H := by
  obtain ⟨env, mu, F, S, he, hg, hw⟩ := h
  refine runL cl_endS he hg hw fun vs H1 mu1 S1 ds he1 hg1 r1 e1 hw1 => ?_
  cases r1 with
  | nil => exact hw1.elim
  | @cons v vs d ds r r1 => cases r1 with
    | nil => simp only [parE, lsK_eq] at hw1; exact hw1.elim
    | @cons v2 vs d2 ds r2 r1 => cases r1 with
      | nil => simp only [parE, lsK_eq] at hw1; exact hw1.elim
      | @cons v3 vs d3 ds r3 r1 => cases r1 with
        | cons _ _ => simp only [parE, lsK_eq] at hw1; exact hw1.elim
        | nil =>
          simp only [parE, lsK_eq] at hw1
          have hw1 : endS X.K mu1 F H1 D (.nx (((env.set i (some d)).set j (some d2)).set l (some d3))) S1 := hw1
          exact ⟨v, v2, v3, rfl, hw1 _ _ _ (Xt.refl _ _) hg1 (((he1.set r).set r2).set r3)⟩
/-- op= for ints -/
def ipO : Op2 → Operator → Prop
  | .add, .Add => True
  | .sub, .Sub => True
  | _, _ => False
def ipF : Op2 → Int → Int → Int
  | .add, i, j => i + j
  | _, i, j => i - j
theorem ip_any {o : Op2} {op : Operator} (h : ipO o op) : PIp X op (ipI (ipF o)) := by
  cases o <;> cases op <;> first | exact h.elim | exact ip_add | exact ip_sub
theorem op2_ip {o : Op2} {op : Operator} (h : ipO o op) {S : Store} {i j : Int} {z : D} (e : op2 S o (.int i) (.int j) = some z) : z = .int (ipF o i j) := by
  cases o <;> cases op <;> first | exact h.elim | (simp [op2] at e; rw [← e]; rfl)
theorem WP.getV {i : Nat} {env : Env} {S : Store} {P : D → Store → Prop} (h : WP (getV i env S) P) : ∃ d, env[i]? = some (some d) ∧ P d S := by
  unfold Ev.getV at h
  rw [nth_eq] at h
  split at h
  · rename_i d hd; exact ⟨d, hd, h⟩
  · exact h.elim
theorem pS_aug {i : Nat} {x : Str} {o : Op2} {op : Operator} {pos' : Pos} (hN : X.N.Nodup) (hi : X.N[i]? = some x) (hx : Loc X.env.scope x) (he : PE X e (tE X.K re)) (ho : ipO o op) (hf : X.fn x = true ∨ X.env.scope.names.lookup x = some .local) :
    PS X (.AugAssign (.Name x pos') op e pos) (tS X.K (sAug i o re)) := Ev.PS.imp (ps_aug hN hi hx he (ip_any ho) hf) fun D σ H ⟨env, mu, F, S, he, hg, hw⟩ => by
  obtain ⟨d, hd, hw⟩ := WP.getV (WP.bnd.mp hw)
  obtain ⟨v, hv, rv⟩ := he.2 i d hd
  refine ⟨v, hv, run1 cl_endS he hg hw fun w H1 mu1 S1 y he1 hg1 r1 e1 hw1 => ?_⟩
  have rv1 := rv.mono hg.live e1
  cases d with
  | int k =>
    cases y with
    | int l =>
      cases rv1; cases r1
      cases e2 : op2 S1 o (.int k) (.int l) with
      | none => simp only [e2] at hw1; exact hw1.elim
      | some z =>
        simp only [e2, lsK_eq] at hw1
        have hw1 : endS X.K mu1 F H1 D (.nx (env.set i (some z))) S1 := hw1
        have ez := op2_ip ho e2
        subst ez
        exact ⟨k, l, rfl, rfl, hw1 _ _ _ (Xt.refl _ _) hg1 (he1.set (.int _))⟩
    | _ => exact hw1.elim
  | _ => exact hw1.elim
/-- o[i] of a list, by values -/
theorem get_list : PGet X (rIxL X.K) := by
  intro pins s σ H x y v u Q I rx ry h
  obtain ⟨p, xs, i, z, rfl, rfl, hq, he, q⟩ := h
  cases rx
  obtain ⟨t, rfl⟩ := ry
  obtain ⟨its, r, pl, hz⟩ := I.list hq
  obtain ⟨j, h1, h2, h3, h4, h5⟩ := atI_get he
  obtain ⟨w, ew, rw'⟩ := r.get h2
  have hl := r.length
  have hn := line63
  have fin : EP X pins σ Q w s := ⟨z, H, I, rw', q⟩
  by_cases h0 : 0 ≤ i
  · have hj : i.toNat = j := by
      rw [seqIndex_of h0 h5] at h1
      exact Option.some.inj h1
    exact wpAny_getItem_list pl.isList h0 (by omega) (by rw [hj]; simpa using ew) fin
  · have hj : (i + (its.toArray.size : Int)).toNat = j := by
      rw [seqIndex_neg (by omega) h4] at h1
      rw [List.size_toArray, ← hl]
      exact Option.some.inj h1
    exact wpAny_getItem_list_neg pl.isList (by omega) (by rw [List.size_toArray] <;> omega) (by omega) (by rw [hj]; simpa using ew) fin
theorem pS_augIx {o i : Expr} {k : Op2} {op : Operator} {tpos : Pos} (ho : PE X o (tE X.K ro)) (hi : PE X i (tE X.K ri)) (he : PE X e (tE X.K re)) (hk : ipO k op)
    (ha : ∀ ov iv new, augStore i ov iv new = (do holding [new, ov, iv] (setItem ov iv new); release [new, ov, iv] []; pure .next)) : PS X (.AugAssign (.Subscript o i tpos) op e pos) (tS X.K (sAugIx ro ri k re)) :=
  Ev.PS.imp (ps_augS ho hi get_list he (ip_any hk) set_list ha) fun D σ H ⟨env, mu, F, S, he, hg, hw⟩ => by
    refine run1 cl_endS he hg hw fun v1 H1 mu1 S1 x he1 hg1 r1 e1 hw1 => run1 cl_endS he1 hg1 hw1 fun v2 H2 mu2 S2 y he2 hg2 r2 e2 hw2 => ?_
    obtain ⟨u, S2', eu, hw3⟩ := (WP.bnd.mp hw2).get
    have r1' := r1.mono hg1.live e2
    unfold doIx at eu
    cases e3 : seqOf S2 x with
    | none => simp only [e3] at eu; cases eu
    | some xs =>
    cases y with
    | int j =>
      simp only [e3] at eu
      cases e4 : (ixI xs.length j).bind fun j => nth xs j with
      | none => simp only [e4] at eu; cases eu
      | some w =>
        simp only [e4] at eu
        cases eu
        cases r2
        obtain ⟨j', hj, hd⟩ := Option.bind_eq_some_iff.mp e4
        rw [nth_eq] at hd
        -- the right side, then the store: x is a list in the store
        cases r1' with
        | @ref n a hn =>
          obtain ⟨a', vs, ea, ha, ra⟩ := hg2.seq (.ref hn) e3
          cases ea
          have hl : ∃ c, S2[n]? = some (.lst c) := by
            unfold seqOf at e3
            split at e3
            all_goals first | (rename_i z; cases z) | skip
            all_goals first | (split at e3; (rename_i c ec; exact ⟨c, ec⟩); cases e3) | cases e3
          obtain ⟨c, hc⟩ := hl
          obtain ⟨ws, hw1', hw2'⟩ := hg2.ref hn hc
          have ec : c = xs := by
            have : seqOf S2 (.ref n) = some c := by unfold seqOf; simp only [hc]
            rw [this] at e3; cases e3; rfl
          subst ec
          obtain ⟨z, hz, rz⟩ := hw2'.get hd
          refine ⟨a, ws, j, z, rfl, rfl, .inl (.inl hw1'), by unfold atI; rw [hw2'.length, ← ixI_eq, hj]; exact hz, ?_⟩
          refine run1 cl_endS he2 hg2 hw3 fun v3 H3 mu3 S3 v he3 hg3 r3 e5 hw4 => ?_
          have rz3 := rz.mono hg2.live e5
          cases u with
          | int k1 =>
            cases v with
            | int k2 =>
              cases rz3; cases r3
              cases e6 : op2 S3 k (.int k1) (.int k2) with
              | none => simp only [e6] at hw4; exact hw4.elim
              | some zz =>
                simp only [e6] at hw4
                have ez := op2_ip hk e6
                subst ez
                refine ⟨k1, k2, rfl, rfl, ?_⟩
                refine set_step hg3 ((Rp.ref hn).mono hg2.live e5) (.int j) (.int _) (WP.bnd.mp hw4) fun S' H' p e7 g7 => ?_
                have p : endS X.K mu3 F H3 D (.nx env) S' := p
                exact p _ _ _ e7 g7 (he3.mono hg3.live e7)
            | _ => exact hw4.elim
          | _ => exact hw4.elim
        | _ =>
          obtain ⟨v, S3, _, hw4⟩ := (WP.bnd.mp hw3).get
          exfalso
          split at hw4
          · obtain ⟨n, _, _, _, ex, _⟩ := setIx_rd (WP.bnd.mp hw4)
            cases ex
          · exact hw4.elim
    | _ => simp only [e3] at eu; cases eu
theorem pS_expr (he : PE X e (tE X.K re)) (hs : swapsWith e none pos.line X.env = pure false) : PS X (.Expr e pos) (tS X.K (sExpr re)) := Ev.PS.imp (ps_expr he hs) fun D σ H ⟨env, mu, F, S, he, hg, hw⟩ =>
  run1 cl_endS he hg hw fun v1 H1 mu1 S1 x he1 hg1 r1 e1 hw1 => by
    have hw1 : endS X.K mu1 F H1 D (.nx env) S1 := hw1
    exact hw1 _ _ _ (Xt.refl _ _) hg1 he1
theorem pS_ret (he : PE X e (tE X.K re)) : PS X (.Return (some e) pos) (tS X.K (sRet re)) := Ev.PS.imp (ps_ret he) fun D σ H ⟨env, mu, F, S, he, hg, hw⟩ =>
  run1 cl_endS he hg hw fun v1 H1 mu1 S1 x he1 hg1 r1 e1 hw1 => by
    have hw1 : endS X.K mu1 F H1 D (.rt x) S1 := hw1
    exact hw1 _ _ _ (Xt.refl _ _) hg1 r1
theorem pS_retN : PS X (.Return none pos) (tS X.K (fun _ => ret (.rt .non))) := Ev.PS.imp ps_retN fun D σ H ⟨env, mu, F, S, he, hg, hw⟩ => by
  have hw : endS X.K mu F H D (.rt .non) S := hw
  exact hw _ _ _ (Xt.refl _ _) hg .non
theorem pS_pass : PS X (.Pass pos) (tS X.K (fun env => ret (.nx env))) := Ev.PS.imp ps_pass fun D σ H ⟨env, mu, F, S, he, hg, hw⟩ => by
  have hw : endS X.K mu F H D (.nx env) S := hw
  exact hw _ _ _ (Xt.refl _ _) hg he
theorem pS_brk : PS X (.Break pos) (tS X.K (fun env => ret (.bk env))) := Ev.PS.imp ps_break fun D σ H ⟨env, mu, F, S, he, hg, hw⟩ => by
  have hw : endS X.K mu F H D (.bk env) S := hw
  exact hw _ _ _ (Xt.refl _ _) hg he
theorem pS_cont : PS X (.Continue pos) (tS X.K (fun env => ret (.ct env))) := Ev.PS.imp ps_continue fun D σ H ⟨env, mu, F, S, he, hg, hw⟩ => by
  have hw : endS X.K mu F H D (.ct env) S := hw
  exact hw _ _ _ (Xt.refl _ _) hg he
theorem pS_doc {x j pos'} : PS X (.Expr (.Constant (.str x) j pos') pos) (tS X.K (fun env => ret (.nx env))) := Ev.PS.imp ps_doc fun D σ H ⟨env, mu, F, S, he, hg, hw⟩ => by
  have hw : endS X.K mu F H D (.nx env) S := hw
  exact hw _ _ _ (Xt.refl _ _) hg he
theorem pS_never : PS X st (tS X.K (fun _ => stk)) := Ev.PS.imp ps_never fun D σ H ⟨env, mu, F, S, he, hg, hw⟩ => hw.elim
theorem pS_if {c : Expr} (hc : PT X c (tT X.K rc)) (ha : PSs X body (tS X.K rb)) (hb : PSs X b2 (tS X.K rb2)) : PS X (.If c body b2 pos) (tS X.K (sIte rc rb rb2)) := Ev.PS.imp (ps_if hc ha hb) fun D σ H ⟨env, mu, F, S, he, hg, hw⟩ => by
  refine ⟨env, mu, F, S, he, hg, (WP.bnd.mp hw).mono fun x S1 hw1 => ?_⟩
  cases x with
  | bl b =>
    refine ⟨b, rfl, fun H1 mu1 e1 hg1 => ?_⟩
    cases b with
    | true => exact ⟨env, mu1, F, S1, he.mono hg.live e1, hg1, WP.mono hw1 fun f S2 q => cl_endS (K := X.K) (F := F) mu H mu1 H1 f S2 e1 hg1.live q⟩
    | false => exact ⟨env, mu1, F, S1, he.mono hg.live e1, hg1, WP.mono hw1 fun f S2 q => cl_endS (K := X.K) (F := F) mu H mu1 H1 f S2 e1 hg1.live q⟩
  | _ => exact hw1.elim
theorem pSs_nil : PSs X [] (tS X.K Ev.sNil) := Ev.PSs.imp pss_nil fun D σ H ⟨env, mu, F, S, he, hg, hw⟩ => by
  have hw : endS X.K mu F H D (.nx env) S := hw
  exact hw _ _ _ (Xt.refl _ _) hg he
theorem pSs_cons (h1 : PS X st (tS X.K r1)) (h2 : PSs X rest (tS X.K rb)) : PSs X (st :: rest) (tS X.K (Ev.sCons r1 rb)) := Ev.PSs.imp (pss_cons h1 h2) fun D σ H ⟨env, mu, F, S, he, hg, hw⟩ => by
  refine ⟨env, mu, F, S, he, hg, (WP.bnd.mp hw).mono fun f S1 hw1 => ?_⟩
  cases f with
  | nx env' => exact fun σ' H' mu' e' g' he' => ⟨env', mu', F, S1, he', g', WP.mono hw1 fun f S2 q => cl_endS (K := X.K) (F := F) mu H mu' H' f S2 e' g'.live q⟩
  | rt d => exact hw1
  | bk _ => exact hw1
  | ct _ => exact hw1

/-! ### loops -/
theorem while_rd {n : Nat} {D : Ends} {σ : L2.St} {H : Hp} (h : tS X.K (whileL rc rb n) D σ H) : tWhile (tT X.K rc) (tS X.K rb) D σ H := by
  obtain ⟨env, mu, F, S, he, hg, hw⟩ := h
  refine ⟨fun m σ' H' => ∃ env' mu' S', Xt mu H mu' H' ∧ EnvR X.K mu' F H' σ' env' ∧ Gd X.K mu' F H' S' ∧ WP (whileL rc rb m env' S') (endS X.K mu F H D), ⟨n, env, mu, S, Xt.refl _ _, he, hg, hw⟩, ?_⟩
  rintro m σ1 H1 ⟨env1, mu1, S1, e1, he1, hg1, hw1⟩
  cases m with
  | zero => exact hw1.elim
  | succ m =>
    refine ⟨env1, mu1, F, S1, he1, hg1, ?_⟩
    unfold whileL at hw1
    cases e2 : rc env1 S1 with
    | no => simp only [e2] at hw1; exact hw1.elim
    | exc _ _ _ => simp only [e2] at hw1; exact hw1.elim
    | ok x S2 =>
      cases x with
      | bl b =>
        refine ⟨b, rfl, fun H2 mu2 x2 hg2 => ?_⟩
        have e12 := e1.trans hg1.live x2
        have he2 := he1.mono hg1.live x2
        cases b with
        | false =>
          simp only [e2] at hw1
          have hw1 : endS X.K mu F H D (.nx env1) S2 := hw1
          dsimp only
          rw [if_neg Bool.false_ne_true]
          exact hw1 _ _ _ e12 hg2 he2
        | true =>
          simp only [e2] at hw1
          dsimp only
          rw [if_pos rfl]
          refine ⟨fun σ' H' => ∃ env' mu' S', Xt mu H mu' H' ∧ EnvR X.K mu' F H' σ' env' ∧ Gd X.K mu' F H' S' ∧ WP (whileL rc rb m env' S') (endS X.K mu F H D), fun σ' H' w => ⟨m, Nat.lt_succ_self _, w⟩, ?_⟩
          refine ⟨env1, mu2, F, S2, he2, hg2, ?_⟩
          cases e3 : rb env1 S2 with
          | no => simp only [e3] at hw1; exact hw1.elim
          | exc _ _ _ => simp only [e3] at hw1; exact hw1.elim
          | ok f S3 =>
            simp only [e3] at hw1
            cases f with
            | nx env' => exact fun σ' H' mu' e' g' he' => ⟨env', mu', S3, e12.trans hg2.live e', he', g', hw1⟩
            | ct env' => exact fun σ' H' mu' e' g' he' => ⟨env', mu', S3, e12.trans hg2.live e', he', g', hw1⟩
            | bk env' =>
              have hw1 : endS X.K mu F H D (.nx env') S3 := hw1
              exact fun σ' H' mu' e' g' he' => hw1 _ _ _ (e12.trans hg2.live e') g' he'
            | rt d =>
              have hw1 : endS X.K mu F H D (.rt d) S3 := hw1
              exact fun v H' mu' e' g' r => hw1 _ _ _ (e12.trans hg2.live e') g' r
      | _ => simp only [e2] at hw1; exact hw1.elim
theorem pS_while {c : Expr} (hp : PassesOwn (model X.prog X.w) X.A X.env X.xe) (hc : PT X c (tT X.K rc)) (hb : PSs X body (tS X.K rb)) : PS X (.While c body [] pos) (tS X.K (sWhile rc rb)) := Ev.PS.imp (ps_while hp hc hb) fun D σ H ⟨env, mu, F, S, he, hg, hw⟩ => while_rd (n := envFuel env) ⟨env, mu, F, S, he, hg, hw⟩
theorem for_rd {t : Tn} {k : SK} {D : Ends} {σ : L2.St} {H : Hp} (h : tS X.K (sFor t k rs rb) D σ H) : tFor (tSrc X.K k rs) (tG X.K t) (tS X.K rb) D σ H := by
  obtain ⟨env, mu, F, S, he, hg, hw⟩ := h
  refine ⟨env, mu, F, S, he, hg, (WP.bnd.mp hw).mono fun ds S1 h1 => ?_⟩
  cases e0 : srcOf k ds S1 with
  | none => simp only [e0] at h1; exact h1.elim
  | some r =>
  obtain ⟨xs, dp⟩ := r
  simp only [e0] at h1
  refine ⟨xs, dp, rfl, fun J H1 mu1 e1 g1 gv => ?_⟩
  have he1 := he.mono hg.live e1
  have fx : Fx F F H1 := Fx.refl _ _
  let W : Nat → Nat → L2.St → Hp → Prop := fun i n σ' H' => n = xs.length - i ∧ i ≤ xs.length ∧ ∃ env' mu' S', Xt mu1 H1 mu' H' ∧ EnvR X.K mu' F H' σ' env' ∧ Gd X.K mu' F H' S' ∧
    WP (forL dp (fTurn t rb) (xs.drop i) env' S') (endS X.K mu F H D)
  refine ⟨W, ⟨xs.length, by simp, Nat.zero_le _, env, mu1, S1, Xt.refl _ _, he1, g1, by simpa using h1⟩, ?_⟩
  rintro i n σ' H' ⟨hn, hi, env', mu', S', e2, he2, g2, h2⟩
  by_cases hlt : i < xs.length
  · refine .inr ?_
    have hxs : xs.drop i = xs[i] :: xs.drop (i + 1) := List.drop_eq_getElem_cons hlt
    rw [hxs] at h2
    unfold forL at h2
    by_cases hd : depOk dp S' = true
    · rw [if_pos hd] at h2
      refine ⟨gv.go mu' F H' S' e2 fx g2 hd i hlt, fun σ'' H'' => W (i + 1) (xs.length - (i + 1)) σ'' H'', fun σ'' H'' w => ⟨_, by omega, w⟩, fun v H3 hy => ?_⟩
      obtain ⟨e3, g3, rv⟩ := gv.yld mu' F H' S' e2 fx g2 hd i xs[i] v H3 (by simp [hlt]) hy
      have e13 := e2.trans g2.live e3
      have he3 := he2.mono g2.live e3
      unfold fTurn at h2
      cases e4 : asgT t xs[i] env' with
      | none => simp only [e4] at h2; exact h2.elim
      | some env3 =>
        simp only [e4] at h2
        refine ⟨env', mu', F, S', xs[i], env3, he3, g3, rv, e4, fun σ3 he4 ho => ⟨env3, mu', F, S', he4, g3, ?_⟩⟩
        cases e5 : rb env3 S' with
        | no => simp only [e5] at h2; exact h2.elim
        | exc _ _ _ => simp only [e5] at h2; exact h2.elim
        | ok f S3 =>
          simp only [e5] at h2
          cases f with
          | nx env4 => exact fun σ4 H4 mu4 e6 g4 he5 => ⟨rfl, hlt, env4, mu4, S3, e13.trans g3.live e6, he5, g4, h2⟩
          | ct env4 => exact fun σ4 H4 mu4 e6 g4 he5 => ⟨rfl, hlt, env4, mu4, S3, e13.trans g3.live e6, he5, g4, h2⟩
          | bk env4 =>
            have h2 : endS X.K mu F H D (.nx env4) S3 := h2
            exact fun σ4 H4 mu4 e6 g4 he5 => h2 _ _ _ ((e1.trans g1.live e13).trans g3.live e6) g4 he5
          | rt d =>
            have h2 : endS X.K mu F H D (.rt d) S3 := h2
            exact fun v4 H4 mu4 e6 g4 r => h2 _ _ _ ((e1.trans g1.live e13).trans g3.live e6) g4 r
    · rw [if_neg hd] at h2; exact h2.elim
  · have hi : i = xs.length := by omega
    subst hi
    rw [List.drop_length] at h2
    unfold forL at h2
    by_cases hd : depOk dp S' = true
    · rw [if_pos hd] at h2
      have h2 : endS X.K mu F H D (.nx env') S' := h2
      exact .inl ⟨gv.stop mu' F H' S' e2 fx g2 hd, h2 _ _ _ (e1.trans g1.live e2) g2 he2⟩
    · rw [if_neg hd] at h2; exact h2.elim
theorem pS_for {tg iter : Expr} {t : Tn} {k : SK} (hp : PassesOwn (model X.prog X.w) X.A X.env X.xe) (hc : X.calm = true) (hi : PI X tg iter (tSrc X.K k rs)) (hg : PG X tg (tG X.K t)) (hb : PSs X body (tS X.K rb)) (hs : ∀ x, foldedSetIterable iter X.env x = pure x) :
    PS X (.For tg iter body [] pos) (tS X.K (sFor t k rs rb)) := Ev.PS.imp (ps_for hp hc hi hg hb hs) fun D σ H h => for_rd h
end
end Ev
/-! Ev: an expression of the program is one of Ev's: the check -/
namespace Ev
open PySem PySem.Spec
open PyProof.Rows L2

structure CC where
  N : List Str
  sc : Scope
  fnB : Option Scope
  gs : List (Str × Bool)
  bl : List Str
  gcd : Bool
def CC.blk (c : CC) (scope : Scope) : CC := { c with sc := relS scope c.sc, fnB := some scope }
def glC (c : CC) (x : Str) : Bool := decide (c.sc.names.lookup x = some .globalImplicit)
def blC (c : CC) (x : Str) : Bool := c.bl.any fun y => decide (y = x)
def okN (x : Str) : Bool := !(x == ("__debug__" : Str)) && !(x == ("__classdict__" : Str)) && !(x == ("__name__" : Str))
def visC (c : CC) (x : Str) : Bool := match c.sc.names.lookup x with
  | some .local => true
  | some .cell => true
  | some .free => true
  | _ => false
def locC (c : CC) (x : Str) : Bool := match c.sc.names.lookup x with
  | some .local => true
  | some .cell => (match c.fnB with | none => true | some s => decide (s.names.lookup x = some .cell))
  | _ => false
def notStar : Expr → Bool
  | .Starred .. => false
  | _ => true
def notCall : Expr → Bool
  | .Call .. => false
  | _ => true
def notSet : Expr → Bool
  | .Set .. => false
  | _ => true
def notSlice : Expr → Bool
  | .Slice .. => false
  | _ => true
def isTupE : Expr → Bool
  | .Tuple .. => true
  | _ => false
mutual
def chkT (c : CC) : Tn → Expr → Bool
  | .nm i, e => match e with
    | .Name x _ => decide (nth c.N i = some x) && locC c x
    | _ => false
  | .tp ts, e => match e with
    | .Tuple es _ _ => chkTs c ts es
    | _ => false
def chkTs (c : CC) : List Tn → List Expr → Bool
  | [], es => match es with
    | [] => true
    | _ => false
  | t :: ts, es => match es with
    | e :: es => notStar e && chkT c t e && chkTs c ts es
    | _ => false
end
def tOk : Ex → Bool
  | .not a => tOk a
  | .and a b => tOk a && tOk b
  | .or a b => tOk a && tOk b
  | .ite _ _ _ => false
  | _ => true
def isAnd : Ex → Bool
  | .and _ _ => true
  | _ => false
def isOr : Ex → Bool
  | .or _ _ => true
  | _ => false
def biN : Bi → Str
  | .len => "len" | .int => "int" | .abs => "abs" | .max2 => "max" | .min2 => "min" | .maxL => "max" | .minL => "min"
  | .sum => "sum" | .all => "all" | .any => "any" | .list => "list" | .tuple => "tuple" | .divmod => "divmod" | .sortedI => "sorted" | _ => ""
def gd {α : Type} (b : Bool) (a : α) : Option α := match b with
  | true => some a
  | false => none
theorem gd_some {α : Type} {b : Bool} {a x : α} (h : gd b a = some x) : b = true ∧ a = x := by
  cases b with
  | true => exact ⟨rfl, Option.some.inj h⟩
  | false => cases h
def plB : Bi → Bool
  | .listRg => false
  | .tupRg => false
  | .isinst _ => false
  | .gcd => false
  | .bool => false
  | _ => true
def rgA (c : CC) (x nm : Str) : List Expr → Option (List Expr)
  | [.Call (.Name r _) as [] _] => gd (decide (x = nm) && decide (r = "range") && glC c nm && blC c nm && glC c "range" && blC c "range" && Nat.ble as.length 2 && Nat.ble 1 as.length) as
  | _ => none
def isiA (c : CC) (x : Str) (t : Ty) : List Expr → Option (List Expr)
  | [a, .Name y _] => gd (decide (x = "isinstance") && glC c "isinstance" && blC c "isinstance" && decide (y = Str.ofString (tyName t)) && glC c y && blC c y && !decide (t = .tNone)) [a]
  | _ => none
def gcdA (c : CC) (x : Str) (es : List Expr) : Option (List Expr) := gd (decide (x = "gcd") && c.gcd && glC c "gcd" && Nat.ble 1 es.length) es
def plA (c : CC) (x : Str) (k : Bi) (es : List Expr) : Option (List Expr) := gd (plB k && decide (x = biN k) && glC c (biN k) && blC c (biN k) && Nat.ble 1 es.length) es
/-- the arguments, where the call has the form that k asks -/
def biA (c : CC) (k : Bi) (e : Expr) : Option (List Expr) := match e with
  | .Call (.Name x _) es [] _ => match k with
    | .listRg => rgA c x "list" es
    | .tupRg => rgA c x "tuple" es
    | .isinst t => isiA c x t es
    | .gcd => gcdA c x es
    | k => plA c x k es
  | _ => none
def mtN : Mt → Str
  | .append => "append" | .extend => "extend" | .pop => "pop" | .bits => "bit_length"
def mtL : Mt → Nat
  | .append => 1 | .extend => 1 | .pop => 0 | .bits => 0
def srG (c : CC) (x nm : Str) (n : Nat) (tp : Bool) (tg : Expr) (es : List Expr) : Option (List Expr) := gd (decide (x = nm) && glC c nm && blC c nm && Nat.beq es.length n && (!tp || isTupE tg)) es
/-- a source's parts -/
def srcA (c : CC) (k : SK) (tg iter : Expr) : Option (List Expr) := match k with
  | .vl => gd (notStar iter) [iter]
  | k => match iter with
    | .Call (.Name x _) es [] _ => match k with
      | .rg1 => srG c x "range" 1 false tg es
      | .rg2 => srG c x "range" 2 false tg es
      | .en => srG c x "enumerate" 1 true tg es
      | .zp => srG c x "zip" 2 true tg es
      | .zp3 => srG c x "zip" 3 true tg es
      | _ => none
    | _ => none
def ownP (N : List Str) (own : List Nat) : List (Str × Nat) := own.map fun i => ((nth N i).getD "", i)
def sub2 (l own : List Nat) : Bool := l.all fun i => own.any fun j => Nat.beq i j
mutual
def chkE (c : CC) : Ex → Expr → Bool
  | .int i, e => match e with
    | .Constant (.int j) _ _ => decide (i = j)
    | _ => false
  | .bl b, e => match e with
    | .Constant (.bool j) _ _ => b == j
    | _ => false
  | .non, e => match e with
    | .Constant .none _ _ => true
    | _ => false
  | .str s, e => match e with
    | .Constant (.str t) _ _ => decide (s = t)
    | _ => false
  | .var i, e => match e with
    | .Name x _ => decide (nth c.N i = some x) && visC c x && okN x
    | _ => false
  | .gl g, e => match e with
    | .Name x _ => decide (nth c.gs g = some (x, false)) && glC c x && okN x
    | _ => false
  | .bin o _ a b, e => match e with
    | .BinOp a' p b' _ => decide (p = opO o) && chkE c a a' && chkE c b b'
    | _ => false
  | .neg a, e => match e with
    | .UnaryOp .USub a' _ => chkE c a a'
    | _ => false
  | .not a, e => match e with
    | .UnaryOp .Not a' _ => chkE c a a'
    | _ => false
  | .and a r, e => match e with
    | .BoolOp .And (a' :: b' :: []) _ => chkE c a a' && chkE c r b'
    | .BoolOp .And (a' :: b' :: d' :: rest) pos => isAnd r && chkE c a a' && chkE c r (.BoolOp .And (b' :: d' :: rest) pos)
    | _ => false
  | .or a r, e => match e with
    | .BoolOp .Or (a' :: b' :: []) _ => chkE c a a' && chkE c r b'
    | .BoolOp .Or (a' :: b' :: d' :: rest) pos => isOr r && chkE c a a' && chkE c r (.BoolOp .Or (b' :: d' :: rest) pos)
    | _ => false
  | .cmp o a b, e => match e with
    | .Compare a' [q] [b'] _ => decide (q = cmO o) && chkE c a a' && chkE c b b' && !behindInMarks (cmO o) b'
    | _ => false
  | .chain o o' a b d, e => match e with
    | .Compare a' [q, q'] [b', d'] _ => decide (q = cmO o) && decide (q' = cmO o') && chkE c a a' && chkE c b b' && chkE c d d' && !behindInMarks (cmO o') d'
    | _ => false
  | .ite q a b, e => match e with
    | .IfExp q' a' b' _ => tOk q && chkE c q q' && chkE c a a' && chkE c b b'
    | _ => false
  | .tup xs, e => match e with
    | .Tuple es _ _ => Nat.ble es.length 1000 && chkEs c xs es
    | _ => false
  | .lst _ xs, e => match e with
    | .List es _ => Nat.ble es.length 1000 && chkEs c xs es
    | _ => false
  | .ix a b, e => match e with
    | .Subscript a' b' _ => notSlice b' && chkE c a a' && chkE c b b'
    | _ => false
  | .slA _ a, e => match e with
    | .Subscript a' (.Slice none none none _) _ => chkE c a a'
    | _ => false
  | .slL _ a b, e => match e with
    | .Subscript a' (.Slice (some b') none none _) _ => chkE c a a' && chkE c b b'
    | _ => false
  | .slH _ a b, e => match e with
    | .Subscript a' (.Slice none (some b') none _) _ => chkE c a a' && chkE c b b'
    | _ => false
  | .slLH _ a b d, e => match e with
    | .Subscript a' (.Slice (some b') (some d') none _) _ => chkE c a a' && chkE c b b' && chkE c d d'
    | _ => false
  | .rev _ a, e => match e with
    | .Subscript a' (.Slice none none (some (.UnaryOp .USub (.Constant (.int j) _ _) _)) _) _ => decide (j = 1) && chkE c a a'
    | _ => false
  | .call g args, e => match e with
    | .Call (.Name x _) es [] _ => decide (nth c.gs g = some (x, true)) && glC c x && okN x && chkEs c args es
    | _ => false
  | .bi k _ args, e => match biA c k e with
    | some es => chkEs c args es
    | none => false
  | .mt k o args, e => match e with
    | .Call (.Attribute a' nm ap) es [] p => decide (nm = mtN k) && Nat.beq es.length (mtL k) && notCall a' && (ap.endLine == p.line) && chkE c o a' && chkEs c args es
    | _ => false
  | .comp _ own t k src ifs x, e => match e with
    | .ListComp elt [⟨tg, iter, ifs', 0⟩] scope _ => notSet iter && blkC c.N c.sc scope (ownP c.N own) && chkT (c.blk scope) t tg && sub2 t.names own && (match ifs with | [] => true | [q] => tOk q | _ => false) &&
      (match srcA c k tg iter with
       | some es => chkEs c src es
       | none => false) && chkEs (c.blk scope) ifs ifs' && chkE (c.blk scope) x elt
    | _ => false
def chkEs (c : CC) : List Ex → List Expr → Bool
  | [], es => match es with
    | [] => true
    | _ => false
  | x :: xs, es => match es with
    | e :: es => notStar e && chkE c x e && chkEs c xs es
    | _ => false
end
structure Fit (C : Ctx) (k : Nat) (c : CC) (X : Cx) : Prop where
  N : X.N = c.N
  nd : X.N.Nodup
  sc : X.env.scope = c.sc
  kd : c.sc.kind = .function
  fn : match c.fnB with | none => ∀ x, X.fn x = true | some s => ∀ x, s.names.lookup x = some .cell → X.fn x = true
  calm : X.calm = true
  room : Room k X.A
  bl : ∀ x, x ∈ c.bl → X.mg x = none
  gc : c.gcd = true → X.mg "gcd" = some (.builtin "math.gcd")
  fns : ∀ g x, c.gs[g]? = some (x, true) → ∃ f fd ps, X.mg x = some (.ref f) ∧ PySem.W.keepIn X.K (.ref f) = true ∧ Binds X.K fd ps [] ∧ FnOk X.prog X.w X.K X.mg X.base CX0 k f fd ps (spF X.K (C.cl g))
  cns : ∀ g x, c.gs[g]? = some (x, false) → ∃ v u, X.mg x = some u ∧ RelV v u ∧ ∀ d, C.gv g = some d → ∀ mu F H, Rp X.K mu F H v d
section
variable {C : Ctx} {k : Nat} {c : CC} {X : Cx}
theorem Fit.blk {scope : Scope} (f : Fit C k c X) (hs : scope.kind = .function) (s : Shared) (H : Hp) (Ca : Addr) (cl : List (Str × Addr)) (fp : List Addr) : Fit C k (c.blk scope) (X.blk s H scope (compEnvC scope cl Ca X.env) fp) where
  N := f.N
  nd := f.nd
  sc := by
    show relS scope X.env.scope = relS scope c.sc
    rw [f.sc]
  kd := hs
  fn := fun x h => by
    show (scope.names.lookup x == some .cell) = true
    rw [h]; rfl
  calm := f.calm
  room := f.room
  bl := f.bl
  gc := f.gc
  fns := f.fns
  cns := f.cns
theorem Fit.gl {x : Str} (f : Fit C k c X) (h : glC c x = true) : Gl X x := by
  unfold glC at h
  rw [decide_eq_true_eq] at h
  unfold Gl Env.kindOf
  rw [f.sc]; exact h
theorem Fit.mg {x : Str} (f : Fit C k c X) (h : blC c x = true) : X.mg x = none := by
  unfold blC at h
  rw [List.any_eq_true] at h
  obtain ⟨y, hy, e⟩ := h
  rw [decide_eq_true_eq] at e
  subst e
  exact f.bl _ hy
theorem Fit.vis {x : Str} (f : Fit C k c X) (h : visC c x = true) : Vis X.env.scope x := by
  unfold visC at h
  unfold Vis
  rw [f.sc]
  split at h
  · exact .inl (by assumption)
  · exact .inr (.inl (by assumption))
  · exact .inr (.inr (by assumption))
  · cases h
theorem Fit.loc {x : Str} (f : Fit C k c X) (h : locC c x = true) : Loc X.env.scope x ∧ (X.fn x = true ∨ X.env.scope.names.lookup x = some .local) := by
  unfold locC at h
  unfold L2.Loc
  rw [f.sc]
  have hf := f.fn
  split at h
  · rename_i e; exact ⟨.inl e, .inr e⟩
  · rename_i e
    refine ⟨.inr e, .inl ?_⟩
    split at h
    · rename_i e2; rw [e2] at hf; exact hf x
    · rename_i s e2; rw [e2] at hf; exact hf x (by simpa using h)
  · cases h
theorem okN_1 {x : Str} (h : okN x = true) : (x == ("__debug__" : Str)) = false ∧ (x == ("__classdict__" : Str)) = false ∧ x ≠ "__name__" := by
  unfold okN at h
  simp only [Bool.and_eq_true, Bool.not_eq_true'] at h
  exact ⟨h.1.1, h.1.2, fun e => by subst e; have := h.2; simp at this⟩
theorem star_cons {e : Expr} {es : List Expr} {env : PySem.Env} (h : notStar e = true) : starEach (e :: es) env = (false, eval e env) :: starEach es env := by
  cases e <;> first | rfl | cases h
theorem asgEach_cons {e : Expr} {es : List Expr} {env : PySem.Env} (h : notStar e = true) : assignEach (e :: es) env = (false, assign e env) :: assignEach es env := by
  cases e <;> first | rfl | cases h
theorem base_notCall {e : Expr} {s : Str} {env : PySem.Env} {w : Sem Value} (h : notCall e = true) : attributeBase e s env w = w := by
  cases e <;> first | rfl | cases h
theorem folded_notSet {e : Expr} {env : PySem.Env} {x : Value} (h : notSet e = true) : foldedSetIterable e env x = pure x := by
  cases e <;> first | rfl | cases h
theorem plain_notSlice {e : Expr} (h : notSlice e = true) : PlainIx e := by
  intro o i
  cases e <;> first | rfl | cases h

/-! ### targets -/
mutual
theorem chkT_ok : ∀ {t : Tn} {e : Expr} {c : CC} {X : Cx}, Fit C k c X → chkT c t e = true → PG X e (tG X.K t)
  | .nm i, e, c, X, f, h => by
    unfold chkT at h
    split at h
    · simp only [Bool.and_eq_true, decide_eq_true_eq, nth_eq] at h
      have := f.loc h.2
      exact pG_nm f.nd (by rw [f.N]; exact h.1) this.1 this.2
    · cases h
  | .tp ts, e, c, X, f, h => by
    unfold chkT at h
    split at h
    · have q := chkTs_ok f h
      exact pG_tp f.calm q.1 q.2.1 q.2.2
    · cases h
theorem chkTs_ok : ∀ {ts : List Tn} {es : List Expr} {c : CC} {X : Cx}, Fit C k c X → chkTs c ts es = true → PGs X es (tGs X.K ts) ∧ (assignEach es X.env).length = ts.length ∧ (assignEach es X.env).findIdx? (·.1) = none
  | [], es, c, X, f, h => by
    unfold chkTs at h
    split at h
    · exact ⟨pGs_nil, rfl, rfl⟩
    · cases h
  | t :: ts, es, c, X, f, h => by
    unfold chkTs at h
    split at h
    · simp only [Bool.and_eq_true] at h
      have q := chkTs_ok f h.2
      have e1 := asgEach_cons (env := X.env) (es := by assumption) h.1.1
      refine ⟨pGs_cons (chkT_ok f h.1.2) q.1 (by rw [e1]; rfl), by rw [e1]; simp [q.2.1], ?_⟩
      rw [e1]
      have q2 := q.2.2
      simp only [List.findIdx?_eq_none_iff] at q2 ⊢
      intro x hx
      rcases List.mem_cons.mp hx with rfl | hx
      · rfl
      · exact q2 x hx
    · cases h
end
end
end Ev
/-! Ev: the check is sound: expressions -/
namespace Ev
open PySem PySem.Spec
open PyProof.Rows L2

section
variable {C : Ctx} {k : Nat}
def isBO : Expr → Bool
  | .BoolOp .. => true
  | _ => false
/-- what a checked expression gives -/
structure EOk (C : Ctx) (X : Cx) (x : Ex) (e : Expr) : Prop where
  pe : PE X e (tE X.K (evE C x))
  pt : tOk x = true → PT X e (tT X.K (evE C x))
  pw : tOk x = true → isBO e = true → PW X e (tT X.K (evE C x))
def Each (C : Ctx) (X : Cx) : List Ex → List Expr → Prop
  | [], [] => True
  | x :: xs, e :: es => (notStar e = true ∧ EOk C X x e) ∧ Each C X xs es
  | _, _ => False
theorem Each.len {X : Cx} : ∀ {xs : List Ex} {es : List Expr}, Each C X xs es → xs.length = es.length
  | [], [], _ => rfl
  | [], _ :: _, h => h.elim
  | _ :: _, [], h => h.elim
  | x :: xs, e :: es, h => by simp [Each.len h.2]
theorem Each.pa {X : Cx} : ∀ {xs : List Ex} {es : List Expr}, Each C X xs es → PA X es (tA X.K (evEs C xs))
  | [], [], _ => pA_nil
  | [], _ :: _, h => h.elim
  | _ :: _, [], h => h.elim
  | x :: xs, e :: es, h => pA_cons h.1.2.pe (Each.pa h.2) (star_cons h.1.1)
theorem Each.nostar {X : Cx} : ∀ {xs : List Ex} {es : List Expr}, Each C X xs es → (starEach es X.env).any (·.1) = false
  | [], [], _ => rfl
  | [], _ :: _, h => h.elim
  | _ :: _, [], h => h.elim
  | x :: xs, e :: es, h => by rw [star_cons h.1.1]; simpa using Each.nostar h.2
theorem backTo_none {pos : Pos} {ts : List (Bool × Sem Value)} (h : ts.any (·.1) = false) : (backTo pos ts).any (·.1) = false := by
  unfold backTo
  rw [List.any_map]
  exact h
theorem Each.bt {X : Cx} {xs : List Ex} {es : List Expr} {pos : Pos} (h : Each C X xs es) : (backTo pos (starEach es X.env)).any (·.1) = false := backTo_none h.nostar
theorem len_evEs : ∀ (xs : List Ex), Len (evEs C xs) xs.length
  | [] => fun env S ds S1 h => by
    have h : Rs.ok ([] : List D) S = .ok ds S1 := h
    cases h; rfl
  | x :: xs => fun env S ds S1 h => by
    have h : bnd (evE C x env) (fun d => bnd (evEs C xs env) fun ds => ret (d :: ds)) S = .ok ds S1 := h
    unfold bnd at h
    cases e1 : evE C x env S with
    | no => simp only [e1] at h; cases h
    | exc _ _ _ => simp only [e1] at h; cases h
    | ok d S2 =>
      simp only [e1] at h
      cases e2 : evEs C xs env S2 with
      | no => simp only [e2] at h; cases h
      | exc _ _ _ => simp only [e2] at h; cases h
      | ok ds' S3 =>
        simp only [e2] at h
        have h : Rs.ok (d :: ds') S3 = .ok ds S1 := h
        cases h
        simp [len_evEs xs env S2 ds' _ e2]
/-- a value's test -/
theorem EOk.of {X : Cx} {x : Ex} {e : Expr} (h : PE X e (tE X.K (evE C x))) (he : ∀ whole, isTrue e X.env whole = (do let v ← whole; standAt e.pos; holding [v] (truthy v))) (hb : isBO e = false) : EOk C X x e :=
  ⟨h, fun _ => pT_of h he, fun _ z => by rw [hb] at z; cases z⟩
theorem Fit.un {c : CC} {X : Cx} (f : Fit C k c X) : X.A.units + 64 < cLine := by have := f.room.un; omega
theorem boot_bi : ∀ k : Bi, plB k = true → bootBuiltins (biN k) = some (biF k) ∧ okN (biN k) = true ∧ biF k ≠ .none
  | .len, _ => by refine ⟨by decide +kernel, by decide +kernel, fun z => nomatch z⟩
  | .int, _ => by refine ⟨by decide +kernel, by decide +kernel, fun z => nomatch z⟩
  | .abs, _ => by refine ⟨by decide +kernel, by decide +kernel, fun z => nomatch z⟩
  | .max2, _ => by refine ⟨by decide +kernel, by decide +kernel, fun z => nomatch z⟩
  | .min2, _ => by refine ⟨by decide +kernel, by decide +kernel, fun z => nomatch z⟩
  | .maxL, _ => by refine ⟨by decide +kernel, by decide +kernel, fun z => nomatch z⟩
  | .minL, _ => by refine ⟨by decide +kernel, by decide +kernel, fun z => nomatch z⟩
  | .sum, _ => by refine ⟨by decide +kernel, by decide +kernel, fun z => nomatch z⟩
  | .all, _ => by refine ⟨by decide +kernel, by decide +kernel, fun z => nomatch z⟩
  | .any, _ => by refine ⟨by decide +kernel, by decide +kernel, fun z => nomatch z⟩
  | .list, _ => by refine ⟨by decide +kernel, by decide +kernel, fun z => nomatch z⟩
  | .tuple, _ => by refine ⟨by decide +kernel, by decide +kernel, fun z => nomatch z⟩
  | .divmod, _ => by refine ⟨by decide +kernel, by decide +kernel, fun z => nomatch z⟩
  | .sortedI, _ => by refine ⟨by decide +kernel, by decide +kernel, fun z => nomatch z⟩
theorem boot_ty : ∀ t : Ty, t ≠ .tNone → bootBuiltins (Str.ofString (tyName t)) = some (.type (tyName t)) ∧ okN (Str.ofString (tyName t)) = true
  | .tNone, h => absurd rfl h
  | .tBool, _ => by refine ⟨by decide +kernel, by decide +kernel⟩
  | .tInt, _ => by refine ⟨by decide +kernel, by decide +kernel⟩
  | .tStr, _ => by refine ⟨by decide +kernel, by decide +kernel⟩
  | .tTuple, _ => by refine ⟨by decide +kernel, by decide +kernel⟩
  | .tList, _ => by refine ⟨by decide +kernel, by decide +kernel⟩
  | .tDict, _ => by refine ⟨by decide +kernel, by decide +kernel⟩
theorem biF_kind : ∀ k : Bi, biF k ≠ .none → (∃ id, biF k = .builtin id) ∨ ∃ T, biF k = .type T := by
  intro k h
  cases k <;> first | exact absurd rfl h | exact .inl ⟨_, rfl⟩ | exact .inr ⟨_, rfl⟩
/-- a call of a builtin -/
theorem bi_plain {c : CC} {X : Cx} (f : Fit C k c X) (b : Bi) (m : Bool) (hb : plB b = true)
    {es : List Expr} {args : List Ex} {p pos : Pos} (hg : glC c (biN b) = true) (hm : blC c (biN b) = true) (hl : 1 ≤ es.length) (h : Each C X args es) : PE X (.Call (.Name (biN b) p) es [] pos) (tE X.K (kBi b m (evEs C args))) := by
  obtain ⟨hv, hn, hne⟩ := boot_bi b hb
  obtain ⟨h1, h2, h3⟩ := okN_1 hn
  cases es with
  | nil => simp at hl
  | cons a es =>
    cases args with
    | nil => exact h.elim
    | cons x args =>
    have hs := star_cons (es := es) (env := X.env) h.1.1
    have bt : (backTo pos (starEach es X.env)).any (·.1) = false := Each.bt h.2
    rcases biF_kind b hne with ⟨id, e⟩ | ⟨T, e⟩
    · exact pE_bi b m f.calm e (f.gl hg) (f.mg hm) (by rw [hv, e]) h.pa h3 h1 hs bt
    · exact pE_biTy b m f.calm e (f.gl hg) (f.mg hm) (by rw [hv, e]) h.pa h3 h1 hs bt
theorem Each.one {X : Cx} {xs : List Ex} {e : Expr} (h : Each C X xs [e]) : ∃ x, xs = [x] ∧ notStar e = true ∧ EOk C X x e := by
  cases xs with
  | nil => exact h.elim
  | cons x xs => cases xs with
    | nil => exact ⟨x, rfl, h.1.1, h.1.2⟩
    | cons _ _ => exact h.2.elim
theorem Each.two {X : Cx} {xs : List Ex} {e e2 : Expr} (h : Each C X xs [e, e2]) : ∃ x y, xs = [x, y] ∧ (notStar e = true ∧ EOk C X x e) ∧ (notStar e2 = true ∧ EOk C X y e2) := by
  cases xs with
  | nil => exact h.elim
  | cons x xs =>
    obtain ⟨y, rfl, h1, h2⟩ := Each.one h.2
    exact ⟨x, y, rfl, h.1, h1, h2⟩
theorem list1 {α : Type} {l : List α} (h : Nat.beq l.length 1 = true) : ∃ a, l = [a] := by
  have := Nat.eq_of_beq_eq_true h
  match l, this with
  | [a], _ => exact ⟨a, rfl⟩
theorem list2 {α : Type} {l : List α} (h : Nat.beq l.length 2 = true) : ∃ a b, l = [a, b] := by
  have := Nat.eq_of_beq_eq_true h
  match l, this with
  | [a, b], _ => exact ⟨a, b, rfl⟩
theorem list3 {α : Type} {l : List α} (h : Nat.beq l.length 3 = true) : ∃ a b d, l = [a, b, d] := by
  have := Nat.eq_of_beq_eq_true h
  match l, this with
  | [a, b, d], _ => exact ⟨a, b, d, rfl⟩
theorem list12 {α : Type} {l : List α} (h : Nat.ble l.length 2 = true) (h1 : Nat.ble 1 l.length = true) : (∃ a, l = [a]) ∨ ∃ a b, l = [a, b] := by
  rw [Nat.ble_eq] at h h1
  match l, h, h1 with
  | [a], _, _ => exact .inl ⟨a, rfl⟩
  | [a, b], _, _ => exact .inr ⟨a, b, rfl⟩
theorem biA_ok {c : CC} {X : Cx} (f : Fit C k c X) {b : Bi} {m : Bool} {e : Expr} {es : List Expr} {args : List Ex} (h : biA c b e = some es) (he : Each C X args es) : PE X e (tE X.K (kBi b m (evEs C args))) ∧ ∀ env whole, isTrue e env whole = (do let v ← whole; standAt e.pos; holding [v] (truthy v)) := by
  unfold biA at h
  split at h
  · rename_i x p es0 pos
    refine ⟨?_, fun _ _ => rfl⟩
    have rg : ∀ {es0 es : List Expr} {nm : Str} {p pos : Pos}, rgA c x nm es0 = some es → Each C X args es → ∃ r q as, x = nm ∧ es0 = [.Call (.Name "range" r) es [] q] ∧ Fit C k c X ∧ glC c nm = true ∧ blC c nm = true ∧ glC c "range" = true ∧ blC c "range" = true ∧ as = es ∧ ((∃ a, es = [a]) ∨ ∃ a b, es = [a, b]) := fun {es0 es nm p pos} h he => by
      unfold rgA at h
      split at h
      · obtain ⟨hh, rfl⟩ := gd_some h
        simp only [Bool.and_eq_true, decide_eq_true_eq] at hh
        obtain ⟨⟨⟨⟨⟨⟨⟨rfl, rfl⟩, h3⟩, h4⟩, h5⟩, h6⟩, h7⟩, h8⟩ := hh
        exact ⟨_, _, _, rfl, rfl, f, h3, h4, h5, h6, rfl, list12 h7 h8⟩
      · cases h
    cases b with
    | listRg =>
      obtain ⟨r, q, as, rfl, rfl, _, h3, h4, h5, h6, rfl, h7⟩ := rg (p := p) (pos := pos) h he
      rcases h7 with ⟨a, rfl⟩ | ⟨a, a2, rfl⟩
      · obtain ⟨x, rfl, n1, o1⟩ := he.one
        exact pE_listRg1 m f.calm (f.gl h3) (f.mg h4) (f.gl h5) (f.mg h6) o1.pe (star_cons n1)
      · obtain ⟨x, y, rfl, ⟨n1, o1⟩, n2, o2⟩ := he.two
        exact pE_listRg2 m f.calm (f.gl h3) (f.mg h4) (f.gl h5) (f.mg h6) o1.pe o2.pe (star_cons n1) (star_cons n2)
    | tupRg =>
      obtain ⟨r, q, as, rfl, rfl, _, h3, h4, h5, h6, rfl, h7⟩ := rg (p := p) (pos := pos) h he
      rcases h7 with ⟨a, rfl⟩ | ⟨a, a2, rfl⟩
      · obtain ⟨x, rfl, n1, o1⟩ := he.one
        exact pE_tupRg1 m f.calm (f.gl h3) (f.mg h4) (f.gl h5) (f.mg h6) o1.pe (star_cons n1)
      · obtain ⟨x, y, rfl, ⟨n1, o1⟩, n2, o2⟩ := he.two
        exact pE_tupRg2 m f.calm (f.gl h3) (f.mg h4) (f.gl h5) (f.mg h6) o1.pe o2.pe (star_cons n1) (star_cons n2)
    | isinst t =>
      have h : isiA c x t es0 = some es := h
      unfold isiA at h
      split at h
      · obtain ⟨hh, rfl⟩ := gd_some h
        simp only [Bool.and_eq_true, decide_eq_true_eq, Bool.not_eq_true', decide_eq_false_iff_not] at hh
        obtain ⟨⟨⟨⟨⟨⟨rfl, h3⟩, h4⟩, rfl⟩, h5⟩, h6⟩, h7⟩ := hh
        obtain ⟨x, rfl, n1, o1⟩ := he.one
        obtain ⟨hv, hn⟩ := boot_ty t h7
        obtain ⟨q1, q2, q3⟩ := okN_1 hn
        exact pE_isi t m (f.gl h3) (f.mg h4) (f.gl h5) (f.mg h6) hv q3 q1 o1.pe (star_cons n1)
      · cases h
    | gcd =>
      have h : gcdA c x es0 = some es := h
      obtain ⟨hh, rfl⟩ := gd_some h
      simp only [Bool.and_eq_true, decide_eq_true_eq, Nat.ble_eq] at hh
      obtain ⟨⟨⟨rfl, h2⟩, h3⟩, h4⟩ := hh
      cases es0 with
      | nil => simp at h4
      | cons a es =>
        cases args with
        | nil => exact he.elim
        | cons x args => exact pE_biFun .gcd m f.calm rfl (f.gl h3) (f.gc h2) he.pa (by decide +kernel) (star_cons he.1.1) (Each.bt he.2)
    | _ =>
      obtain ⟨hh, rfl⟩ := gd_some h
      simp only [Bool.and_eq_true, decide_eq_true_eq, Nat.ble_eq] at hh
      obtain ⟨⟨⟨⟨h0, rfl⟩, h2⟩, h3⟩, h4⟩ := hh
      exact bi_plain f _ m h0 h2 h3 h4 he
  · cases h
/-- a source -/
theorem srcA_ok {c : CC} {X : Cx} (f : Fit C k c X) {sk : SK} {tg iter : Expr} {es : List Expr} {src : List Ex} (h : srcA c sk tg iter = some es) (he : Each C X src es) : PI X tg iter (tSrc X.K sk (evEs C src)) := by
  unfold srcA at h
  have sr : ∀ {x nm : Str} {n : Nat} {tp : Bool} {es0 : List Expr}, srG c x nm n tp tg es0 = some es → x = nm ∧ es0 = es ∧ glC c nm = true ∧ blC c nm = true ∧ Nat.beq es.length n = true ∧ (tp = true → isTupE tg = true) := fun {x nm n tp es0} h => by
    obtain ⟨hh, rfl⟩ := gd_some h
    simp only [Bool.and_eq_true, decide_eq_true_eq, Bool.or_eq_true, Bool.not_eq_true'] at hh
    obtain ⟨⟨⟨⟨h1, h2⟩, h3⟩, h4⟩, h5⟩ := hh
    exact ⟨h1, rfl, h2, h3, h4, fun z => h5.resolve_left (by rw [z]; exact Bool.noConfusion)⟩
  cases sk with
  | vl =>
    obtain ⟨h1, rfl⟩ := gd_some h
    obtain ⟨x, rfl, n1, o1⟩ := he.one
    exact pI_vl o1.pe
  | rg1 =>
    dsimp only at h
    split at h
    · obtain ⟨rfl, rfl, h3, h4, h5, _⟩ := sr h
      obtain ⟨a, rfl⟩ := list1 h5
      obtain ⟨x, rfl, n1, o1⟩ := he.one
      exact pI_rg1 (f.gl h3) (f.mg h4) he.pa (star_cons n1)
    · cases h
  | rg2 =>
    dsimp only at h
    split at h
    · obtain ⟨rfl, rfl, h3, h4, h5, _⟩ := sr h
      obtain ⟨a, b, rfl⟩ := list2 h5
      obtain ⟨x, y, rfl, ⟨n1, o1⟩, n2, o2⟩ := he.two
      exact pI_rg2 (f.gl h3) (f.mg h4) he.pa (star_cons n1) (star_cons n2)
    · cases h
  | en =>
    dsimp only at h
    split at h
    · obtain ⟨rfl, rfl, h3, h4, h5, h6⟩ := sr h
      have h6 := h6 rfl
      obtain ⟨a, rfl⟩ := list1 h5
      obtain ⟨x, rfl, n1, o1⟩ := he.one
      cases tg with
      | Tuple elts kk tpos => exact pI_en (f.gl h3) (f.mg h4) he.pa (star_cons n1)
      | _ => cases h6
    · cases h
  | zp =>
    dsimp only at h
    split at h
    · obtain ⟨rfl, rfl, h3, h4, h5, h6⟩ := sr h
      have h6 := h6 rfl
      obtain ⟨a, b, rfl⟩ := list2 h5
      obtain ⟨x, y, rfl, ⟨n1, o1⟩, n2, o2⟩ := he.two
      cases tg with
      | Tuple elts kk tpos => exact pI_zp (f.gl h3) (f.mg h4) he.pa (star_cons n1) (star_cons n2)
      | _ => cases h6
    · cases h
  | zp3 =>
    dsimp only at h
    split at h
    · obtain ⟨rfl, rfl, h3, h4, h5, h6⟩ := sr h
      have h6 := h6 rfl
      obtain ⟨a, b, d, rfl⟩ := list3 h5
      cases src with
      | nil => exact he.elim
      | cons x src =>
      obtain ⟨y, z, rfl, ⟨n2, o2⟩, n3, o3⟩ := Each.two he.2
      cases tg with
      | Tuple elts kk tpos => exact pI_zp3 (f.gl h3) (f.mg h4) he.pa (star_cons he.1.1) (star_cons n2) (star_cons n3)
      | _ => cases h6
    · cases h
  | enzp =>
    dsimp only at h
    split at h <;> cases h
/-- a comprehension's parts -/
structure LcOk (C : Ctx) (X : Cx) (own : List Nat) (t : Tn) (sk : SK) (src ifs : List Ex) (x : Ex) (elt tg iter : Expr) (ifs' : List Expr) (scope : Scope) : Prop where
  blk : BlkOk X.N X.env.scope scope (ownP X.N own)
  owne : (ownP X.N own).map (·.2) = own
  sub : ∀ i, i ∈ t.names → i ∈ own
  src : PI X tg iter (tSrc X.K sk (evEs C src))
  tg : ∀ (s : Shared) (H : Hp) (Ca : Addr) (cl : List (Str × Addr)) (fp : List Addr), PG (X.blk s H scope (compEnvC scope cl Ca X.env) fp) tg (tG X.K t)
  ifs : ∀ (s : Shared) (H : Hp) (Ca : Addr) (cl : List (Str × Addr)) (fp : List Addr), PTs (X.blk s H scope (compEnvC scope cl Ca X.env) fp) ifs' (tT X.K (evT C ifs))
  elt : ∀ (s : Shared) (H : Hp) (Ca : Addr) (cl : List (Str × Addr)) (fp : List Addr), PE (X.blk s H scope (compEnvC scope cl Ca X.env) fp) elt (tE X.K (evE C x))
  ns : notSet iter = true
theorem LcOk.pe {X : Cx} {own : List Nat} {t : Tn} {sk : SK} {src ifs : List Ex} {x : Ex} {elt tg iter : Expr} {ifs' : List Expr} {scope : Scope} {pos : Pos} {m : Bool} (h : LcOk C X own t sk src ifs x elt tg iter ifs' scope) (hc : X.calm = true) (hN : X.N.Nodup) :
    PE X (.ListComp elt [⟨tg, iter, ifs', 0⟩] scope pos) (tE X.K (kComp m own t sk (evEs C src) (evT C ifs) (evE C x))) :=
  Ev.PE.imp (pe_lc hc hN h.src h.blk h.tg h.ifs h.elt fun _ => folded_notSet h.ns) fun σ H Q q => by
    rw [h.owne]; exact comp_wp h.sub q
theorem sub2_ok {l own : List Nat} (h : sub2 l own = true) : ∀ i, i ∈ l → i ∈ own := fun i hi => by
  unfold sub2 at h
  rw [List.all_eq_true] at h
  obtain ⟨j, hj, e⟩ := List.any_eq_true.mp (h i hi)
  rw [Nat.eq_of_beq_eq_true e]; exact hj
theorem ownP_snd (N : List Str) (own : List Nat) : (ownP N own).map (·.2) = own := by
  unfold ownP
  rw [List.map_map]
  exact List.map_id _

mutual
theorem sound : ∀ (x : Ex) (c : CC) (e : Expr), chkE c x e = true → ∀ X, Fit C k c X → EOk C X x e
  | .int i, c, e, h, X, f => by
    unfold chkE at h
    split at h
    · rw [decide_eq_true_eq] at h; subst h
      exact .of pE_int (fun _ => rfl) rfl
    · cases h
  | .bl b, c, e, h, X, f => by
    unfold chkE at h
    split at h
    · have := eq_of_beq h; subst this
      exact .of pE_bl (fun _ => rfl) rfl
    · cases h
  | .non, c, e, h, X, f => by
    unfold chkE at h
    split at h
    · exact .of pE_non (fun _ => rfl) rfl
    · cases h
  | .str s, c, e, h, X, f => by
    unfold chkE at h
    split at h
    · rw [decide_eq_true_eq] at h; subst h
      exact .of pE_str (fun _ => rfl) rfl
    · cases h
  | .var i, c, e, h, X, f => by
    unfold chkE at h
    split at h
    · simp only [Bool.and_eq_true, decide_eq_true_eq, nth_eq] at h
      have q := okN_1 h.2
      exact .of (pE_var (by rw [f.N]; exact h.1.1) (f.vis h.1.2) q.1 q.2.1) (fun _ => rfl) rfl
    · cases h
  | .gl g, c, e, h, X, f => by
    unfold chkE at h
    split at h
    · simp only [Bool.and_eq_true, decide_eq_true_eq, nth_eq] at h
      have q := okN_1 h.2
      obtain ⟨v, u, h1, h2, h3⟩ := f.cns g _ h.1.1
      exact .of (pE_glob (f.gl h.1.2) h1 h2 h3 q.1) (fun _ => rfl) rfl
    · cases h
  | .bin o m a b, c, e, h, X, f => by
    unfold chkE at h
    split at h
    · simp only [Bool.and_eq_true, decide_eq_true_eq] at h
      obtain ⟨⟨rfl, ha⟩, hb⟩ := h
      exact .of (pE_bin o m (sound a c _ ha X f).pe (sound b c _ hb X f).pe) (fun _ => rfl) rfl
    · cases h
  | .neg a, c, e, h, X, f => by
    unfold chkE at h
    split at h
    · exact .of (pE_neg (sound a c _ h X f).pe) (fun _ => rfl) rfl
    · cases h
  | .not a, c, e, h, X, f => by
    unfold chkE at h
    split at h
    · have q := sound a c _ h X f
      exact ⟨pE_not q.pe, fun z => pT_not (q.pt z), fun _ z => by cases z⟩
    · cases h
  | .and a r, c, e, h, X, f => by
    unfold chkE at h
    split at h
    · simp only [Bool.and_eq_true] at h
      rename_i a' b' pos
      have q := sound a c _ h.1 X f
      have q2 := sound r c _ h.2 X f
      have pw : tOk (.and a r) = true → PW X (.BoolOp .And [a', b'] pos) (tT X.K (evE C (.and a r))) := fun z => by
        have z : (tOk a && tOk r) = true := z
        rw [Bool.and_eq_true] at z
        exact pW_and (q.pt z.1) (pW_and1 (q2.pt z.2))
      exact ⟨pE_and q.pe (pe_one q2.pe), fun z => (pw z).pt, fun z _ => pw z⟩
    · simp only [Bool.and_eq_true] at h
      rename_i a' b' d' rest pos
      have q := sound a c _ h.1.2 X f
      have q2 := sound r c _ h.2 X f
      have pw : tOk (.and a r) = true → PW X (.BoolOp .And (a' :: b' :: d' :: rest) pos) (tT X.K (evE C (.and a r))) := fun z => by
        have z : (tOk a && tOk r) = true := z
        rw [Bool.and_eq_true] at z
        exact pW_and (q.pt z.1) (q2.pw z.2 rfl)
      exact ⟨pE_and q.pe q2.pe, fun z => (pw z).pt, fun z _ => pw z⟩
    · cases h
  | .or a r, c, e, h, X, f => by
    unfold chkE at h
    split at h
    · simp only [Bool.and_eq_true] at h
      rename_i a' b' pos
      have q := sound a c _ h.1 X f
      have q2 := sound r c _ h.2 X f
      have pw : tOk (.or a r) = true → PW X (.BoolOp .Or [a', b'] pos) (tT X.K (evE C (.or a r))) := fun z => by
        have z : (tOk a && tOk r) = true := z
        rw [Bool.and_eq_true] at z
        exact pW_or (q.pt z.1) (pW_or1 (q2.pt z.2))
      exact ⟨pE_or q.pe (pe_one q2.pe), fun z => (pw z).pt, fun z _ => pw z⟩
    · simp only [Bool.and_eq_true] at h
      rename_i a' b' d' rest pos
      have q := sound a c _ h.1.2 X f
      have q2 := sound r c _ h.2 X f
      have pw : tOk (.or a r) = true → PW X (.BoolOp .Or (a' :: b' :: d' :: rest) pos) (tT X.K (evE C (.or a r))) := fun z => by
        have z : (tOk a && tOk r) = true := z
        rw [Bool.and_eq_true] at z
        exact pW_or (q.pt z.1) (q2.pw z.2 rfl)
      exact ⟨pE_or q.pe q2.pe, fun z => (pw z).pt, fun z _ => pw z⟩
    · cases h
  | .cmp o a b, c, e, h, X, f => by
    unfold chkE at h
    split at h
    · simp only [Bool.and_eq_true, decide_eq_true_eq, Bool.not_eq_true'] at h
      obtain ⟨⟨⟨rfl, ha⟩, hb⟩, hm⟩ := h
      have qa := (sound a c _ ha X f).pe
      have qb := (sound b c _ hb X f).pe
      exact ⟨pE_cmp o f.un qa qb hm, fun _ => pT_cmp o f.un qa qb hm, fun _ z => by cases z⟩
    · cases h
  | .chain o o' a b d, c, e, h, X, f => by
    unfold chkE at h
    split at h
    · simp only [Bool.and_eq_true, decide_eq_true_eq, Bool.not_eq_true'] at h
      obtain ⟨⟨⟨⟨⟨rfl, rfl⟩, ha⟩, hb⟩, hd⟩, hm⟩ := h
      have qa := (sound a c _ ha X f).pe
      have qb := (sound b c _ hb X f).pe
      have qd := (sound d c _ hd X f).pe
      exact ⟨pE_chain o o' f.un qa qb qd hm, fun _ => pT_chain o o' f.un qa qb qd hm, fun _ z => by cases z⟩
    · cases h
  | .ite q a b, c, e, h, X, f => by
    unfold chkE at h
    split at h
    · simp only [Bool.and_eq_true] at h
      obtain ⟨⟨⟨h1, hq⟩, ha⟩, hb⟩ := h
      exact ⟨pE_ite (tT0 := kRet .non) ((sound q c _ hq X f).pt h1) (sound a c _ ha X f).pe (sound b c _ hb X f).pe, fun z => Bool.noConfusion (show false = true from z), fun z => Bool.noConfusion (show false = true from z)⟩
    · cases h
  | .tup xs, c, e, h, X, f => by
    unfold chkE at h
    split at h
    · simp only [Bool.and_eq_true, Nat.ble_eq] at h
      have q := sounds xs c _ h.2 X f
      exact .of (pE_tup q.pa (len_evEs xs) (by rw [q.len]; have := h.1; have e : sizeLine = 2 ^ 24 := rfl; rw [e]; omega)) (fun _ => rfl) rfl
    · cases h
  | .lst m xs, c, e, h, X, f => by
    unfold chkE at h
    split at h
    · simp only [Bool.and_eq_true, Nat.ble_eq] at h
      have q := sounds xs c _ h.2 X f
      exact .of (pE_lst m q.pa (len_evEs xs) (by rw [q.len]; have := h.1; have e : sizeLine = 2 ^ 24 := rfl; rw [e]; omega)) (fun _ => rfl) rfl
    · cases h
  | .ix a b, c, e, h, X, f => by
    unfold chkE at h
    split at h
    · simp only [Bool.and_eq_true] at h
      exact .of (pE_ix (sound a c _ h.1.2 X f).pe (sound b c _ h.2 X f).pe (plain_notSlice h.1.1)) (fun _ => rfl) rfl
    · cases h
  | .slA m a, c, e, h, X, f => by
    unfold chkE at h
    split at h
    · exact .of (pE_slA m (sound a c _ h X f).pe) (fun _ => rfl) rfl
    · cases h
  | .slL m a b, c, e, h, X, f => by
    unfold chkE at h
    split at h
    · simp only [Bool.and_eq_true] at h
      exact .of (pE_slL m (sound a c _ h.1 X f).pe (sound b c _ h.2 X f).pe) (fun _ => rfl) rfl
    · cases h
  | .slH m a b, c, e, h, X, f => by
    unfold chkE at h
    split at h
    · simp only [Bool.and_eq_true] at h
      exact .of (pE_slH m (sound a c _ h.1 X f).pe (sound b c _ h.2 X f).pe) (fun _ => rfl) rfl
    · cases h
  | .slLH m a b d, c, e, h, X, f => by
    unfold chkE at h
    split at h
    · simp only [Bool.and_eq_true] at h
      exact .of (pE_slLH m (sound a c _ h.1.1 X f).pe (sound b c _ h.1.2 X f).pe (sound d c _ h.2 X f).pe) (fun _ => rfl) rfl
    · cases h
  | .rev m a, c, e, h, X, f => by
    unfold chkE at h
    split at h
    · simp only [Bool.and_eq_true, decide_eq_true_eq] at h
      obtain ⟨rfl, h⟩ := h
      exact .of (pE_rev m (sound a c _ h X f).pe) (fun _ => rfl) rfl
    · cases h
  | .call g args, c, e, h, X, f => by
    unfold chkE at h
    split at h
    · simp only [Bool.and_eq_true, decide_eq_true_eq, nth_eq] at h
      obtain ⟨⟨⟨h1, h2⟩, h3⟩, h4⟩ := h
      have q := sounds args c _ h4 X f
      obtain ⟨fa, fd, ps, m1, m2, m3, m4⟩ := f.fns g _ h1
      have n := okN_1 h3
      refine .of ?_ (fun _ => rfl) rfl
      revert q
      rename_i es pos
      intro q
      cases args with
      | nil => cases es with
        | nil => exact pE_call0 m4 f.room (f.gl h2) m1 m2 m3 n.1
        | cons _ _ => exact q.elim
      | cons x args => cases es with
        | nil => exact q.elim
        | cons e es => exact pE_call m4 f.room (f.gl h2) m1 m2 m3 q.pa n.1 (star_cons q.1.1) (Each.bt q.2)
    · cases h
  | .bi b m args, c, e, h, X, f => by
    unfold chkE at h
    split at h
    · rename_i es he
      have q := biA_ok (m := m) f he (sounds args c _ h X f)
      refine ⟨q.1, fun _ => pT_of q.1 (q.2 X.env), fun _ z => ?_⟩
      unfold biA at he
      split at he
      · cases z
      · cases he
    · cases h
  | .mt mk o args, c, e, h, X, f => by
    unfold chkE at h
    split at h
    · simp only [Bool.and_eq_true, decide_eq_true_eq] at h
      obtain ⟨⟨⟨⟨⟨rfl, h2⟩, h3⟩, h4⟩, h5⟩, h6⟩ := h
      have q := (sound o c _ h5 X f).pe
      have qs := sounds args c _ h6 X f
      refine .of ?_ (fun _ => rfl) rfl
      cases mk with
      | append =>
        obtain ⟨a, rfl⟩ := list1 h2
        obtain ⟨x, rfl, n1, o1⟩ := qs.one
        exact pE_append q o1.pe (base_notCall h3) h4 (star_cons n1)
      | extend =>
        obtain ⟨a, rfl⟩ := list1 h2
        obtain ⟨x, rfl, n1, o1⟩ := qs.one
        exact pE_extend q o1.pe (base_notCall h3) h4 (star_cons n1)
      | pop =>
        rename_i es _
        have : es = [] := List.eq_nil_of_length_eq_zero (Nat.eq_of_beq_eq_true h2)
        subst this
        cases args with
        | nil => exact pE_pop q (base_notCall h3) h4
        | cons _ _ => exact qs.elim
      | bits =>
        rename_i es _
        have : es = [] := List.eq_nil_of_length_eq_zero (Nat.eq_of_beq_eq_true h2)
        subst this
        cases args with
        | nil => exact pE_bits q (base_notCall h3) h4
        | cons _ _ => exact qs.elim
    · cases h
  | .comp m own t sk src ifs x, c, e, h, X, f => by
    unfold chkE at h
    split at h
    · simp only [Bool.and_eq_true] at h
      obtain ⟨⟨⟨⟨⟨⟨⟨h1, h2⟩, h3⟩, h4⟩, h5⟩, h6⟩, h7⟩, h8⟩ := h
      rename_i elt tg iter ifs' scope pos
      split at h6
      · rename_i es hes
        have bo := blkOk_by h2
        have lc : LcOk C X own t sk src ifs x elt tg iter ifs' scope := by
          refine ⟨by rw [f.N, f.sc]; exact bo, ownP_snd _ _, sub2_ok h4, srcA_ok f hes (sounds src c _ h6 X f), fun s H Ca cl fp => chkT_ok (f.blk bo.kind s H Ca cl fp) h3, fun s H Ca cl fp => ?_, fun s H Ca cl fp => (sound x _ _ h8 _ (f.blk bo.kind s H Ca cl fp)).pe, h1⟩
          have q := sounds ifs _ _ h7 _ (f.blk bo.kind s H Ca cl fp)
          cases ifs with
          | nil => cases ifs' with
            | nil => exact pTs_nil
            | cons _ _ => exact q.elim
          | cons a r => cases r with
            | nil => cases ifs' with
              | nil => exact q.elim
              | cons b r' => cases r' with
                | nil => exact pTs_one (q.1.2.pt h5)
                | cons _ _ => exact q.2.elim
            | cons _ _ => cases h5
        exact .of (lc.pe f.calm f.nd) (fun _ => rfl) rfl
      · cases h6
    · cases h
theorem sounds : ∀ (xs : List Ex) (c : CC) (es : List Expr), chkEs c xs es = true → ∀ X, Fit C k c X → Each C X xs es
  | [], c, es, h, X, f => by
    unfold chkEs at h
    split at h
    · trivial
    · cases h
  | x :: xs, c, es, h, X, f => by
    unfold chkEs at h
    split at h
    · simp only [Bool.and_eq_true] at h
      exact ⟨⟨h.1.1, sound x c _ h.1.2 X f⟩, sounds xs c _ h.2 X f⟩
    · cases h
end
end
end Ev
/-! Ev: the check is sound: statements -/
namespace Ev
open PySem PySem.Spec
open PyProof.Rows L2

/-! ### exchanged stores -/
/-- none: a form that the model leaves out -/
def swP (sc : Scope) (ts vs : List Expr) : Option (Option (List Str)) :=
  if !(ts.length == 2 || ts.length == 3) || vs.length != ts.length then some none else
  if vs.any (fun | .Starred .. => true | _ => false) then some none else
  let line := (ts.head?.map (·.pos.line)).getD 0
  let names := ts.filterMap fun
    | .Name id pos => if sc.names.lookup id == some .local && pos.line == line then some id else none
    | _ => none
  if names.length != ts.length || names.eraseDups.length != names.length then some none else
  if vs.all (foldedForSure 8) then some none else
  if vs.all (constantsAlone 8) then none else some (some names)
theorem swP_ok {env : PySem.Env} {ts vs : List Expr} {k k' : Nat} {p p' : Pos} {o : Option (List Str)} (hk : env.scope.kind = .function) (h : swP env.scope ts vs = some o) : swappedStores [.Tuple ts k p] (.Tuple vs k' p') env = pure o := by
  have hb : (env.blockKind != .function) = false := by
    unfold Env.blockKind
    rw [hk]; rfl
  unfold swappedStores
  dsimp only
  rw [hb, Bool.or_false]
  unfold swP at h
  split at h
  · rename_i c
    cases h
    exact if_pos c
  · rename_i c
    refine (if_neg c).trans ?_
    split at h
    · rename_i c1
      cases h
      exact if_pos c1
    · rename_i c1
      refine (if_neg c1).trans ?_
      dsimp only at h
      split at h
      · rename_i c2
        cases h
        exact if_pos c2
      · rename_i c2
        refine (if_neg c2).trans ?_
        split at h
        · rename_i c3
          cases h
          exact if_pos c3
        · rename_i c3
          refine (if_neg c3).trans ?_
          split at h
          · cases h
          · rename_i c4
            cases h
            exact (if_neg c4).trans rfl
def nsw (sc : Scope) (tg v : Expr) : Bool := match tg with
  | .Name .. => true
  | .Subscript .. => true
  | .Tuple ts _ _ => (match v with
    | .Tuple vs _ _ => (match swP sc ts vs with | some none => true | _ => false)
    | _ => true)
  | _ => false
theorem nsw_ok {env : PySem.Env} {tg v : Expr} (hk : env.scope.kind = .function) (h : nsw env.scope tg v = true) : swappedStores [tg] v env = pure none := by
  cases tg with
  | Name _ _ => rfl
  | Subscript _ _ _ => rfl
  | Tuple ts k p =>
    cases v with
    | Tuple vs k' p' =>
      have h : (match swP env.scope ts vs with | some none => true | _ => false) = true := h
      split at h
      · rename_i e; exact swP_ok hk e
      · cases h
    | _ => rfl
  | _ => cases h
/-- does name = value exchange the stores -/
def swB (sc : Scope) (tg v : Expr) : Bool := match v with
  | .ListComp _ _ s pos => (match tg with
    | .Name t tp => (sc.names.lookup t == some .local) && tp.line == pos.line && !(s.names.any fun (n, k) => n == t && (k == .local || k == .cell))
    | _ => false)
  | _ => false
def notSD : Expr → Bool
  | .SetComp .. => false
  | .DictComp .. => false
  | _ => true
theorem swB_ok {env : PySem.Env} {tg v : Expr} {line : Nat} (hk : env.scope.kind = .function) (h : notSD v = true) : swapsWith v (some tg) line env = pure (swB env.scope tg v) := by
  have hb : (env.blockKind == .function) = true := by
    unfold Env.blockKind
    rw [hk]; rfl
  cases v <;> first | rfl | (cases h; done) | skip
  cases tg <;> first | rfl | skip
  unfold swapsWith
  dsimp only
  rw [hb]
  rfl
def notCo : Expr → Bool
  | .SetComp .. => false
  | .DictComp .. => false
  | .ListComp .. => false
  | _ => true
theorem drop_ok {env : PySem.Env} {v : Expr} {line : Nat} (h : notCo v = true) : swapsWith v none line env = pure false := by
  cases v <;> first | rfl | (cases h; done)

/-! ### the check -/
mutual
def chkG (c : CC) : Tg → Expr → Bool
  | .nm i, e => match e with
    | .Name x _ => decide (nth c.N i = some x) && locC c x
    | _ => false
  | .tp ts, e => match e with
    | .Tuple es _ _ => chkGs c ts es
    | _ => false
  | .ix o i, e => match e with
    | .Subscript o' i' _ => notSlice i' && chkE c o o' && chkE c i i'
    | _ => false
def chkGs (c : CC) : List Tg → List Expr → Bool
  | [], es => match es with
    | [] => true
    | _ => false
  | t :: ts, es => match es with
    | e :: es => notStar e && chkG c t e && chkGs c ts es
    | _ => false
end
def isNmT : Tg → Bool
  | .nm _ => true
  | _ => false
def isComp : Ex → Bool
  | .comp .. => true
  | _ => false
def ipB : Op2 → Operator → Bool
  | .add, .Add => true
  | .sub, .Sub => true
  | _, _ => false
theorem ipB_ok {o : Op2} {op : Operator} (h : ipB o op = true) : ipO o op := by
  cases o <;> cases op <;> first | trivial | (cases h; done)
def namesE : List Expr → List Str
  | [] => []
  | .Name x _ :: r => x :: namesE r
  | _ :: _ => []
def parC (c : CC) (is : List Nat) (ts vs : List Expr) : Bool :=
  decide (is.map (nth c.N) = (namesE ts).map some) && Nat.beq ts.length is.length && Nat.beq vs.length is.length && (Nat.beq is.length 2 || Nat.beq is.length 3) && decide is.Nodup && (namesE ts).all (fun x => decide (c.sc.names.lookup x = some .local)) &&
    decide (swP c.sc ts vs = some (some (namesE ts)))
mutual
def chkS (c : CC) : Sm → Stmt → Bool
  | .asg t e, s => match s with
    | .Assign [tg] v _ => notSD v && nsw c.sc tg v && chkG c t tg && chkE c e v && (!swB c.sc tg v || (isNmT t && isComp e))
    | _ => false
  | .par is es, s => match s with
    | .Assign [.Tuple ts _ _] (.Tuple vs _ _) _ => parC c is ts vs && chkEs c es vs
    | _ => false
  | .aug i o e, s => match s with
    | .AugAssign (.Name x _) op v _ => decide (nth c.N i = some x) && locC c x && ipB o op && chkE c e v
    | _ => false
  | .augIx o i k e, s => match s with
    | .AugAssign (.Subscript o' i' _) op v _ => notSlice i' && ipB k op && chkE c o o' && chkE c i i' && chkE c e v
    | _ => false
  | .expr e, s => match s with
    | .Expr v _ => notCo v && chkE c e v
    | _ => false
  | .ret e, s => match s with
    | .Return (some v) _ => chkE c e v
    | _ => false
  | .retN, s => match s with
    | .Return none _ => true
    | _ => false
  | .ite q a b, s => match s with
    | .If q' a' b' _ => tOk q && chkE c q q' && chkSs c a a' && chkSs c b b'
    | _ => false
  | .for_ t k src body, s => match s with
    | .For tg iter body' [] _ => notSet iter && chkT c t tg && (match srcA c k tg iter with
       | some es => chkEs c src es
       | none => false) && chkSs c body body'
    | _ => false
  | .while_ q body, s => match s with
    | .While q' body' [] _ => tOk q && chkE c q q' && chkSs c body body'
    | _ => false
  | .pass, s => match s with
    | .Pass _ => true
    | .Expr (.Constant (.str _) _ _) _ => true
    | _ => false
  | .brk, s => match s with
    | .Break _ => true
    | _ => false
  | .cont, s => match s with
    | .Continue _ => true
    | _ => false
  | .never, _ => true
def chkSs (c : CC) : List Sm → List Stmt → Bool
  | [], ss => match ss with
    | [] => true
    | _ => false
  | s :: r, ss => match ss with
    | s' :: r' => chkS c s s' && chkSs c r r'
    | _ => false
end

section
variable {C : Ctx} {k : Nat} {c : CC} {X : Cx}
mutual
theorem chkG_ok (f : Fit C k c X) : ∀ {t : Tg} {e : Expr}, chkG c t e = true → PG X e (tGg X.K (asgG C t))
  | .nm i, e, h => by
    unfold chkG at h
    split at h
    · simp only [Bool.and_eq_true, decide_eq_true_eq, nth_eq] at h
      have := f.loc h.2
      exact pGg_nm f.nd (by rw [f.N]; exact h.1) this.1 this.2
    · cases h
  | .tp ts, e, h => by
    unfold chkG at h
    split at h
    · have q := chkGs_ok f h
      exact pGg_tp f.calm q.1 (fun ds env S P hw => asgGs_len (C := C) (ts := ts) hw) q.2.1 q.2.2
    · cases h
  | .ix o i, e, h => by
    unfold chkG at h
    split at h
    · simp only [Bool.and_eq_true] at h
      refine pGg_ix (sound o c _ h.1.2 X f).pe (sound i c _ h.2 X f).pe fun v => ?_
      rename_i o' i' p
      have hi := h.1.1
      cases i' <;> first | rfl | (cases hi; done)
    · cases h
theorem chkGs_ok (f : Fit C k c X) : ∀ {ts : List Tg} {es : List Expr}, chkGs c ts es = true → PGs X es (tGgs X.K (asgGs C ts)) ∧ (assignEach es X.env).length = ts.length ∧ (assignEach es X.env).findIdx? (·.1) = none
  | [], es, h => by
    unfold chkGs at h
    split at h
    · exact ⟨pGgs_nil, rfl, rfl⟩
    · cases h
  | t :: ts, es, h => by
    unfold chkGs at h
    split at h
    · simp only [Bool.and_eq_true] at h
      have q := chkGs_ok f h.2
      have e1 := asgEach_cons (env := X.env) (es := by assumption) h.1.1
      refine ⟨pGgs_cons (chkG_ok f h.1.2) q.1 (by rw [e1]; rfl), by rw [e1]; simp [q.2.1], ?_⟩
      rw [e1]
      have q2 := q.2.2
      simp only [List.findIdx?_eq_none_iff] at q2 ⊢
      intro x hx
      rcases List.mem_cons.mp hx with rfl | hx
      · rfl
      · exact q2 x hx
    · cases h
end
theorem namesE_2 : ∀ {ts : List Expr}, (namesE ts).length = 2 → ts.length = 2 → ∃ x y px py, ts = [.Name x px, .Name y py] := by
  intro ts h1 h2
  match ts, h2 with
  | [a, b], _ =>
    cases a <;> first | (simp [namesE] at h1; done) | skip
    cases b <;> first | (simp [namesE] at h1; done) | skip
    exact ⟨_, _, _, _, rfl⟩
theorem namesE_3 : ∀ {ts : List Expr}, (namesE ts).length = 3 → ts.length = 3 → ∃ x y z px py pz, ts = [.Name x px, .Name y py, .Name z pz] := by
  intro ts h1 h2
  match ts, h2 with
  | [a, b, d], _ =>
    cases a <;> first | (simp [namesE] at h1; done) | skip
    cases b <;> first | (simp [namesE] at h1; done) | skip
    cases d <;> first | (simp [namesE] at h1; done) | skip
    exact ⟨_, _, _, _, _, _, rfl⟩
theorem par_ok (f : Fit C k c X) {is : List Nat} {ts vs : List Expr} {es : List Ex} {kt k2 : Nat} {pt pt2 pos : Pos} (h : parC c is ts vs = true) (he : Each C X es vs) : PS X (.Assign [.Tuple ts kt pt] (.Tuple vs k2 pt2) pos) (tS X.K (sPar is (evEs C es))) := by
  unfold parC at h
  simp only [Bool.and_eq_true, decide_eq_true_eq, Bool.or_eq_true] at h
  obtain ⟨⟨⟨⟨⟨⟨h1, h2⟩, h3⟩, h4⟩, h5⟩, h6⟩, h7⟩ := h
  have h2 := Nat.eq_of_beq_eq_true h2
  have h3 := Nat.eq_of_beq_eq_true h3
  have hl : (namesE ts).length = is.length := by have := congrArg List.length h1; simpa using this.symm
  have hsw : swappedStores [.Tuple ts kt pt] (.Tuple vs k2 pt2) X.env = pure (some (namesE ts)) := swP_ok (by rw [f.sc]; exact f.kd) (by rw [f.sc]; exact h7)
  rcases h4 with h4 | h4
  · have h4 := Nat.eq_of_beq_eq_true h4
    obtain ⟨x, y, px, py, rfl⟩ := namesE_2 (ts := ts) (by omega) (by omega)
    match is, h4, vs, h3 with
    | [i, j], _, [a, b], _ =>
      simp only [namesE, List.map_cons, List.map_nil, List.cons.injEq, and_true, nth_eq] at h1
      simp only [namesE, List.all_cons, List.all_nil, Bool.and_true, Bool.and_eq_true, decide_eq_true_eq] at h6
      simp at h5
      exact Ev.PS.imp (ps_par f.calm f.nd (by rw [f.N]; exact h1.1) (by rw [f.N]; exact h1.2) h5 (by rw [f.sc]; exact h6.1) (by rw [f.sc]; exact h6.2) he.pa hsw) fun D σ H q => par2_rd q
  · have h4 := Nat.eq_of_beq_eq_true h4
    obtain ⟨x, y, z, px, py, pz, rfl⟩ := namesE_3 (ts := ts) (by omega) (by omega)
    match is, h4, vs, h3 with
    | [i, j, l], _, [a, b, d], _ =>
      simp only [namesE, List.map_cons, List.map_nil, List.cons.injEq, and_true, nth_eq] at h1
      simp only [namesE, List.all_cons, List.all_nil, Bool.and_true, Bool.and_eq_true, decide_eq_true_eq] at h6
      simp at h5
      exact Ev.PS.imp (ps_par3 f.calm f.nd (by rw [f.N]; exact h1.1) (by rw [f.N]; exact h1.2.1) (by rw [f.N]; exact h1.2.2) h5.1.1 h5.1.2 h5.2 (by rw [f.sc]; exact h6.1) (by rw [f.sc]; exact h6.2.1) (by rw [f.sc]; exact h6.2.2) he.pa hsw) fun D σ H q => par3_rd q
theorem setLc_ok (f : Fit C k c X) {t : Tg} {x : Ex} {tg v : Expr} {pos : Pos} (h1 : swB c.sc tg v = true) (h2 : isNmT t = true) (h3 : isComp x = true) (h4 : chkG c t tg = true) (h5 : chkE c x v = true) : PS X (.Assign [tg] v pos) (tS X.K (sAsg (evE C x) (asgG C t))) := by
  cases t with
  | nm i =>
    cases x with
    | comp m own tn sk src ifs x =>
      unfold chkE at h5
      split at h5
      · rename_i elt tgc iter ifs' scope p
        cases tg with
        | Name y py =>
          simp only [Bool.and_eq_true] at h5
          obtain ⟨⟨⟨⟨⟨⟨⟨g1, g2⟩, g3⟩, g4⟩, g5⟩, g6⟩, g7⟩, g8⟩ := h5
          have h4 : (decide (nth c.N i = some y) && locC c y) = true := h4
          simp only [Bool.and_eq_true, decide_eq_true_eq, nth_eq] at h4
          have hl : c.sc.names.lookup y = some .local := by
            have h1 : ((c.sc.names.lookup y == some .local) && py.line == p.line && !(scope.names.any fun (n, k) => n == y && (k == .local || k == .cell))) = true := h1
            simp only [Bool.and_eq_true] at h1
            simpa using h1.1.1
          split at g6
          · rename_i es hes
            have bo := blkOk_by g2
            have hif : ∀ (s : Shared) (H : Hp) (Ca : Addr) (cl : List (Str × Addr)) (fp : List Addr), PTs (X.blk s H scope (compEnvC scope cl Ca X.env) fp) ifs' (tT X.K (evT C ifs)) := fun s H Ca cl fp => by
              have q := sounds ifs _ _ g7 _ (f.blk bo.kind s H Ca cl fp)
              cases ifs with
              | nil => cases ifs' with
                | nil => exact pTs_nil
                | cons _ _ => exact q.elim
              | cons a r => cases r with
                | nil => cases ifs' with
                  | nil => exact q.elim
                  | cons b r' => cases r' with
                    | nil => exact pTs_one (q.1.2.pt g5)
                    | cons _ _ => exact q.2.elim
                | cons _ _ => cases g5
            have hsw : swapsWith (.ListComp elt [⟨tgc, iter, ifs', 0⟩] scope p) (some (.Name y py)) pos.line X.env = pure true := by
              rw [swB_ok (by rw [f.sc]; exact f.kd) rfl, f.sc, h1]
            refine Ev.PS.imp (ps_setLc f.calm f.nd (by rw [f.N]; exact h4.1) (by rw [f.sc]; exact hl) hsw (srcA_ok f hes (sounds src c _ g6 X f)) (own := ownP X.N own) (g := tG X.K tn) (tt := tT X.K (evT C ifs)) (te := tE X.K (evE C x)) (by rw [f.N, f.sc]; exact bo)
              (fun s H Ca cl fp => chkT_ok (f.blk bo.kind s H Ca cl fp) g3) hif (fun s H Ca cl fp => (sound x _ _ g8 _ (f.blk bo.kind s H Ca cl fp)).pe) fun _ => folded_notSet g1) fun D σ H q => ?_
            obtain ⟨env, mu, F, S, he, hg, hw⟩ := q
            rw [ownP_snd]
            refine comp_wp (m := m) (sub2_ok g4) ?_
            refine run1 cl_endS he hg hw fun v H1 mu1 S1 y he1 hg1 r1 e1 hw1 => ?_
            have hw2 := WP.bnd.mp hw1
            unfold asgG Ev.gNm at hw2
            rw [lsK_eq] at hw2
            have hw2 : endS X.K mu1 F H1 D (.nx (env.set i (some y))) S1 := hw2
            exact hw2 _ _ _ (Xt.refl _ _) hg1 (he1.set r1)
          · cases g6
        | _ => cases h1
      · cases h5
    | _ => cases h3
  | _ => cases h2
end
end Ev
/-! Ev: defs -/
namespace Ev
open PySem PySem.Spec
open PyProof.Rows L2

section
variable {C : Ctx} {k : Nat} {c : CC} {X : Cx}
mutual
theorem soundS (f : Fit C k c X) (hp : PassesOwn (model X.prog X.w) X.A X.env X.xe) : ∀ (x : Sm) (s : Stmt), chkS c x s = true → PS X s (tS X.K (evS C x))
  | .asg t e, s, h => by
    unfold chkS at h
    split at h
    · rename_i tg v pos
      simp only [Bool.and_eq_true] at h
      obtain ⟨⟨⟨⟨h1, h2⟩, h3⟩, h4⟩, h5⟩ := h
      cases q : swB c.sc tg v with
      | false =>
        refine pS_asg (sound e c _ h4 X f).pe (chkG_ok f h3) ?_ (nsw_ok (by rw [f.sc]; exact f.kd) (by rw [f.sc]; exact h2)) ?_
        · show swapsWith v (some tg) pos.line X.env = pure false
          rw [swB_ok (by rw [f.sc]; exact f.kd) h1, f.sc, q]
        · have : notStar tg = true := by cases tg <;> first | rfl | (cases h2; done)
          rw [asgEach_cons this]; rfl
      | true =>
        rw [q] at h5
        have h5 : (isNmT t && isComp e) = true := h5
        rw [Bool.and_eq_true] at h5
        exact setLc_ok f q h5.1 h5.2 h3 h4
    · cases h
  | .par is es, s, h => by
    unfold chkS at h
    split at h
    · rw [Bool.and_eq_true] at h
      exact par_ok f h.1 (sounds es c _ h.2 X f)
    · cases h
  | .aug i o e, s, h => by
    unfold chkS at h
    split at h
    · simp only [Bool.and_eq_true, decide_eq_true_eq, nth_eq] at h
      have l := f.loc h.1.1.2
      exact pS_aug f.nd (by rw [f.N]; exact h.1.1.1) l.1 (sound e c _ h.2 X f).pe (ipB_ok h.1.2) l.2
    · cases h
  | .augIx o i q e, s, h => by
    unfold chkS at h
    split at h
    · rename_i o' i' tp op v pos
      simp only [Bool.and_eq_true] at h
      obtain ⟨⟨⟨⟨h1, h2⟩, h3⟩, h4⟩, h5⟩ := h
      refine pS_augIx (sound o c _ h3 X f).pe (sound i c _ h4 X f).pe (sound e c _ h5 X f).pe (ipB_ok h2) fun ov iv new => ?_
      cases i' <;> first | rfl | (cases h1; done)
    · cases h
  | .expr e, s, h => by
    unfold chkS at h
    split at h
    · rw [Bool.and_eq_true] at h
      exact pS_expr (sound e c _ h.2 X f).pe (drop_ok h.1)
    · cases h
  | .ret e, s, h => by
    unfold chkS at h
    split at h
    · exact pS_ret (sound e c _ h X f).pe
    · cases h
  | .retN, s, h => by
    unfold chkS at h
    split at h
    · exact pS_retN
    · cases h
  | .ite q a b, s, h => by
    unfold chkS at h
    split at h
    · simp only [Bool.and_eq_true] at h
      obtain ⟨⟨⟨h1, h2⟩, h3⟩, h4⟩ := h
      exact pS_if ((sound q c _ h2 X f).pt h1) (soundSs f hp a _ h3) (soundSs f hp b _ h4)
    · cases h
  | .for_ t sk src body, s, h => by
    unfold chkS at h
    split at h
    · simp only [Bool.and_eq_true] at h
      obtain ⟨⟨⟨h1, h2⟩, h3⟩, h4⟩ := h
      split at h3
      · rename_i es hes
        exact pS_for hp f.calm (srcA_ok f hes (sounds src c _ h3 X f)) (chkT_ok f h2) (soundSs f hp body _ h4) fun _ => folded_notSet h1
      · cases h3
    · cases h
  | .while_ q body, s, h => by
    unfold chkS at h
    split at h
    · simp only [Bool.and_eq_true] at h
      obtain ⟨⟨h1, h2⟩, h3⟩ := h
      exact pS_while hp ((sound q c _ h2 X f).pt h1) (soundSs f hp body _ h3)
    · cases h
  | .pass, s, h => by
    unfold chkS at h
    split at h
    · exact pS_pass
    · exact pS_doc
    · cases h
  | .brk, s, h => by
    unfold chkS at h
    split at h
    · exact pS_brk
    · cases h
  | .cont, s, h => by
    unfold chkS at h
    split at h
    · exact pS_cont
    · cases h
  | .never, s, h => pS_never
theorem soundSs (f : Fit C k c X) (hp : PassesOwn (model X.prog X.w) X.A X.env X.xe) : ∀ (xs : List Sm) (ss : List Stmt), chkSs c xs ss = true → PSs X ss (tS X.K (evSs C xs))
  | [], ss, h => by
    unfold chkSs at h
    split at h
    · exact pSs_nil
    · cases h
  | x :: xs, ss, h => by
    unfold chkSs at h
    split at h
    · rw [Bool.and_eq_true] at h
      exact pSs_cons (soundS f hp x _ h.1) (soundSs f hp xs _ h.2)
    · cases h
end
end

/-! ### defs: from one level to the next -/
/-- a def's slots and parameters -/
structure FI where
  N : List Str
  st : Stmt
def FI.sc (i : FI) : Scope := defScope i.st
def fnScB (N : List Str) (np : Nat) (sc : Scope) : Bool :=
  (match sc.kind with | .function => true | _ => false) && !sc.isCoroutine && !sc.isGenerator && decide N.Nodup && (N.take np).all (fun x => match sc.names.lookup x with | some .local => true | some .cell => true | _ => false) && sc.names.all (fun y => match y.2 with | .free => false | _ => true) && Nat.ble np N.length
theorem fnSc_ok {N : List Str} {np : Nat} {sc : Scope} (h : fnScB N np sc = true) : FnScope N (N.take np) sc := by
  unfold fnScB at h
  simp only [Bool.and_eq_true, Bool.not_eq_true', decide_eq_true_eq, List.all_eq_true, Nat.ble_eq] at h
  obtain ⟨⟨⟨⟨⟨⟨h1, h2⟩, h3⟩, h4⟩, h5⟩, h6⟩, h7⟩ := h
  refine ⟨?_, h2, h3, h4, by rw [List.length_take, Nat.min_eq_left h7], fun x hx => ?_, fun y hy e => ?_⟩
  · split at h1
    · assumption
    · cases h1
  · have := h5 x hx
    split at this
    · exact .inl (by assumption)
    · exact .inr (by assumption)
    · cases this
  · have := h6 y hy
    rw [e] at this
    cases this
section
variable {P : Program} {w : World} {K : PySem.W.Frag} {mg : Str → Option Value} {base : Heap}
/-- what is known of the module, for the checks -/
structure Glob (K : PySem.W.Frag) (mg : Str → Option Value) (gs : List (Str × Bool)) (bl : List Str) (gcd : Bool) (gv : Nat → Option D) : Prop where
  bl : ∀ x, x ∈ bl → mg x = none
  gc : gcd = true → mg "gcd" = some (.builtin "math.gcd")
  cns : ∀ g x, gs[g]? = some (x, false) → ∃ v u, mg x = some u ∧ RelV v u ∧ ∀ d, gv g = some d → ∀ mu F H, Rp K mu F H v d
def ccOf (gs : List (Str × Bool)) (bl : List Str) (gcd : Bool) (N : List Str) (sc : Scope) : CC := ⟨N, sc, none, gs, bl, gcd⟩
/-- all defs of the table, at one level -/
def AllOk (P : Program) (w : World) (K : PySem.W.Frag) (mg : Str → Option Value) (base : Heap) (gs : List (Str × Bool)) (cl : Nat → List D → M D) (k : Nat) : Prop :=
  ∀ g x, gs[g]? = some (x, true) → ∃ f fd ps, mg x = some (.ref f) ∧ PySem.W.keepIn K (.ref f) = true ∧ Binds K fd ps [] ∧ FnOk P w K mg base CX0 k f fd ps (spF K (cl g))
theorem runF_len {C : Ctx} {f : FDef} {as : List D} {S : Store} {P : D → Store → Prop} (h : WP (runF C f as S) P) : as.length = f.np := by
  unfold runF at h
  split at h
  · rename_i e; exact Nat.eq_of_beq_eq_true e
  · exact h.elim
theorem start_env {K : PySem.W.Frag} {mu F : List Addr} {H : Hp} : ∀ {vs : List V} {ds : List D}, Rps K mu F H vs ds → ∀ (n : Nat), EnvR K mu F H (vs.map some ++ List.replicate n none) (ds.map some ++ List.replicate n none)
  | vs, ds, r, n => by
    refine ⟨by simp [r.length], fun i d h => ?_⟩
    by_cases hi : i < ds.length
    · rw [List.getElem?_append_left (by simpa using hi), List.getElem?_map] at h
      cases e : ds[i]? with
      | none => rw [e] at h; cases h
      | some d' =>
        rw [e] at h
        have h : some (some d') = some (some d) := h
        cases h
        obtain ⟨v, hv, rv⟩ := r.get e
        exact ⟨v, by rw [List.getElem?_append_left (by rw [List.length_map, r.length]; exact hi), List.getElem?_map, hv]; rfl, rv⟩
    · rw [List.getElem?_append_right (by simpa using Nat.le_of_not_lt hi)] at h
      have := List.mem_of_getElem? h
      rw [List.mem_replicate] at this
      cases this.2
/-- one def -/
theorem fn_step {gs : List (Str × Bool)} {bl : List Str} {gcd : Bool} {pr : Prog} {k : Nat} (G : Glob K mg gs bl gcd pr.gv) (A : AllOk P w K mg base gs (callF pr k) k)
    {x qual : Str} {st : Stmt} {f : Addr} {fd : FuncData} {N : List Str} {d : FDef} {g : Nat} (F : Fun K x qual st f fd) (hd : pr.fn[g]? = some (some d)) (hs : fnScB N d.np (defScope st) = true) (hn : Nat.beq N.length d.ns = true)
    (hc : chkSs (ccOf gs bl gcd N (defScope st)) d.body (defBody st) = true) : FnOk P w K mg base CX0 (k + 1) f fd (N.take d.np) (spF K (callF pr (k + 1) g)) := by
  have sc := fnSc_ok hs
  have hn := Nat.eq_of_beq_eq_true hn
  have hnp : d.np ≤ N.length := by
    unfold fnScB at hs
    simp only [Bool.and_eq_true, Nat.ble_eq] at hs
    exact hs.2
  have call : ∀ as S P, WP (callF pr (k + 1) g as S) P → WP (runF ⟨pr.gv, callF pr k, pr.fuel⟩ d as S) P := fun as S P h => by
    unfold callF at h
    rw [nth_eq, hd] at h
    exact h
  refine F.ok sc (fun vs H Q E h => ?_) (fun cdv A0 outer s H vs Q E hr h => ?_)
  · obtain ⟨mu, F', S, ds, hg, r, hw⟩ := h
    rw [r.length, runF_len (call _ _ _ hw), List.length_take, Nat.min_eq_left hnp]
  · obtain ⟨mu, F', S, ds, hg, r, hw⟩ := h
    have hw := call _ _ _ hw
    have hl := runF_len hw
    have fit : Fit ⟨pr.gv, callF pr k, pr.fuel⟩ k (ccOf gs bl gcd N (defScope st)) (cxOf CX0 P w K mg base N qual (defScope st) f cdv A0 outer s H E).nox :=
      ⟨rfl, sc.nd, rfl, sc.kind, fun _ => rfl, rfl, hr, G.bl, G.gc, A, G.cns⟩
    refine ⟨_, soundSs fit PassesOwn.never d.body _ hc, ?_⟩
    unfold runF at hw
    rw [if_pos (by rw [hl]; exact Nat.beq_refl _)] at hw
    refine ⟨ds.map some ++ List.replicate (d.ns - d.np) none, mu, F', S, ?_, hg, (WP.bnd.mp hw).mono fun fl S1 h1 => ?_⟩
    · unfold L2.start
      rw [r.length, hl, hn]
      exact start_env r _
    · cases fl with
      | rt v =>
        have h1 : Po K mu F' H Q v S1 := h1
        exact h1
      | nx env =>
        have h1 : Po K mu F' H Q .non S1 := h1
        exact fun σ' H' mu' e g' _ => h1 .non H' mu' e g' .non
      | bk _ => exact h1.elim
      | ct _ => exact h1.elim
/-- no level: nothing is called -/
theorem fn_zero {pr : Prog} {g : Nat} {f : Addr} {fd : FuncData} {ps : List Str} : FnOk P w K mg base CX0 0 f fd ps (spF K (callF pr 0 g)) :=
  ⟨fun vs H Q E ⟨_, _, _, _, _, _, hw⟩ => hw.elim, fun A outer s H args us vs Q E _ _ _ _ ⟨_, _, _, _, _, _, hw⟩ => hw.elim⟩
end
end Ev
/-! Ev: the module's table; the law's end -/
namespace Ev
open PySem PySem.Spec
open PyProof.Rows L2

section
variable {K : PySem.W.Frag}
def chkF (gs : List (Str × Bool)) (bl : List Str) (gcd : Bool) (N : List Str) (d : FDef) (st : Stmt) : Bool :=
  fnScB N d.np (defScope st) && Nat.beq N.length d.ns && chkSs (ccOf gs bl gcd N (defScope st)) d.body (defBody st)
/-- a def of the table -/
structure Ent (K : PySem.W.Frag) (gs : List (Str × Bool)) (bl : List Str) (gcd : Bool) (x : Str) (d : FDef) (N : List Str) (st : Stmt) (f : Addr) (fd : FuncData) : Prop where
  F : Fun K x x st f fd
  at_ : PySem.W.nsIn K mainGlobals x = some (some (.ref f))
  binds : Binds K fd (N.take d.np) []
  chk : chkF gs bl gcd N d st = true
def EntE (K : PySem.W.Frag) (gs : List (Str × Bool)) (bl : List Str) (gcd : Bool) (x : Str) (o : Option FDef) : Prop := ∃ d N st f fd, o = some d ∧ Ent K gs bl gcd x d N st f fd
theorem ent_mk {gs : List (Str × Bool)} {bl : List Str} {gcd : Bool} {x : Str} {d : FDef} {N ps : List Str} {st : Stmt} {f : Addr} {oc : Value} {od an : Option Addr} {osl : Array (Option Value)} {kV doc pm cdv ct : Value}
    (a : PySem.W.nsIn K mainGlobals x = some (some (.ref f)))
    (l : K.lookup f = some ⟨oc, od, .func (PySem.W.fnOf x x (defArgs st) (defBody st) (defScope st) .none kV doc pm an cdv ct), osl⟩)
    (c : PySem.W.codeIn K cdv x = true) (k : PySem.W.keepIn K (.ref f) = true) (hps : N.take d.np = ps)
    (hb : ∀ (kV doc pm : Value) (an : Option Addr) (cdv ct : Value) (us : List Value), us.length = ps.length → bindArgs (PySem.W.fnOf x x (defArgs st) (defBody st) (defScope st) .none kV doc pm an cdv ct) ⟨us, []⟩ = pure (ps.zip us))
    (chk : chkF gs bl gcd N d st = true) : Ent K gs bl gcd x d N st f (PySem.W.fnOf x x (defArgs st) (defBody st) (defScope st) .none kV doc pm an cdv ct) :=
  ⟨fun_mk l c k, a, by rw [hps]; exact (fun_mk l c k).binds hb, chk⟩
theorem Ent.e {gs : List (Str × Bool)} {bl : List Str} {gcd : Bool} {x : Str} {d : FDef} {N : List Str} {st : Stmt} {f : Addr} {fd : FuncData} (h : Ent K gs bl gcd x d N st f fd) : EntE K gs bl gcd x (some d) := ⟨d, N, st, f, fd, rfl, h⟩
/-- a module's value -/
def CnE (K : PySem.W.Frag) (x : Str) (gv : Option D) : Prop := ∃ v u, PySem.W.nsIn K mainGlobals x = some (some u) ∧ RelV v u ∧ ∀ d, gv = some d → ∀ mu F H, Rp K mu F H v d
theorem cn_int {x : Str} {i : Int} {t : Tok} (h : PySem.W.nsIn K mainGlobals x = some (some (.int i t))) : CnE K x (some (.int i)) := ⟨.int i, _, h, ⟨t, rfl⟩, fun d e mu F H => by cases e; exact .int i⟩
theorem cn_str {x : Str} {i : Str} {t : Tok} (h : PySem.W.nsIn K mainGlobals x = some (some (.str i t))) : CnE K x (some (.str i)) := ⟨.str i, _, h, ⟨t, rfl⟩, fun d e mu F H => by cases e; exact .str i⟩
def TabAll (K : PySem.W.Frag) (gs : List (Str × Bool)) (bl : List Str) (gcd : Bool) : List (Str × Bool) → List (Option FDef) → List (Option D) → Prop
  | [], [], [] => True
  | (x, true) :: r, o :: r', _ :: r'' => EntE K gs bl gcd x o ∧ TabAll K gs bl gcd r r' r''
  | (x, false) :: r, _ :: r', o :: r'' => CnE K x o ∧ TabAll K gs bl gcd r r' r''
  | _, _, _ => False
theorem TabAll.fn {gs : List (Str × Bool)} {bl : List Str} {gcd : Bool} : ∀ {a : List (Str × Bool)} {b : List (Option FDef)} {c : List (Option D)}, TabAll K gs bl gcd a b c → ∀ (g : Nat) (x : Str), a[g]? = some (x, true) → ∃ o, b[g]? = some o ∧ EntE K gs bl gcd x o
  | [], _, _, _, g, x, h => by simp at h
  | (y, true) :: r, [], _, t, _, _, _ => t.elim
  | (y, false) :: r, [], _, t, _, _, _ => t.elim
  | (y, true) :: r, _ :: _, [], t, _, _, _ => t.elim
  | (y, false) :: r, _ :: _, [], t, _, _, _ => t.elim
  | (y, true) :: r, o :: r', _ :: r'', t, 0, x, h => by
    simp at h; subst h; exact ⟨o, rfl, t.1⟩
  | (y, false) :: r, o :: r', _ :: r'', t, 0, x, h => by simp at h
  | (y, true) :: r, o :: r', _ :: r'', t, g + 1, x, h => by
    obtain ⟨o', h1, h2⟩ := TabAll.fn t.2 g x (by simpa using h)
    exact ⟨o', by simpa using h1, h2⟩
  | (y, false) :: r, o :: r', _ :: r'', t, g + 1, x, h => by
    obtain ⟨o', h1, h2⟩ := TabAll.fn t.2 g x (by simpa using h)
    exact ⟨o', by simpa using h1, h2⟩
theorem TabAll.cn {gs : List (Str × Bool)} {bl : List Str} {gcd : Bool} : ∀ {a : List (Str × Bool)} {b : List (Option FDef)} {c : List (Option D)}, TabAll K gs bl gcd a b c → ∀ (g : Nat) (x : Str), a[g]? = some (x, false) → ∃ o, c[g]? = some o ∧ CnE K x o
  | [], _, _, _, g, x, h => by simp at h
  | (y, true) :: r, [], _, t, _, _, _ => t.elim
  | (y, false) :: r, [], _, t, _, _, _ => t.elim
  | (y, true) :: r, _ :: _, [], t, _, _, _ => t.elim
  | (y, false) :: r, _ :: _, [], t, _, _, _ => t.elim
  | (y, true) :: r, o :: r', _ :: r'', t, 0, x, h => by simp at h
  | (y, false) :: r, _ :: r', o :: r'', t, 0, x, h => by
    simp at h; subst h; exact ⟨o, rfl, t.1⟩
  | (y, true) :: r, o :: r', _ :: r'', t, g + 1, x, h => by
    obtain ⟨o', h1, h2⟩ := TabAll.cn t.2 g x (by simpa using h)
    exact ⟨o', by simpa using h1, h2⟩
  | (y, false) :: r, o :: r', _ :: r'', t, g + 1, x, h => by
    obtain ⟨o', h1, h2⟩ := TabAll.cn t.2 g x (by simpa using h)
    exact ⟨o', by simpa using h1, h2⟩
/-- all that the module's top has written -/
structure Tab (K : PySem.W.Frag) (gs : List (Str × Bool)) (bl : List Str) (gcd : Bool) (fns : List (Option FDef)) (gvs : List (Option D)) : Prop where
  all : TabAll K gs bl gcd gs fns gvs
  bl : ∀ x, x ∈ bl → PySem.W.nsIn K mainGlobals x = some none
  gc : gcd = true → PySem.W.nsIn K mainGlobals "gcd" = some (some (.builtin "math.gcd"))
def gvOf (gvs : List (Option D)) (g : Nat) : Option D := match nth gvs g with
  | some o => o
  | none => none
def prOf (fns : List (Option FDef)) (gvs : List (Option D)) (fuel : Nat) : Prog := ⟨gvOf gvs, fns, fuel⟩
section
variable {P : Program} {w : World} {h : Heap} {mg : Str → Option Value} {base : Heap} {gs : List (Str × Bool)} {bl : List Str} {gcd : Bool} {fns : List (Option FDef)} {gvs : List (Option D)} {fuel : Nat}
theorem Tab.glob (T : Tab K gs bl gcd fns gvs) (X : K.In h) (G : h.Ns mainGlobals mg) : Glob K mg gs bl gcd (prOf fns gvs fuel).gv where
  bl := fun x hx => PySem.W.mg_none_of X G (T.bl x hx)
  gc := fun e => PySem.W.mg_of X G (T.gc e)
  cns := fun g x e => by
    obtain ⟨o, h1, v, u, h2, h3, h4⟩ := T.all.cn g x e
    refine ⟨v, u, PySem.W.mg_of X G h2, h3, fun d hd => h4 d ?_⟩
    have : (match nth gvs g with | some o => o | none => none) = some d := hd
    rw [nth_eq, h1] at this
    exact this
theorem Tab.levels (T : Tab K gs bl gcd fns gvs) (X : K.In h) (G : h.Ns mainGlobals mg) : ∀ k, AllOk P w K mg base gs (callF (prOf fns gvs fuel) k) k
  | 0 => fun g x e => by
    obtain ⟨o, h1, d, N, st, f, fd, rfl, E⟩ := T.all.fn g x e
    exact ⟨f, fd, N.take d.np, PySem.W.mg_of X G E.at_, E.F.kp, E.binds, fn_zero⟩
  | k + 1 => fun g x e => by
    obtain ⟨o, h1, d, N, st, f, fd, rfl, E⟩ := T.all.fn g x e
    have hc := E.chk
    unfold chkF at hc
    simp only [Bool.and_eq_true] at hc
    exact ⟨f, fd, N.take d.np, PySem.W.mg_of X G E.at_, E.F.kp, E.binds, fn_step (T.glob X G) (Tab.levels T X G k) E.F h1 hc.1.1 hc.1.2 hc.2⟩
theorem rps_ints (K : PySem.W.Frag) (H : Hp) (ns : List Int) : Rps K [] [] H (ns.map V.int) (ns.map D.int) := Rps.ints ns
/-- the law's call -/
theorem law_sp {cl : List D → M D} {a : Addr} {H : Hp} {ns : List Int} (hO : L2.Only H) (hS : SqL K H a (ns.map V.int)) (hw : WP (cl [.scr (ns.map .int)] []) fun d _ => d = .bl true) : spF K cl [.ref a] H (fun v _ => v = .bl true) E0 := by
  have hs : SqS K H a (ns.map V.int) := by
    rcases hS with (h | ⟨o, h⟩) | h
    · rcases hO a with z | ⟨o, xs, z⟩
      · rw [z] at h; cases h
      · rw [z] at h; cases h
    · exact .inl ⟨o, h⟩
    · exact .inr h
  refine ⟨[], [], [], [.scr (ns.map .int)], ⟨⟨by simp, by simp, by simp, by simp⟩, rfl, fun n c a h _ => by simp at h⟩, .cons (.scr hs (rps_ints K H ns)) .nil, hw.mono fun d S e v H' mu' _ _ r => ?_⟩
  subst e
  cases r
  rfl
/-- the law's def at level k + 1 -/
theorem law_F {k g : Nat} {d : FDef} {N : List Str} {st : Stmt} {fa f : Addr} {fd : FuncData} {x : Str} (T : Tab K gs bl gcd fns gvs) (X : K.In h) (G : h.Ns mainGlobals mg) (hfa : mg "law" = some (.ref fa)) (E : Ent K gs bl gcd "law" d N st f fd) (hg : fns[g]? = some (some d)) (hN : N.take d.np = [x])
    (hb : ∀ (kV doc pm : Value) (an : Option Addr) (cdv ct : Value) (u : Value), bindArgs (PySem.W.fnOf "law" "law" (defArgs st) (defBody st) (defScope st) .none kV doc pm an cdv ct) ⟨[u], []⟩ = pure [(x, u)]) :
    ∃ fd : FuncData, (∀ (s : Shared) (u : Value), BindsTo s fd ⟨[u], []⟩ [(x, u)]) ∧ ∀ base : Heap, K.In base → base.Ns mainGlobals mg → FnOk P w K mg base CX0 (k + 1) fa fd [x] (spF K (callF (prOf fns gvs fuel) (k + 1) g)) := by
  have e := hfa.symm.trans (PySem.W.mg_of X G E.at_)
  cases e
  refine ⟨fd, fun s u => ?_, fun base _ _ => ?_⟩
  · obtain ⟨oc, od, kV, doc, pm, an, cdv, ct, osl, rfl, lk, hcd⟩ := E.F.ex
    exact .of_eq (hb kV doc pm an cdv ct u)
  · have hc := E.chk
    unfold chkF at hc
    simp only [Bool.and_eq_true] at hc
    have := fn_step (P := P) (w := w) (base := base) (pr := prOf fns gvs fuel) (T.glob X G) (Tab.levels T X G k) E.F hg hc.1.1 hc.1.2 hc.2
    rw [hN] at this
    exact this
end
end
end Ev
/-! Ev: running it by rewriting -/
namespace Ev
open PySem PySem.Spec
open PyProof.Rows L2

/-- a mark that keeps rewriting out of f -/
def Tf {α β : Type} (f : α → M β) : Type := Unit
def Tf.mk {α β : Type} {f : α → M β} : Tf f := ()
def Rs.b {α β : Type} (r : Rs α) (f : α → M β) (u : Tf f := Tf.mk) : Rs β := match r with
  | .ok a S => f a S
  | .exc c d S => .exc c d S
  | .no => .no
theorem b_ok {α β : Type} {a : α} {S : Store} {f : α → M β} {u : Tf f} : Rs.b (.ok a S) f u = f a S := rfl
theorem b_assoc {α β γ : Type} {r : Rs α} {f : α → M β} {u : Tf f} {g : β → M γ} {v : Tf g} : Rs.b (Rs.b r f u) g v = Rs.b r fun a S => Rs.b (f a S) g := by
  cases r <;> rfl
theorem b_ext {α β : Type} {r : Rs α} {f g : α → M β} (h : ∀ x S, f x S = g x S) : Rs.b r f = Rs.b r g := by
  have : f = g := by funext x S; exact h x S
  subst this; rfl
theorem bnd_b {α β : Type} {m : M α} {f : α → M β} {S : Store} : bnd m f S = Rs.b (m S) f := by unfold bnd Rs.b; rfl
theorem WP_ok {α : Type} {a : α} {S : Store} {P : α → Store → Prop} : WP (.ok a S) P = P a S := rfl
theorem WP_b {α β : Type} {r : Rs α} {f : α → M β} {u : Tf f} {P : β → Store → Prop} : WP (Rs.b r f u) P = WP r fun a S => WP (f a S) P := by
  cases r <;> rfl
theorem WP_call {α β : Type} {r : Rs α} {f : α → M β} {u : Tf f} {P : β → Store → Prop} {Q : α → Store → Prop} (h : WP r Q) (h2 : ∀ a S, Q a S → WP (f a S) P) : WP (Rs.b r f u) P := by
  cases r with
  | ok a S => exact h2 a S h
  | exc _ _ _ => exact h.elim
  | no => exact h.elim
theorem WP_eq {α : Type} {r : Rs α} {a : α} {S : Store} {P : α → Store → Prop} (h : r = .ok a S) (p : P a S) : WP r P := by rw [h]; exact p
theorem ret_ok {α : Type} {a : α} {S : Store} : ret a S = .ok a S := rfl
section
variable {C : Ctx} {env : Env} {S : Store} {a b c x : Ex} {xs : List Ex} {i : Int}
/-! ### expressions -/
theorem e_int : evE C (.int i) env S = .ok (.int i) S := rfl
theorem e_bl {b : Bool} : evE C (.bl b) env S = .ok (.bl b) S := rfl
theorem e_non : evE C .non env S = .ok .non S := rfl
theorem e_str {s : Str} : evE C (.str s) env S = .ok (.str s) S := rfl
theorem e_var {n : Nat} : evE C (.var n) env S = getV n env S := rfl
theorem getV_0 {d : D} {r : Env} : getV 0 (some d :: r) S = .ok d S := rfl
theorem getV_s {n : Nat} {o : Option D} {r : Env} : getV (n + 1) (o :: r) S = getV n r S := rfl
theorem e_gl {g : Nat} : evE C (.gl g) env S = opt (C.gv g) S := rfl
theorem opt_some {d : D} : opt (some d) S = .ok d S := rfl
theorem e_bin {o : Op2} {m : Bool} : evE C (.bin o m a b) env S = Rs.b (evE C a env S) fun x S => Rs.b (evE C b env S) fun y => doOp o m x y := by
  show bnd _ _ _ = _
  rw [bnd_b]; refine b_ext fun x S => ?_; exact bnd_b
def negD : D → M D
  | .int i => fun S => .ok (.int (-i)) S
  | _ => stk
theorem negD_int : negD (.int i) S = .ok (.int (-i)) S := rfl
theorem e_neg : evE C (.neg a) env S = Rs.b (evE C a env S) fun x => negD x := by
  show bnd _ _ _ = _
  rw [bnd_b]; refine b_ext fun x S => ?_; cases x <;> simp [negD]
def notD : D → M D
  | .bl i => fun S => .ok (.bl (!i)) S
  | _ => stk
theorem notD_bl {b : Bool} : notD (.bl b) S = .ok (.bl (!b)) S := rfl
theorem e_not : evE C (.not a) env S = Rs.b (evE C a env S) fun x => notD x := by
  show bnd _ _ _ = _
  rw [bnd_b]; refine b_ext fun x S => ?_; cases x <;> rfl
theorem tst_t {x y : M D} : tst (.bl true) x y = x := rfl
theorem tst_f {x y : M D} : tst (.bl false) x y = y := rfl
/-- a choice on a value that was told -/
def ifD {α : Type} (d : D) (x y : M α) : M α := match d with
  | .bl true => x
  | .bl false => y
  | _ => stk
theorem ifD_bl {α : Type} {b : Bool} {x y : M α} : ifD (.bl b) x y S = if b = true then x S else y S := by cases b <;> rfl
theorem ifD_t {α : Type} {x y : M α} : ifD (.bl true) x y S = x S := rfl
theorem ifD_f {α : Type} {x y : M α} : ifD (.bl false) x y S = y S := rfl
theorem tst_if {d : D} {x y : M D} : tst d x y = ifD d x y := by
  cases d <;> first | rfl | skip
def bolD : D → M D
  | .bl i => fun S => .ok (.bl i) S
  | _ => stk
theorem bolD_bl {b : Bool} : bolD (.bl b) S = .ok (.bl b) S := rfl
theorem bnd_boolR {m : M D} : bnd m boolR S = Rs.b (m S) fun x => bolD x := by
  rw [bnd_b]; refine b_ext fun x S => ?_; cases x <;> rfl
def bE (m : EM D) : EM D := fun env => bnd (m env) boolR
theorem bE_app {m : EM D} : bE m env S = Rs.b (m env S) fun x => bolD x := bnd_boolR
def okM {α : Type} (a : α) : M α := fun S => .ok a S
theorem okM_app {α : Type} {a : α} : okM a S = .ok a S := rfl
theorem e_and : evE C (.and a b) env S = Rs.b (evE C a env S) fun x => ifD x (bE (evE C b) env) (okM (.bl false)) := by
  show bnd _ _ _ = _
  rw [bnd_b]; refine b_ext fun x S => ?_
  rw [tst_if]; rfl
theorem e_or : evE C (.or a b) env S = Rs.b (evE C a env S) fun x => ifD x (okM (.bl true)) (bE (evE C b) env) := by
  show bnd _ _ _ = _
  rw [bnd_b]; refine b_ext fun x S => ?_
  rw [tst_if]; rfl
theorem e_cmp {o : Cm} : evE C (.cmp o a b) env S = Rs.b (evE C a env S) fun x S => Rs.b (evE C b env S) fun y => doCmp o x y := by
  show bnd _ _ _ = _
  rw [bnd_b]; refine b_ext fun x S => ?_; exact bnd_b
def chE (c : EM D) (o : Cm) (y : D) : EM D := fun env => bnd (c env) fun z => doCmp o y z
theorem chE_app {m : EM D} {o : Cm} {y : D} : chE m o y env S = Rs.b (m env S) fun z => doCmp o y z := bnd_b
theorem e_chain {o o' : Cm} : evE C (.chain o o' a b c) env S = Rs.b (evE C a env S) fun x S => Rs.b (evE C b env S) fun y S => Rs.b (doCmp o x y S) fun r => ifD r (chE (evE C c) o' y env) (okM (.bl false)) := by
  show bnd _ _ _ = _
  rw [bnd_b]; refine b_ext fun x S => ?_
  rw [bnd_b]; refine b_ext fun y S => ?_
  rw [bnd_b]; refine b_ext fun r S => ?_
  rw [tst_if]; rfl
theorem e_ite : evE C (.ite c a b) env S = Rs.b (evE C c env S) fun x => ifD x (evE C a env) (evE C b env) := by
  show bnd _ _ _ = _
  rw [bnd_b]; refine b_ext fun x S => ?_
  rw [tst_if]
theorem e_tup : evE C (.tup xs) env S = Rs.b (evEs C xs env S) fun ds S => .ok (.tup ds) S := by
  show bnd _ _ _ = _
  rw [bnd_b]; rfl
theorem e_lst {m : Bool} : evE C (.lst m xs) env S = Rs.b (evEs C xs env S) fun ds => mkL m ds := by
  show bnd _ _ _ = _
  rw [bnd_b]
theorem e_ix : evE C (.ix a b) env S = Rs.b (evE C a env S) fun x S => Rs.b (evE C b env S) fun y => doIx x y := by
  show bnd _ _ _ = _
  rw [bnd_b]; refine b_ext fun x S => ?_; exact bnd_b
theorem e_rev {m : Bool} : evE C (.rev m a) env S = Rs.b (evE C a env S) fun x => doRev m x := by
  show bnd _ _ _ = _
  rw [bnd_b]
theorem e_slA {m : Bool} : evE C (.slA m a) env S = Rs.b (evE C a env S) fun x => doSl m x none none := by
  show bnd _ _ _ = _
  rw [bnd_b]
def sl1 (m hi : Bool) (x : D) : D → M D
  | .int i => if hi then doSl m x none (some i) else doSl m x (some i) none
  | _ => stk
theorem sl1_L {m : Bool} {x : D} : sl1 m false x (.int i) S = doSl m x (some i) none S := rfl
theorem sl1_H {m : Bool} {x : D} : sl1 m true x (.int i) S = doSl m x none (some i) S := rfl
theorem e_slL {m : Bool} : evE C (.slL m a b) env S = Rs.b (evE C a env S) fun x S => Rs.b (evE C b env S) fun y => sl1 m false x y := by
  show bnd _ _ _ = _
  rw [bnd_b]; refine b_ext fun x S => ?_; rw [bnd_b]; refine b_ext fun y S => ?_; cases y <;> rfl
theorem e_slH {m : Bool} : evE C (.slH m a b) env S = Rs.b (evE C a env S) fun x S => Rs.b (evE C b env S) fun y => sl1 m true x y := by
  show bnd _ _ _ = _
  rw [bnd_b]; refine b_ext fun x S => ?_; rw [bnd_b]; refine b_ext fun y S => ?_; cases y <;> rfl
def sl2 (m : Bool) (x : D) : D → D → M D
  | .int i, .int j => doSl m x (some i) (some j)
  | _, _ => stk
theorem sl2_LH {m : Bool} {x : D} {j : Int} : sl2 m x (.int i) (.int j) S = doSl m x (some i) (some j) S := rfl
theorem e_slLH {m : Bool} : evE C (.slLH m a b c) env S = Rs.b (evE C a env S) fun x S => Rs.b (evE C b env S) fun y S => Rs.b (evE C c env S) fun z => sl2 m x y z := by
  show bnd _ _ _ = _
  rw [bnd_b]; refine b_ext fun x S => ?_; rw [bnd_b]; refine b_ext fun y S => ?_; rw [bnd_b]; refine b_ext fun z S => ?_; cases y <;> cases z <;> rfl
theorem e_call {g : Nat} : evE C (.call g xs) env S = Rs.b (evEs C xs env S) fun ds => C.cl g ds := by
  show bnd _ _ _ = _
  rw [bnd_b]
theorem e_bi {k : Bi} {m : Bool} : evE C (.bi k m xs) env S = Rs.b (evEs C xs env S) fun ds => doBi k m ds := by
  show bnd _ _ _ = _
  rw [bnd_b]
theorem e_mt {k : Mt} : evE C (.mt k a xs) env S = Rs.b (evE C a env S) fun o S => Rs.b (evEs C xs env S) fun ds => doMt k o ds := by
  show bnd _ _ _ = _
  rw [bnd_b]; refine b_ext fun x S => ?_; exact bnd_b
def compD (m : Bool) (o : Option (List D × Deps)) (f : D → M (Option D)) : M D := fun S => match o with
  | some (xs, dp) => guard (Nat.ble xs.length LIM) (bnd (compL dp f xs []) fun ys => mkL m ys) S
  | none => .no
theorem e_comp {m : Bool} {own : List Nat} {t : Tn} {k : SK} {ifs : List Ex} : evE C (.comp m own t k xs ifs x) env S = Rs.b (evEs C xs env S) fun ds S => compD m (srcOf k ds S) (turn t (evT C ifs) (evE C x) (wipeD env own)) S := by
  show bnd _ _ _ = _
  rw [bnd_b]; refine b_ext fun ds S => ?_
  unfold compD
  cases srcOf k ds S with
  | none => rfl
  | some p =>
    obtain ⟨xs, dp⟩ := p
    rfl
theorem es_nil : evEs C [] env S = .ok [] S := rfl
theorem es_cons : evEs C (x :: xs) env S = Rs.b (evE C x env S) fun d S => Rs.b (evEs C xs env S) fun ds S => .ok (d :: ds) S := by
  show bnd _ _ _ = _
  rw [bnd_b]; refine b_ext fun d S => ?_; rw [bnd_b]; rfl
/-! ### statements -/
theorem s_nm {n : Nat} : evS C (.asg (.nm n) x) env S = Rs.b (evE C x env S) fun d S => .ok (.nx (env.set n (some d))) S := by
  show bnd _ _ _ = _
  rw [bnd_b]; refine b_ext fun d S => ?_
  show bnd (gNm n d env) _ S = _
  rw [bnd_b]; unfold gNm; rw [lsK_eq]; rfl
theorem s_asg {t : Tg} : evS C (.asg t x) env S = Rs.b (evE C x env S) fun d S => Rs.b (asgG C t d env S) fun e S => .ok (.nx e) S := by
  show bnd _ _ _ = _
  rw [bnd_b]; refine b_ext fun d S => ?_
  rw [bnd_b]; rfl
theorem g_nm {n : Nat} {d : D} : asgG C (.nm n) d env S = .ok (env.set n (some d)) S := by
  show gNm n d env S = _
  unfold gNm; rw [lsK_eq]; rfl
theorem g_tp {ts : List Tg} {ds : List D} : asgG C (.tp ts) (.tup ds) env S = asgGs C ts ds env S := rfl
theorem g_ix {d : D} : asgG C (.ix a b) d env S = Rs.b (evE C a env S) fun x S => Rs.b (evE C b env S) fun y S => Rs.b (setIx x y d S) fun _ S => .ok env S := by
  show bnd _ _ _ = _
  rw [bnd_b]; refine b_ext fun x S => ?_; rw [bnd_b]; refine b_ext fun y S => ?_; rw [bnd_b]; rfl
theorem gs_nil : asgGs C [] [] env S = .ok env S := rfl
theorem gs_cons {t : Tg} {ts : List Tg} {d : D} {ds : List D} : asgGs C (t :: ts) (d :: ds) env S = Rs.b (asgG C t d env S) fun e => asgGs C ts ds e := by
  show bnd _ _ _ = _
  rw [bnd_b]
def parD (is : List Nat) (ds : List D) (env : Env) : M Fl := fun S => match parE is ds env with
  | some env' => .ok (.nx env') S
  | none => .no
theorem par2 {n m : Nat} {d e : D} : parD [n, m] [d, e] env S = .ok (.nx ((env.set n (some d)).set m (some e))) S := by simp [parD, parE]
theorem par3 {n m l : Nat} {d e f : D} : parD [n, m, l] [d, e, f] env S = .ok (.nx (((env.set n (some d)).set m (some e)).set l (some f))) S := by simp [parD, parE]
theorem s_par {is : List Nat} : evS C (.par is xs) env S = Rs.b (evEs C xs env S) fun ds => parD is ds env := by
  show bnd _ _ _ = _
  rw [bnd_b]; refine b_ext fun ds S => ?_
  unfold parD
  cases parE is ds env <;> rfl
def augD (n : Nat) (o : Op2) (x y : D) (env : Env) : M Fl := fun S => match x, y, op2 S o x y with
    | .int _, .int _, some z => .ok (.nx (env.set n (some z))) S
    | _, _, _ => .no
theorem augD_add {n : Nat} {i j : Int} : augD n .add (.int i) (.int j) env S = .ok (.nx (env.set n (some (.int (i + j))))) S := by simp [augD, op2]
theorem augD_sub {n : Nat} {i j : Int} : augD n .sub (.int i) (.int j) env S = .ok (.nx (env.set n (some (.int (i - j))))) S := by simp [augD, op2]
theorem s_aug {n : Nat} {o : Op2} : evS C (.aug n o x) env S = Rs.b (getV n env S) fun u S => Rs.b (evE C x env S) fun v => augD n o u v env := by
  show bnd _ _ _ = _
  rw [bnd_b]; refine b_ext fun u S => ?_; rw [bnd_b]; refine b_ext fun v S => ?_
  unfold augD
  split <;> simp_all
def augX (x y : D) (op : Op2) (u v : D) (env : Env) : M Fl := fun S => match u, v, op2 S op u v with
    | .int _, .int _, some z => Rs.b (setIx x y z S) fun _ S => .ok (.nx env) S
    | _, _, _ => .no
theorem augX_add {x y : D} {i j : Int} : augX x y .add (.int i) (.int j) env S = Rs.b (setIx x y (.int (i + j)) S) fun _ S => .ok (.nx env) S := by simp [augX, op2]
theorem augX_sub {x y : D} {i j : Int} : augX x y .sub (.int i) (.int j) env S = Rs.b (setIx x y (.int (i - j)) S) fun _ S => .ok (.nx env) S := by simp [augX, op2]
theorem s_augIx {o : Op2} : evS C (.augIx a b o x) env S = Rs.b (evE C a env S) fun p S => Rs.b (evE C b env S) fun q S => Rs.b (doIx p q S) fun u S => Rs.b (evE C x env S) fun v => augX p q o u v env := by
  show bnd _ _ _ = _
  rw [bnd_b]; refine b_ext fun p S => ?_; rw [bnd_b]; refine b_ext fun q S => ?_; rw [bnd_b]; refine b_ext fun u S => ?_; rw [bnd_b]; refine b_ext fun v S => ?_
  unfold augX
  split
  · rename_i z h; first | (simp only [h]; rw [bnd_b]; rfl) | (rw [bnd_b]; rfl)
  · rename_i h
    first
      | rfl
      | (split
         · rename_i z h2; exact absurd h2 (h _ _ _ rfl rfl)
         · rfl)
theorem s_expr : evS C (.expr x) env S = Rs.b (evE C x env S) fun _ S => .ok (.nx env) S := by
  show bnd _ _ _ = _
  rw [bnd_b]; rfl
theorem s_ret : evS C (.ret x) env S = Rs.b (evE C x env S) fun d S => .ok (.rt d) S := by
  show bnd _ _ _ = _
  rw [bnd_b]; rfl
theorem s_retN : evS C .retN env S = .ok (.rt .non) S := rfl
theorem s_pass : evS C .pass env S = .ok (.nx env) S := rfl
theorem s_brk : evS C .brk env S = .ok (.bk env) S := rfl
theorem s_cont : evS C .cont env S = .ok (.ct env) S := rfl
theorem s_ite {p q : List Sm} : evS C (.ite c p q) env S = Rs.b (evE C c env S) fun x => ifD x (evSs C p env) (evSs C q env) := by
  show bnd _ _ _ = _
  rw [bnd_b]; refine b_ext fun x S => ?_
  unfold ifD
  cases x <;> first | rfl | skip
def forD (o : Option (List D × Deps)) (f : D → EM Fl) (env : Env) : M Fl := fun S => match o with
  | some (xs, dp) => forL dp f xs env S
  | none => .no
theorem s_for {t : Tn} {k : SK} {body : List Sm} : evS C (.for_ t k xs body) env S = Rs.b (evEs C xs env S) fun ds S => forD (srcOf k ds S) (fTurn t (evSs C body)) env S := by
  show bnd _ _ _ = _
  rw [bnd_b]; refine b_ext fun ds S => ?_
  unfold forD
  cases srcOf k ds S <;> rfl
theorem s_while {body : List Sm} : evS C (.while_ c body) env S = whileL (evE C c) (evSs C body) (envFuel env) env S := rfl
def seqF (f : Fl) (k : EM Fl) : M Fl := match f with
  | .nx env' => k env'
  | f => fun S => .ok f S
theorem seqF_nx {e : Env} {k : EM Fl} : seqF (.nx e) k S = k e S := rfl
theorem seqF_rt {d : D} {k : EM Fl} : seqF (.rt d) k S = .ok (.rt d) S := rfl
theorem seqF_bk {d : Env} {k : EM Fl} : seqF (.bk d) k S = .ok (.bk d) S := rfl
theorem seqF_ct {d : Env} {k : EM Fl} : seqF (.ct d) k S = .ok (.ct d) S := rfl
theorem ss_nil : evSs C [] env S = .ok (.nx env) S := rfl
theorem ss_cons {s : Sm} {ss : List Sm} : evSs C (s :: ss) env S = Rs.b (evS C s env S) fun f => seqF f (evSs C ss) := by
  show bnd _ _ _ = _
  rw [bnd_b]; refine b_ext fun f S => ?_; cases f <;> rfl
def fnD : Fl → M D
  | .rt d => fun S => .ok d S
  | .nx _ => fun S => .ok .non S
  | _ => stk
theorem fnD_rt {d : D} : fnD (.rt d) S = .ok d S := rfl
theorem fnD_nx {e : Env} : fnD (.nx e) S = .ok .non S := rfl
theorem run_eq {f : FDef} {as : List D} : runF C f as S = if as.length = f.np then Rs.b (evSs C f.body (as.map some ++ List.replicate (f.ns - f.np) none) S) (fun r => fnD r) else .no := by
  unfold runF
  by_cases h : as.length = f.np
  · rw [if_pos (by rw [h]; exact Nat.beq_refl _), if_pos h, bnd_b]
    refine b_ext fun r S => ?_
    cases r <;> rfl
  · rw [if_neg (fun z => h (Nat.eq_of_beq_eq_true z)), if_neg h]; rfl
/-! ### targets, turns -/
theorem t_nm {n : Nat} {d : D} : asgT (.nm n) d env = some (env.set n (some d)) := by
  unfold asgT; rw [lsK_eq]
theorem t_tp {ts : List Tn} {ds : List D} : asgT (.tp ts) (.tup ds) env = asgTs ts ds env := rfl
theorem ts_nil : asgTs [] [] env = some env := rfl
theorem ts_cons {t : Tn} {ts : List Tn} {d : D} {ds : List D} : asgTs (t :: ts) (d :: ds) env = (asgT t d env).bind fun e => asgTs ts ds e := rfl
def inT (o : Option Env) (f : EM Fl) : M Fl := match o with
  | some e => f e
  | none => stk
theorem inT_some {e : Env} {f : EM Fl} : inT (some e) f S = f e S := rfl
theorem fTurn_eq {t : Tn} {f : EM Fl} {d : D} : fTurn t f d env S = inT (asgT t d env) f S := by
  unfold fTurn inT
  cases asgT t d env <;> rfl
def soE (f : EM D) (e : Env) : M (Option D) := fun S => Rs.b (f e S) fun d => okM (some d)
theorem soE_app {f : EM D} {e : Env} : soE f e S = Rs.b (f e S) fun d => okM (some d) := rfl
def inC (o : Option Env) (q : EM D) (f : EM D) : M (Option D) := match o with
  | some e => fun S => Rs.b (q e S) fun b => ifD b (soE f e) (okM none)
  | none => stk
theorem inC_some {e : Env} {q f : EM D} : inC (some e) q f S = Rs.b (q e S) fun b => ifD b (soE f e) (okM none) := rfl
theorem turn_eq {t : Tn} {q f : EM D} {d : D} : turn t q f env d S = inC (asgT t d env) q f S := by
  unfold turn inC
  cases asgT t d env with
  | none => rfl
  | some e =>
    show bnd _ _ _ = _
    rw [bnd_b]; refine b_ext fun b S => ?_
    unfold ifD
    cases b with
    | bl b => cases b with
      | true => show bnd _ _ _ = _; rw [bnd_b]; rfl
      | false => rfl
    | _ => rfl
theorem evT_nil : evT C [] env S = .ok (.bl true) S := rfl
theorem evT_one : evT C [x] env S = evE C x env S := rfl
end

/-! ### operations -/
section
variable {S : Store} {i j : Int} {m : Bool} {xs ys : List D}
theorem mkL_f : mkL false xs S = .ok (.lst xs) S := by simp [mkL, ret]
theorem mkL_t : mkL true xs S = .ok (.ref S.length) (S ++ [.lst xs]) := by simp [mkL, alloc]
theorem o_add : doOp .add m (.int i) (.int j) S = .ok (.int (i + j)) S := by simp [doOp, op2]
theorem o_sub : doOp .sub m (.int i) (.int j) S = .ok (.int (i - j)) S := by simp [doOp, op2]
theorem o_mul (h : big2 i j = true) : doOp .mul m (.int i) (.int j) S = .ok (.int (i * j)) S := by simp [doOp, op2, h]
theorem o_fdiv (h : divOk j = true) (hj : 0 < j) : doOp .fdiv m (.int i) (.int j) S = .ok (.int (i / j)) S := by simp [doOp, op2, h, hj]
theorem o_fdivN (h : divOk j = true) (hj : ¬0 < j) : doOp .fdiv m (.int i) (.int j) S = .ok (.int (i.fdiv j)) S := by simp [doOp, op2, h, hj]
theorem o_mod (hj : 0 < j) : doOp .mod m (.int i) (.int j) S = .ok (.int (i % j)) S := by
  have : (j != 0) = true := by simp; omega
  simp [doOp, op2, this, hj]
theorem o_pow (n k : Nat) (h : (Builtin.Int.intBits i : Int) * (k : Int) ≤ 134217728) : doOp .pow m (.int i) (.int (k : Int)) S = .ok (.int (i ^ k)) S := by
  simp [doOp, op2, h]
theorem o_addT (h : xs.length + ys.length ≤ LIM) : doOp .add m (.tup xs) (.tup ys) S = .ok (.tup (xs ++ ys)) S := by simp [doOp, op2, h]
theorem o_addL (h : xs.length + ys.length ≤ LIM) : doOp .add m (.lst xs) (.lst ys) S = mkL m (xs ++ ys) S := by simp [doOp, op2, op2L, lstOf, h]
theorem op2L_mul (k : Int) (h1 : (-(2 ^ 63) : Int) ≤ k) (h2 : k < 2 ^ 63) (h3 : xs.length * k.toNat ≤ LIM) : op2L S .mul (.lst xs) (.int k) = some (List.replicate k.toNat xs).flatten := by
  simp only [op2L, lstOf, Option.bind_some, h1, h2, h3, decide_true, Bool.and_self, if_true]
theorem o_mulK (k : Int) (h1 : (-(2 ^ 63) : Int) ≤ k) (h2 : k < 2 ^ 63) (h3 : xs.length * k.toNat ≤ LIM) : doOp .mul m (.lst xs) (.int k) S = mkL m (List.replicate k.toNat xs).flatten S := by
  have e0 : op2 S .mul (.lst xs) (.int k) = none := rfl
  unfold doOp
  rw [e0, op2L_mul k h1 h2 h3]
theorem o_mulL (n : Nat) (h : xs.length * n ≤ LIM) (hn : (n : Int) < 9223372036854775808) : doOp .mul m (.lst xs) (.int (n : Int)) S = mkL m (List.replicate n xs).flatten S := by
  have q := o_mulK (m := m) (S := S) (xs := xs) (n : Int) (by omega) (by omega) (by rw [Int.toNat_natCast]; exact h)
  rw [Int.toNat_natCast] at q
  exact q
theorem o_mulL' (n : Nat) {i : Int} (hi : i = (n : Int)) (h : xs.length * n ≤ LIM) (hn : (n : Int) < 9223372036854775808) : doOp .mul m (.lst xs) (.int i) S = mkL m (List.replicate n xs).flatten S := by rw [hi]; exact o_mulL n h hn
theorem c_lt : doCmp .lt (.int i) (.int j) S = .ok (.bl (decide (i < j))) S := by simp [doCmp, cmp2]
theorem c_le : doCmp .le (.int i) (.int j) S = .ok (.bl (decide (i ≤ j))) S := by simp [doCmp, cmp2]
theorem c_gt : doCmp .gt (.int i) (.int j) S = .ok (.bl (decide (j < i))) S := by simp [doCmp, cmp2]
theorem c_ge : doCmp .ge (.int i) (.int j) S = .ok (.bl (decide (j ≤ i))) S := by simp [doCmp, cmp2]
theorem eqv_int : eqv (.int i) (.int j) = decide (i = j) := by simp [eqv]; rfl
theorem c_eqI : doCmp .eq (.int i) (.int j) S = .ok (.bl (decide (i = j))) S := by simp [doCmp, cmp2, top, shal, eqv]; rfl
theorem c_neI : doCmp .ne (.int i) (.int j) S = .ok (.bl (decide (i ≠ j))) S := by
  simp [doCmp, cmp2, top, shal, eqv]
  by_cases h : i = j <;> simp [h]
/-- equality of the same plain data -/
def flatD : D → Bool
  | .ref _ => false
  | .gl _ => false
  | .scr _ => false
  | _ => true
mutual
theorem eqv_self : ∀ {n : Nat} {d : D}, shal n d = true → eqv d d = true
  | _, .non, _ => rfl
  | _, .bl b, _ => by simp [eqv]
  | _, .int b, _ => by simp [eqv]
  | _, .str b, _ => by simp [eqv]
  | n, .tup xs, h => by cases n with
    | zero => simp [shal] at h
    | succ n => simp only [shal] at h; simp only [eqv]; exact eqvs_self h
  | n, .lst xs, h => by cases n with
    | zero => simp [shal] at h
    | succ n => simp only [shal] at h; simp only [eqv]; exact eqvs_self h
  | n, .ref _, h => by cases n <;> simp [shal] at h
  | n, .gl _, h => by cases n <;> simp [shal] at h
  | n, .scr _, h => by cases n <;> simp [shal] at h
theorem eqvs_self : ∀ {n : Nat} {ds : List D}, shal.shals n ds = true → eqvs ds ds = true
  | _, [], _ => rfl
  | n, d :: ds, h => by
    simp only [shal.shals, Bool.and_eq_true] at h
    simp only [eqvs, Bool.and_eq_true]
    exact ⟨eqv_self h.1, eqvs_self h.2⟩
end
theorem top_shal {d : D} {n : Nat} (h : shal n d = true) : top S d = d := by
  cases d <;> first | rfl | (cases n <;> simp [shal] at h)
theorem c_eqS {d : D} (h : shal 40 d = true) : doCmp .eq d d S = .ok (.bl true) S := by
  unfold doCmp cmp2; simp only [top_shal h, h, Bool.and_self, if_true, eqv_self h]
theorem c_neS {d : D} (h : shal 40 d = true) : doCmp .ne d d S = .ok (.bl false) S := by
  unfold doCmp cmp2; simp only [top_shal h, h, Bool.and_self, if_true, eqv_self h, Bool.not_true]
theorem ixI_nat {n k : Nat} (h : k < n) : ixI n (k : Int) = some k := by
  unfold ixI
  rw [if_pos (by omega), if_pos (by omega)]; simp
theorem ixI_neg {n k : Nat} (h : k < n) (h0 : 0 < k) : ixI n (-(k : Int)) = some (n - k) := by
  unfold ixI
  rw [if_neg (by omega), if_pos (by omega)]; congr 1; omega
theorem ixT {k : Nat} {d : D} (h : xs[k]? = some d) : doIx (.tup xs) (.int (k : Int)) S = .ok d S := by
  have hk : k < xs.length := (List.getElem?_eq_some_iff.mp h).1
  simp [doIx, seqOf, ixI_nat hk, h]
theorem ixL {k : Nat} {d : D} (h : xs[k]? = some d) : doIx (.lst xs) (.int (k : Int)) S = .ok d S := by
  have hk : k < xs.length := (List.getElem?_eq_some_iff.mp h).1
  simp [doIx, seqOf, ixI_nat hk, h]
theorem ixS {k : Nat} {d : D} (h : xs[k]? = some d) : doIx (.scr xs) (.int (k : Int)) S = .ok d S := by
  have hk : k < xs.length := (List.getElem?_eq_some_iff.mp h).1
  simp [doIx, seqOf, ixI_nat hk, h]
theorem ixR {n k : Nat} {d : D} (hS : S[n]? = some (.lst xs)) (h : xs[k]? = some d) : doIx (.ref n) (.int (k : Int)) S = .ok d S := by
  have hk : k < xs.length := (List.getElem?_eq_some_iff.mp h).1
  simp [doIx, seqOf, hS, ixI_nat hk, h]
theorem ixT0 {d : D} : doIx (.tup (d :: xs)) (.int 0) S = .ok d S := ixT (k := 0) rfl
theorem ixT1 {c d : D} : doIx (.tup (c :: d :: xs)) (.int 1) S = .ok d S := ixT (k := 1) rfl
theorem ixT2 {b c d : D} : doIx (.tup (b :: c :: d :: xs)) (.int 2) S = .ok d S := ixT (k := 2) rfl
theorem ixL0 {d : D} : doIx (.lst (d :: xs)) (.int 0) S = .ok d S := ixL (k := 0) rfl
theorem ixL1 {c d : D} : doIx (.lst (c :: d :: xs)) (.int 1) S = .ok d S := ixL (k := 1) rfl
theorem ixT' {k : Nat} {i : Int} {d : D} (hi : i = (k : Int)) (h : xs[k]? = some d) : doIx (.tup xs) (.int i) S = .ok d S := by subst hi; exact ixT h
theorem ixL' {k : Nat} {i : Int} {d : D} (hi : i = (k : Int)) (h : xs[k]? = some d) : doIx (.lst xs) (.int i) S = .ok d S := by subst hi; exact ixL h
theorem ixR' {n k : Nat} {i : Int} {d : D} (hi : i = (k : Int)) (hS : S[n]? = some (.lst xs)) (h : xs[k]? = some d) : doIx (.ref n) (.int i) S = .ok d S := by subst hi; exact ixR hS h
theorem setR' {n k : Nat} {i : Int} {d : D} (hi : i = (k : Int)) (hS : S[n]? = some (.lst xs)) (h : k < xs.length) : setIx (.ref n) (.int i) d S = .ok () (S.set n (.lst (xs.set k d))) := by
  subst hi; simp [setIx, hS, ixI_nat h]
theorem setR {n k : Nat} {d : D} (hS : S[n]? = some (.lst xs)) (h : k < xs.length) : setIx (.ref n) (.int (k : Int)) d S = .ok () (S.set n (.lst (xs.set k d))) := by
  simp [setIx, hS, ixI_nat h]
theorem m_append {n : Nat} {d : D} (hS : S[n]? = some (.lst xs)) (h : xs.length < LIM) : doMt .append (.ref n) [d] S = .ok .non (S.set n (.lst (xs ++ [d]))) := by
  simp [doMt, putL, hS, h]
theorem m_extend {n : Nat} {a : D} (hS : S[n]? = some (.lst xs)) (ha : lstOf S a = some ys) (h : xs.length + ys.length ≤ LIM) : doMt .extend (.ref n) [a] S = .ok .non (S.set n (.lst (xs ++ ys))) := by
  simp [doMt, putL, hS, h, ha]
theorem b_lenT : doBi .len m [.tup xs] S = .ok (.int xs.length) S := by simp [doBi, seqOf]
theorem b_lenL : doBi .len m [.lst xs] S = .ok (.int xs.length) S := by simp [doBi, seqOf]
theorem b_lenS : doBi .len m [.scr xs] S = .ok (.int xs.length) S := by simp [doBi, seqOf]
theorem b_lenR {n : Nat} (hS : S[n]? = some (.lst xs)) : doBi .len m [.ref n] S = .ok (.int xs.length) S := by simp [doBi, seqOf, hS]
theorem b_int : doBi .int m [.int i] S = .ok (.int i) S := by simp [doBi]
theorem b_intB {b : Bool} : doBi .int m [.bl b] S = .ok (.int (if b then 1 else 0)) S := by simp [doBi]
theorem b_abs : doBi .abs m [.int i] S = .ok (.int (if i < 0 then -i else i)) S := by simp [doBi]
theorem b_max2 : doBi .max2 m [.int i, .int j] S = .ok (.int (if j > i then j else i)) S := by simp [doBi]
theorem b_min2 : doBi .min2 m [.int i, .int j] S = .ok (.int (if j < i then j else i)) S := by simp [doBi]
theorem b_gcd : doBi .gcd m [.int i, .int j] S = .ok (.int ((Nat.gcd i.natAbs j.natAbs : Nat) : Int)) S := by simp [doBi]
theorem b_tupT : doBi .tuple m [.tup xs] S = .ok (.tup xs) S := by simp [doBi, seqOf]
theorem b_tupL : doBi .tuple m [.lst xs] S = .ok (.tup xs) S := by simp [doBi, seqOf]
theorem b_tupR {n : Nat} (hS : S[n]? = some (.lst xs)) : doBi .tuple m [.ref n] S = .ok (.tup xs) S := by simp [doBi, seqOf, hS]
theorem b_lstT : doBi .list m [.tup xs] S = mkL m xs S := by simp [doBi, seqOf]
theorem b_lstL : doBi .list m [.lst xs] S = mkL m xs S := by simp [doBi, seqOf]
theorem b_lstR {n : Nat} (hS : S[n]? = some (.lst xs)) : doBi .list m [.ref n] S = mkL m xs S := by simp [doBi, seqOf, hS]
theorem b_isiT {t : Ty} : doBi (.isinst t) m [.tup xs] S = .ok (.bl (isI .tTuple t)) S := by simp [doBi, tyOf]
theorem b_isiI {t : Ty} : doBi (.isinst t) m [.int i] S = .ok (.bl (isI .tInt t)) S := by simp [doBi, tyOf]
theorem b_isiB {t : Ty} {b : Bool} : doBi (.isinst t) m [.bl b] S = .ok (.bl (isI .tBool t)) S := by simp [doBi, tyOf]
theorem intsOf_map : ∀ is : List Int, intsOf (is.map D.int) = some is
  | [] => rfl
  | i :: r => by simp [intsOf, intsOf_map r]
theorem blsOf_map : ∀ is : List Bool, blsOf (is.map D.bl) = some is
  | [] => rfl
  | i :: r => by simp [blsOf, blsOf_map r]
theorem b_sumL {is : List Int} : doBi .sum m [.lst (is.map .int)] S = .ok (.int is.sum) S := by simp [doBi, seqOf, intsOf_map]
theorem b_sumT {is : List Int} : doBi .sum m [.tup (is.map .int)] S = .ok (.int is.sum) S := by simp [doBi, seqOf, intsOf_map]
theorem b_allL {is : List Bool} : doBi .all m [.lst (is.map .bl)] S = .ok (.bl (is.all id)) S := by simp [doBi, lstOf, blsOf_map]
theorem revT : doRev m (.tup xs) S = .ok (.tup xs.reverse) S := by simp [doRev]
theorem revL : doRev m (.lst xs) S = mkL m xs.reverse S := by simp [doRev, lstOf]
theorem revR {n : Nat} (hS : S[n]? = some (.lst xs)) : doRev m (.ref n) S = mkL m xs.reverse S := by simp [doRev, lstOf, hS]
/-! ### sources -/
theorem q_vlT : srcOf .vl [.tup xs] S = some (xs, []) := rfl
theorem q_vlL : srcOf .vl [.lst xs] S = some (xs, []) := rfl
theorem q_vlS : srcOf .vl [.scr xs] S = some (xs, []) := rfl
theorem q_vlR {n : Nat} (hS : S[n]? = some (.lst xs)) : srcOf .vl [.ref n] S = some (xs, [(n, xs)]) := by simp [srcOf, seqD, seqOf, hS]
def natsD (n : Nat) : List D := (List.range n).map fun (k : Nat) => D.int (k : Int)
theorem rgF_map : ∀ (n : Nat) (a : Int), rgF a n = (List.range n).map fun (k : Nat) => a + (k : Int) := fun n a => by
  refine List.ext_getElem? fun i => ?_
  by_cases hi : i < n
  · rw [rgF_get _ _ _ hi, List.getElem?_map, List.getElem?_range hi]; rfl
  · rw [List.getElem?_eq_none (by rw [rgF_len]; omega), List.getElem?_eq_none (by simp; omega)]
theorem rgOk_nat {n : Nat} (h : n ≤ LIM) : rgOk 0 (n : Int) = true := by
  have e : LIM = 16777216 := rfl
  rw [e] at h
  unfold rgOk
  simp only [leI_eq, Bool.and_eq_true, decide_eq_true_eq, Nat.ble_eq]
  rw [e]
  omega
theorem q_rg1 {n : Nat} (h : n ≤ LIM) : srcOf .rg1 [.int (n : Int)] S = some (natsD n, []) := by
  simp only [srcOf, rgOk_nat h, if_true]
  unfold rgI natsD
  rw [rgF_map]
  simp
theorem q_rg1' {n : Nat} {i : Int} (hi : i = (n : Int)) (h : n ≤ LIM) : srcOf .rg1 [.int i] S = some (natsD n, []) := by rw [hi]; exact q_rg1 h
theorem q_enT : srcOf .en [.tup xs] S = some (enumD xs 0, []) := rfl
theorem q_enL : srcOf .en [.lst xs] S = some (enumD xs 0, []) := rfl
theorem q_zpTT : srcOf .zp [.tup xs, .tup ys] S = some (zipD xs ys, []) := rfl
theorem q_zpTL : srcOf .zp [.tup xs, .lst ys] S = some (zipD xs ys, []) := rfl
theorem q_zpLT : srcOf .zp [.lst xs, .tup ys] S = some (zipD xs ys, []) := rfl
theorem q_zpLL : srcOf .zp [.lst xs, .lst ys] S = some (zipD xs ys, []) := rfl
theorem dep_nil : depOk [] S = true := rfl
theorem dep_one {n : Nat} (hS : S[n]? = some (.lst xs)) : depOk [(n, xs)] S = true := by simp [depOk, hS]
/-! ### loops -/
theorem comp_pure {dp : Deps} {f : D → M (Option D)} (g : D → D) (hd : depOk dp S = true) : ∀ {xs acc : List D}, (∀ x, x ∈ xs → f x S = .ok (some (g x)) S) → compL dp f xs acc S = .ok (acc ++ xs.map g) S
  | [], acc, _ => by simp [compL, hd]
  | x :: xs, acc, h => by
    simp only [compL, hd, if_true, h x List.mem_cons_self]
    rw [comp_pure g hd fun y hy => h y (List.mem_cons_of_mem _ hy)]
    simp
theorem comp_int {dp : Deps} {f : D → M (Option D)} (g : Int → Int) (hd : depOk dp S = true) {l : List Int} (h : ∀ x, x ∈ l → f (.int x) S = .ok (some (.int (g x))) S) : compL dp f (l.map .int) [] S = .ok ((l.map g).map .int) S := by
  have := comp_pure (f := f) (S := S) (dp := dp) (fun d => match d with | .int i => .int (g i) | d => d) hd (xs := l.map .int) (acc := []) fun x hx => by
    obtain ⟨i, hi, rfl⟩ := List.mem_map.mp hx
    exact h i hi
  rw [this]
  simp [List.map_map, Function.comp_def]
theorem comp_intD {dp : Deps} {f : D → M (Option D)} (g : Int → D) (hd : depOk dp S = true) {l : List Int} (h : ∀ x, x ∈ l → f (.int x) S = .ok (some (g x)) S) : compL dp f (l.map .int) [] S = .ok (l.map g) S := by
  have := comp_pure (f := f) (S := S) (dp := dp) (fun d => match d with | .int i => g i | d => d) hd (xs := l.map .int) (acc := []) fun x hx => by
    obtain ⟨i, hi, rfl⟩ := List.mem_map.mp hx
    exact h i hi
  rw [this]
  simp [List.map_map, Function.comp_def]
theorem comp_nat {dp : Deps} {f : D → M (Option D)} (g : Nat → D) (hd : depOk dp S = true) {n : Nat} (h : ∀ k, k < n → f (.int (k : Int)) S = .ok (some (g k)) S) : compL dp f (natsD n) [] S = .ok ((List.range n).map g) S := by
  have := comp_pure (f := f) (S := S) (dp := dp) (fun d => match d with | .int i => g i.toNat | d => d) hd (xs := natsD n) (acc := []) fun x hx => by
    obtain ⟨i, hi, rfl⟩ := List.mem_map.mp hx
    have := h i (List.mem_range.mp hi)
    simpa using this
  rw [this]
  simp [natsD, List.map_map, Function.comp_def]
theorem natsD_len (n : Nat) : (natsD n).length = n := by simp [natsD]
theorem natsD_get {n i : Nat} {x : D} (h : (natsD n)[i]? = some x) : x = .int (i : Int) ∧ i < n := by
  unfold natsD at h
  rw [List.getElem?_map] at h
  by_cases hi : i < n
  · rw [List.getElem?_range hi] at h
    exact ⟨(Option.some.inj h).symm, hi⟩
  · rw [List.getElem?_eq_none (by simp; omega)] at h; cases h
/-- only new cells -/
def Al (S S' : Store) : Prop := ∃ l, S' = S ++ l
theorem Al.refl (S : Store) : Al S S := ⟨[], by simp⟩
theorem Al.trans {S S' S'' : Store} (h : Al S S') (h' : Al S' S'') : Al S S'' := by
  obtain ⟨l, rfl⟩ := h
  obtain ⟨l', rfl⟩ := h'
  exact ⟨l ++ l', by simp⟩
theorem Al.get {S S' : Store} {n : Nat} {c : Cell} (h : Al S S') (e : S[n]? = some c) : S'[n]? = some c := by
  obtain ⟨l, rfl⟩ := h
  rw [List.getElem?_append_left (List.getElem?_eq_some_iff.mp e).1]; exact e
theorem Al.one {S : Store} {c : Cell} : Al S (S ++ [c]) := ⟨[c], rfl⟩
theorem Al.len {S S' : Store} (h : Al S S') : S.length ≤ S'.length := by
  obtain ⟨l, rfl⟩ := h; simp
/-- a store to a new cell -/
theorem Al.set {S S' : Store} {n : Nat} {c : Cell} (h : Al S S') (hn : S.length ≤ n) : Al S (S'.set n c) := by
  obtain ⟨l, rfl⟩ := h
  exact ⟨l.set (n - S.length) c, by rw [List.set_append_right _ _ hn]⟩
theorem get_new {S : Store} {c : Cell} : (S ++ [c])[S.length]? = some c := by simp
theorem compD_some {dp : Deps} {f : D → M (Option D)} (h : xs.length ≤ LIM) : compD m (some (xs, dp)) f S = Rs.b (compL dp f xs [] S) fun ys => mkL m ys := by
  unfold compD guard
  dsimp only
  rw [if_pos (by rw [Nat.ble_eq]; exact h), bnd_b]
theorem forD_some {dp : Deps} {f : D → EM Fl} {env : Env} : forD (some (xs, dp)) f env S = forL dp f xs env S := rfl
/-- a comprehension with an invariant -/
theorem comp_inv {dp : Deps} {f : D → M (Option D)} {P : List D → Store → Prop} (J : Nat → List D → Store → Prop) : ∀ {xs acc : List D} {S : Store} (n : Nat), J n acc S →
    (∀ i acc S x, J i acc S → i < n + xs.length → n ≤ i → xs[i - n]? = some x → depOk dp S = true ∧ WP (f x S) fun o S' => match o with | some d => J (i + 1) (acc ++ [d]) S' | none => J (i + 1) acc S') →
    (∀ acc S, J (n + xs.length) acc S → depOk dp S = true ∧ P acc S) → WP (compL dp f xs acc S) P
  | [], acc, S, n, h0, _, h2 => by
    obtain ⟨h, p⟩ := h2 acc S (by simpa using h0)
    unfold compL; rw [if_pos h]; exact p
  | x :: xs, acc, S, n, h0, h1, h2 => by
    obtain ⟨h, w⟩ := h1 n acc S x h0 (by simp) (Nat.le_refl _) (by simp)
    unfold compL; rw [if_pos h]
    obtain ⟨o, S1, e, j⟩ := w.get
    rw [e]
    have step : ∀ i acc S y, J i acc S → i < n + 1 + xs.length → n + 1 ≤ i → xs[i - (n + 1)]? = some y → depOk dp S = true ∧ WP (f y S) fun o S' => match o with | some d => J (i + 1) (acc ++ [d]) S' | none => J (i + 1) acc S' := fun i acc S y j hi hn hy =>
      h1 i acc S y j (by simp; omega) (by omega) (by
        rw [show i - n = (i - (n + 1)) + 1 by omega]; simpa using hy)
    have fin : ∀ acc S, J (n + 1 + xs.length) acc S → depOk dp S = true ∧ P acc S := fun acc S j => h2 acc S (by
      rw [show n + (x :: xs).length = n + 1 + xs.length by simp; omega]; exact j)
    cases o with
    | some d => exact comp_inv J (n + 1) j step fin
    | none => exact comp_inv J (n + 1) j step fin
/-- a for with an invariant -/
theorem for_inv {dp : Deps} {f : D → EM Fl} {P : Fl → Store → Prop} (J : Nat → Env → Store → Prop) : ∀ {xs : List D} {env : Env} {S : Store} (n : Nat), J n env S →
    (∀ i env S x, J i env S → i < n + xs.length → n ≤ i → xs[i - n]? = some x → depOk dp S = true ∧ WP (f x env S) fun o S' => match o with | .nx e => J (i + 1) e S' | .ct e => J (i + 1) e S' | .bk e => P (.nx e) S' | .rt d => P (.rt d) S') →
    (∀ env S, J (n + xs.length) env S → depOk dp S = true ∧ P (.nx env) S) → WP (forL dp f xs env S) P
  | [], env, S, n, h0, _, h2 => by
    obtain ⟨h, p⟩ := h2 env S (by simpa using h0)
    unfold forL; rw [if_pos h]; exact p
  | x :: xs, env, S, n, h0, h1, h2 => by
    obtain ⟨h, w⟩ := h1 n env S x h0 (by simp) (Nat.le_refl _) (by simp)
    unfold forL; rw [if_pos h]
    obtain ⟨o, S1, e, j⟩ := w.get
    rw [e]
    have step : ∀ i env S y, J i env S → i < n + 1 + xs.length → n + 1 ≤ i → xs[i - (n + 1)]? = some y → depOk dp S = true ∧ WP (f y env S) fun o S' => match o with | .nx e => J (i + 1) e S' | .ct e => J (i + 1) e S' | .bk e => P (.nx e) S' | .rt d => P (.rt d) S' := fun i env S y j hi hn hy =>
      h1 i env S y j (by simp; omega) (by omega) (by
        rw [show i - n = (i - (n + 1)) + 1 by omega]; simpa using hy)
    have fin : ∀ env S, J (n + 1 + xs.length) env S → depOk dp S = true ∧ P (.nx env) S := fun env S j => h2 env S (by
      rw [show n + (x :: xs).length = n + 1 + xs.length by simp; omega]; exact j)
    cases o with
    | nx e => exact for_inv J (n + 1) j step fin
    | ct e => exact for_inv J (n + 1) j step fin
    | bk e => exact j
    | rt d => exact j
/-- a while with an invariant and a measure below the fuel -/
theorem while_inv {c : EM D} {f : EM Fl} {P : Fl → Store → Prop} (J : Nat → Env → Store → Prop) : ∀ {n : Nat} {env : Env} {S : Store} (k : Nat), J k env S → k < n →
    (∀ k env S, J k env S → WP (c env S) fun d S1 => (d = .bl true ∧ WP (f env S1) fun o S' => match o with | .nx e => ∃ k', k' < k ∧ J k' e S' | .ct e => ∃ k', k' < k ∧ J k' e S' | .bk e => P (.nx e) S' | .rt d => P (.rt d) S') ∨ (d = .bl false ∧ P (.nx env) S1)) →
    WP (whileL c f n env S) P
  | 0, _, _, k, _, h, _ => absurd h (Nat.not_lt_zero _)
  | n + 1, env, S, k, j, h, step => by
    obtain ⟨d, S1, e1, w⟩ := (step k env S j).get
    unfold whileL
    rw [e1]
    rcases w with ⟨rfl, w⟩ | ⟨rfl, p⟩
    · obtain ⟨o, S2, e2, w⟩ := w.get
      simp only [e2]
      cases o with
      | nx e => obtain ⟨k', hk, j'⟩ := w; exact while_inv J k' j' (by omega) step
      | ct e => obtain ⟨k', hk, j'⟩ := w; exact while_inv J k' j' (by omega) step
      | bk e => exact w
      | rt d => exact w
    · exact p
end
theorem big2_of {i j : Int} {a b : Nat} (h1 : i.natAbs < 2 ^ a) (h2 : j.natAbs < 2 ^ b) (h : a + b < 1000000) : big2 i j = true := by
  unfold big2
  rw [decide_eq_true_eq]
  have l : ∀ (n a : Nat), n < 2 ^ a → n.log2 ≤ a := fun n a h => by
    by_cases h0 : n = 0
    · subst h0; simp
    · exact Nat.le_of_lt ((Nat.log2_lt h0).mpr h)
  have := l _ _ h1
  have := l _ _ h2
  omega
theorem divOk_of {j : Int} {a : Nat} (h0 : 0 < j) (h1 : j.natAbs < 2 ^ a) (h : a < 9000) : divOk j = true := by
  unfold divOk
  rw [Bool.and_eq_true, decide_eq_true_eq]
  refine ⟨by simp; omega, ?_⟩
  have : j.natAbs.log2 < a := (Nat.log2_lt (by omega)).mpr h1
  omega
end Ev
namespace LW
open PySem PySem.Spec
open PyProof.Rows L2 Ev
/-- is_whole: 0=value -/
def fd_is_whole : FDef := ⟨1, 1, [.ret (.and (.bi (.isinst .tInt) false [(.var 0)]) (.not (.bi (.isinst .tBool) false [(.var 0)])))]⟩
/-- power_of: 0=base 1=times 2=found 3=turn -/
def fd_power_of : FDef := ⟨2, 4, [.asg (.nm 2) (.int 1), .for_ (.nm 3) .rg1 [(.var 1)] [.asg (.nm 2) (.bin .mul false (.var 2) (.var 0))], .ret (.var 2)]⟩
/-- fraction_in: 0=top 1=bottom 2=shared -/
def fd_fraction_in : FDef := ⟨2, 3, [.asg (.nm 2) (.ite (.cmp .gt (.var 1) (.int 0)) (.bi .gcd false [(.var 0), (.var 1)]) (.neg (.bi .gcd false [(.var 0), (.var 1)]))), .ret (.tup [(.bin .fdiv false (.var 0) (.var 2)), (.bin .fdiv false (.var 1) (.var 2))])]⟩
/-- is_row_in: 0=many 1=value 2=number -/
def fd_is_row_in : FDef := ⟨2, 3, [.ite (.or (.not (.bi (.isinst .tTuple) false [(.var 1)])) (.or (.cmp .ne (.bi .len false [(.var 1)]) (.gl 0)) (.or (.not (.call 1 [(.ix (.var 1) (.int 0))])) (.cmp .lt (.ix (.var 1) (.int 0)) (.int 1))))) [.ret (.bl false)] [], .ite (.or (.not (.bi (.isinst .tTuple) false [(.ix (.var 1) (.int 1))])) (.cmp .ne (.bi .len false [(.ix (.var 1) (.int 1))]) (.var 0))) [.ret (.bl false)] [], .ret (.bi .all false [(.comp false [2] (.nm 2) .vl [(.ix (.var 1) (.int 1))] [] (.call 1 [(.var 2)]))])]⟩
/-- is_part_in: 0=many 1=value 2=number -/
def fd_is_part_in : FDef := ⟨2, 3, [.ret (.and (.call 4 [(.var 0), (.var 1)]) (.bi .all false [(.comp false [2] (.nm 2) .vl [(.ix (.var 1) (.int 1))] [] (.chain .le .le (.int 0) (.var 2) (.ix (.var 1) (.int 0))))]))]⟩
/-- is_sign: 0=value -/
def fd_is_sign : FDef := ⟨1, 1, [.ret (.and (.call 1 [(.var 0)]) (.cmp .in_ (.var 0) (.tup [(.int 1), (.neg (.int 1))])))]⟩
/-- is_truth_in: 0=N 1=value 2=one -/
def fd_is_truth_in : FDef := ⟨2, 3, [.ret (.and (.bi (.isinst .tTuple) false [(.var 1)]) (.and (.cmp .eq (.bi .len false [(.var 1)]) (.var 0)) (.bi .all false [(.comp false [2] (.nm 2) .vl [(.var 1)] [] (.call 7 [(.var 2)]))])))]⟩
/-- is_any_truth: 0=value -/
def fd_is_any_truth : FDef := ⟨1, 1, [.ret (.and (.bi (.isinst .tTuple) false [(.var 0)]) (.and (.chain .le .le (.int 1) (.bi .len false [(.var 0)]) (.gl 6)) (.call 8 [(.bi .len false [(.var 0)]), (.var 0)])))]⟩
/-- weighed_sum: 0=truths 1=test 2=factors 3=found 4=truth 5=factor 6=many 7=row 8=sign 9=weight 10=start 11=at -/
def fd_weighed_sum : FDef := ⟨3, 12, [.asg (.nm 3) (.bi .list false [(.var 1)]), .for_ (.tp [(.nm 4), (.nm 5)]) .zp [(.rev false (.var 0)), (.rev false (.var 2))] [.asg (.nm 6) (.bi .len false [(.var 4)]), .asg (.nm 7) (.comp false [8, 9] (.tp [(.nm 8), (.nm 9)]) .zp [(.var 4), (.var 5)] [] (.bin .mul false (.var 8) (.var 9))), .asg (.nm 3) (.comp false [10] (.nm 10) .rg1 [(.bin .fdiv false (.bi .len false [(.var 3)]) (.var 6))] [] (.bi .sum false [(.comp false [11] (.nm 11) .rg1 [(.var 6)] [] (.bin .mul false (.ix (.var 7) (.var 11)) (.ix (.var 3) (.bin .add false (.bin .mul false (.var 6) (.var 10)) (.var 11)))))]))], .ret (.ix (.var 3) (.int 0))]⟩
/-- plain_sum: 0=truths 1=test 2=truth -/
def fd_plain_sum : FDef := ⟨2, 3, [.ret (.call 12 [(.var 0), (.var 1), (.comp false [2] (.nm 2) .vl [(.var 0)] [] (.bin .mul false (.lst false [(.int 1)]) (.bi .len false [(.var 2)])))])]⟩
/-- part_in: 0=truths 1=test 2=measures 3=place 4=factors 5=bottom 6=at 7=below 8=weights 9=weight -/
def fd_part_in : FDef := ⟨4, 10, [.par [4, 5] [(.lst true []), (.int 1)], .for_ (.tp [(.nm 6), (.tp [(.nm 7), (.nm 8)])]) .en [(.var 2)] [.ite (.cmp .le (.var 6) (.var 3)) [.asg (.nm 5) (.bin .mul false (.var 5) (.var 7))] [], .ite (.cmp .lt (.var 6) (.var 3)) [.expr (.mt .append (.var 4) [(.comp false [9] (.nm 9) .vl [(.var 8)] [] (.bin .sub false (.var 7) (.var 9)))])] [.expr (.mt .append (.var 4) [(.ite (.cmp .eq (.var 6) (.var 3)) (.var 8) (.bin .mul false (.lst false [(.int 1)]) (.bi .len false [(.var 8)])))])]], .ret (.call 3 [(.call 12 [(.var 0), (.var 1), (.var 4)]), (.var 5)])]⟩
/-- are_truths: 0=value 1=truth -/
def fd_are_truths : FDef := ⟨1, 2, [.ite (.or (.not (.bi (.isinst .tTuple) false [(.var 0)])) (.or (.not (.chain .le .le (.int 1) (.bi .len false [(.var 0)]) (.gl 10))) (.not (.call 9 [(.ix (.var 0) (.int 0))])))) [.ret (.bl false)] [], .ret (.bi .all false [(.comp false [1] (.nm 1) .vl [(.var 0)] [] (.call 8 [(.bi .len false [(.ix (.var 0) (.int 0))]), (.var 1)]))])]⟩
/-- require_truths: 0=value -/
def fd_require_truths : FDef := ⟨1, 1, [.ite (.not (.call 15 [(.var 0)])) [.never] []]⟩
/-- require_copies_test: 0=many 1=times 2=value -/
def fd_require_copies_test : FDef := ⟨3, 3, [.ite (.not (.call 8 [(.call 2 [(.var 0), (.var 1)]), (.var 2)])) [.never] []]⟩
/-- need_places: 0=many 1=times -/
def fd_need_places : FDef := ⟨2, 2, [.ite (.cmp .gt (.call 2 [(.var 0), (.var 1)]) (.gl 11)) [.never] []]⟩
/-- are_parts: 0=many 1=times 2=value 3=row -/
def fd_are_parts : FDef := ⟨3, 4, [.ret (.and (.bi (.isinst .tTuple) false [(.var 2)]) (.and (.cmp .eq (.bi .len false [(.var 2)]) (.var 1)) (.bi .all false [(.comp false [3] (.nm 3) .vl [(.var 2)] [] (.call 5 [(.var 0), (.var 3)]))])))]⟩
/-- copies_sum: 0=truths 1=test -/
def fd_copies_sum : FDef := ⟨2, 2, [.expr (.call 16 [(.var 0)]), .expr (.call 17 [(.bi .len false [(.ix (.var 0) (.int 0))]), (.bi .len false [(.var 0)]), (.var 1)]), .expr (.call 18 [(.bi .len false [(.ix (.var 0) (.int 0))]), (.bi .len false [(.var 0)])]), .ret (.call 13 [(.var 0), (.var 1)])]⟩
/-- splits: 0=truths 1=test 2=measures 3=place -/
def fd_splits : FDef := ⟨3, 4, [.expr (.call 16 [(.var 0)]), .expr (.call 17 [(.bi .len false [(.ix (.var 0) (.int 0))]), (.bi .len false [(.var 0)]), (.var 1)]), .ite (.not (.call 19 [(.bi .len false [(.ix (.var 0) (.int 0))]), (.bi .len false [(.var 0)]), (.var 2)])) [.never] [], .expr (.call 18 [(.bi .len false [(.ix (.var 0) (.int 0))]), (.bi .len false [(.var 0)])]), .ret (.bi .tuple false [(.comp false [3] (.nm 3) .rg1 [(.bin .add false (.bi .len false [(.var 0)]) (.int 1))] [] (.call 14 [(.var 0), (.var 1), (.var 2), (.var 3)]))])]⟩
/-- _law_hx_dice: 0=script 1=spot 2=cell 3=great 4=seed -/
def fd_law_hx_dice : FDef := ⟨2, 5, [.asg (.nm 2) (.ite (.cmp .lt (.var 1) (.bi .len false [(.var 0)])) (.bi .int false [(.ix (.var 0) (.var 1))]) (.bin .add false (.bin .mul false (.int 431) (.var 1)) (.int 97))), .asg (.nm 3) (.bin .mod false (.bi .int false [(.bi .abs false [(.var 2)])]) (.bin .pow false (.bin .pow false (.int 10) (.int 54)) (.int 7))), .asg (.nm 4) (.bi .int false [(.bin .add false (.bin .add false (.bin .add false (.bin .mul false (.bin .mod false (.var 3) (.int 2305843009213693613)) (.int 67)) (.bin .mul false (.int 4909) (.var 1))) (.bin .mul false (.int 47) (.bi .int false [(.cmp .lt (.var 2) (.int 0))]))) (.int 31))]), .ret (.lst true [(.bi .max2 false [(.int 0), (.bin .sub false (.var 3) (.bin .pow false (.int 10) (.int 16)))]), (.bin .mod false (.var 4) (.int 2305843009213693951)), (.int 0)])]⟩
/-- _law_hx_up: 0=dice 1=total 2=found 3=one 4=two -/
def fd_law_hx_up : FDef := ⟨2, 5, [.ite (.cmp .gt (.ix (.var 0) (.int 0)) (.int 0)) [.asg (.nm 2) (.bin .mod false (.bi .int false [(.ix (.var 0) (.int 0))]) (.var 1)), .asg (.ix (.var 0) (.int 0)) (.bin .fdiv false (.ix (.var 0) (.int 0)) (.var 1)), .ret (.var 2)] [], .asg (.ix (.var 0) (.int 2)) (.bin .add false (.ix (.var 0) (.int 2)) (.int 1)), .asg (.nm 3) (.bin .mod false (.bi .int false [(.bin .add false (.ix (.var 0) (.int 1)) (.bin .mul false (.int 32452843) (.ix (.var 0) (.int 2))))]) (.int 2305843009213693951)), .asg (.nm 4) (.bin .add false (.bin .add false (.bin .mul false (.bin .mod false (.bi .int false [(.bin .add false (.bin .mul false (.var 3) (.var 3)) (.int 15485863))]) (.int 2305843009213693921)) (.int 49979687)) (.var 3)) (.bin .mul false (.int 23) (.ix (.var 0) (.int 2)))), .ret (.bin .mod false (.bi .int false [(.bin .fdiv false (.var 4) (.int 65539))]) (.var 1))]⟩
/-- _law_hx_of: 0=dice 1=items -/
def fd_law_hx_of : FDef := ⟨2, 2, [.ret (.ix (.var 1) (.call 23 [(.var 0), (.bi .len false [(.var 1)])]))]⟩
/-- _law_hx_shared: 0=one 1=other -/
def fd_law_hx_shared : FDef := ⟨2, 2, [.par [0, 1] [(.bi .abs false [(.var 0)]), (.bi .abs false [(.var 1)])], .while_ (.cmp .gt (.var 1) (.int 0)) [.par [0, 1] [(.var 1), (.bin .mod false (.bi .int false [(.var 0)]) (.var 1))]], .ret (.var 0)]⟩
/-- _law_hx_fraction: 0=top 1=bottom 2=shared -/
def fd_law_hx_fraction : FDef := ⟨2, 3, [.asg (.nm 2) (.call 25 [(.var 0), (.var 1)]), .ite (.cmp .lt (.var 1) (.int 0)) [.asg (.nm 2) (.bin .sub false (.int 0) (.var 2))] [], .ret (.tup [(.bin .fdiv false (.var 0) (.var 2)), (.bin .fdiv false (.var 1) (.var 2))])]⟩
/-- _law_hx_plus: 0=one 1=other -/
def fd_law_hx_plus : FDef := ⟨2, 2, [.ret (.call 26 [(.bin .add false (.bin .mul false (.ix (.var 0) (.int 0)) (.ix (.var 1) (.int 1))) (.bin .mul false (.ix (.var 1) (.int 0)) (.ix (.var 0) (.int 1)))), (.bin .mul false (.ix (.var 0) (.int 1)) (.ix (.var 1) (.int 1)))])]⟩
/-- _law_hx_less: 0=one 1=other -/
def fd_law_hx_less : FDef := ⟨2, 2, [.ret (.call 26 [(.bin .sub false (.bin .mul false (.ix (.var 0) (.int 0)) (.ix (.var 1) (.int 1))) (.bin .mul false (.ix (.var 1) (.int 0)) (.ix (.var 0) (.int 1)))), (.bin .mul false (.ix (.var 0) (.int 1)) (.ix (.var 1) (.int 1)))])]⟩
/-- _law_hx_times: 0=one 1=other -/
def fd_law_hx_times : FDef := ⟨2, 2, [.ret (.call 26 [(.bin .mul false (.ix (.var 0) (.int 0)) (.ix (.var 1) (.int 0))), (.bin .mul false (.ix (.var 0) (.int 1)) (.ix (.var 1) (.int 1)))])]⟩
/-- _law_hx_truth: 0=dice 1=many 2=way 3=point -/
def fd_law_hx_truth : FDef := ⟨2, 4, [.asg (.nm 2) (.call 23 [(.var 0), (.int 6)]), .ret (.bi .tuple false [(.comp false [3] (.nm 3) .rg1 [(.var 1)] [] (.ite (.cmp .eq (.var 2) (.int 0)) (.int 1) (.bin .sub false (.int 1) (.bin .mul false (.int 2) (.call 23 [(.var 0), (.int 2)])))))])]⟩
/-- _law_hx_copies: 0=truths 1=found 2=truth 3=longer 4=one 5=sign -/
def fd_law_hx_copies : FDef := ⟨1, 6, [.asg (.nm 1) (.lst true [(.int 1)]), .for_ (.nm 2) .vl [(.var 0)] [.asg (.nm 3) (.lst true []), .for_ (.nm 4) .vl [(.var 1)] [.expr (.mt .extend (.var 3) [(.comp false [5] (.nm 5) .vl [(.var 2)] [] (.bin .mul false (.var 4) (.var 5)))])], .asg (.nm 1) (.var 3)], .ret (.var 1)]⟩
/-- _law_hx_places: 0=many 1=times 2=at 3=found 4=left 5=turn -/
def fd_law_hx_places : FDef := ⟨3, 6, [.par [3, 4] [(.lst true []), (.var 2)], .for_ (.nm 5) .rg1 [(.var 1)] [.expr (.mt .append (.var 3) [(.bin .mod false (.bi .int false [(.var 4)]) (.var 0))]), .asg (.nm 4) (.bin .fdiv false (.var 4) (.var 0))], .ret (.rev false (.var 3))]⟩
/-- _law_hx_part: 0=truths 1=test 2=measures 3=place 4=many 5=times 6=total 7=at 8=sign 9=weight 10=spot 11=point 12=here -/
def fd_law_hx_part : FDef := ⟨4, 13, [.par [4, 5, 6] [(.bi .len false [(.ix (.var 0) (.int 0))]), (.bi .len false [(.var 0)]), (.tup [(.int 0), (.int 1)])], .for_ (.tp [(.nm 7), (.nm 8)]) .en [(.call 31 [(.var 0)])] [.asg (.nm 9) (.tup [(.bin .mul false (.var 8) (.ix (.var 1) (.var 7))), (.int 1)]), .for_ (.tp [(.nm 10), (.nm 11)]) .en [(.call 32 [(.var 4), (.var 5), (.var 7)])] [.asg (.nm 12) (.call 26 [(.ix (.ix (.ix (.var 2) (.var 10)) (.int 1)) (.var 11)), (.ix (.ix (.var 2) (.var 10)) (.int 0))]), .ite (.cmp .lt (.var 10) (.var 3)) [.asg (.nm 9) (.call 29 [(.var 9), (.call 28 [(.tup [(.int 1), (.int 1)]), (.var 12)])])] [], .ite (.cmp .eq (.var 10) (.var 3)) [.asg (.nm 9) (.call 29 [(.var 9), (.var 12)])] []], .asg (.nm 6) (.call 27 [(.var 6), (.var 9)])], .ret (.var 6)]⟩
/-- _law_hx_copies_test: 0=dice 1=truths 2=some 3=many 4=way 5=found 6=base 7=turn 8=at 9=truth -/
def fd_law_hx_copies_test : FDef := ⟨2, 10, [.asg (.tp [(.nm 2), (.nm 3), (.nm 4)]) (.tup [(.call 31 [(.var 1)]), (.bi .len false [(.ix (.var 1) (.int 0))]), (.call 23 [(.var 0), (.int 6)])]), .ite (.cmp .eq (.var 4) (.int 0)) [.asg (.nm 5) (.bi .list true [(.var 2)])] [.ite (.cmp .eq (.var 4) (.int 1)) [.asg (.nm 5) (.call 31 [(.comp false [9] (.nm 9) .vl [(.var 1)] [] (.call 30 [(.var 0), (.var 3)]))])] [.ite (.cmp .eq (.var 4) (.int 2)) [.asg (.nm 6) (.call 30 [(.var 0), (.var 3)]), .asg (.nm 5) (.comp true [8] (.nm 8) .rg1 [(.bi .len false [(.var 2)])] [] (.bin .mul false (.ix (.var 6) (.bin .mod false (.bi .int false [(.var 8)]) (.var 3))) (.bin .sub false (.int 1) (.bin .mul false (.int 2) (.bi .int false [(.bin .mod false (.bin .fdiv false (.var 8) (.var 3)) (.int 2))])))))] [.asg (.nm 5) (.comp true [8] (.nm 8) .rg1 [(.bi .len false [(.var 2)])] [] (.bin .sub false (.int 1) (.bin .mul false (.int 2) (.call 23 [(.var 0), (.int 2)]))))]]], .for_ (.nm 7) .rg1 [(.call 23 [(.var 0), (.int 3)])] [.asg (.nm 8) (.call 23 [(.var 0), (.bi .len false [(.var 5)])]), .asg (.ix (.var 5) (.var 8)) (.bin .sub false (.int 0) (.ix (.var 5) (.var 8)))], .ret (.bi .tuple false [(.var 5)])]⟩
/-- _law_measure: 0=dice 1=many 2=way 3=bottom 4=terms 5=found 6=point 7=number -/
def fd_law_measure : FDef := ⟨2, 8, [.asg (.tp [(.nm 2), (.nm 3), (.nm 4)]) (.tup [(.call 23 [(.var 0), (.int 5)]), (.bin .add false (.int 1) (.call 23 [(.var 0), (.int 5)])), (.call 24 [(.var 0), (.lst false [(.int 1), (.int 1), (.int 2), (.bin .pow false (.int 10) (.int 25))])])]), .asg (.nm 5) (.comp false [6] (.nm 6) .rg1 [(.var 1)] [] (.call 23 [(.var 0), (.bin .add false (.var 3) (.int 1))])), .ite (.cmp .eq (.var 2) (.int 0)) [.asg (.nm 5) (.comp false [6] (.nm 6) .rg1 [(.var 1)] [] (.call 24 [(.var 0), (.lst false [(.int 0), (.var 3)])]))] [], .ite (.cmp .eq (.var 2) (.int 1)) [.asg (.nm 5) (.bin .mul false (.lst false [(.call 24 [(.var 0), (.lst false [(.int 0), (.var 3)])])]) (.var 1))] [], .ret (.tup [(.bin .mul false (.var 3) (.var 4)), (.bi .tuple false [(.comp false [7] (.nm 7) .vl [(.var 5)] [] (.bin .mul false (.var 7) (.var 4)))])])]⟩
/-- _law_right: 0=dice 1=times 2=many 3=truths 4=test 5=measures 6=told 7=total 8=place 9=turn -/
def fd_law_right : FDef := ⟨1, 10, [.asg (.nm 1) (.call 24 [(.var 0), (.lst false [(.int 1), (.int 2), (.int 2), (.int 3)])]), .asg (.nm 2) (.call 24 [(.var 0), (.ix (.lst false [(.lst false [(.int 1), (.int 3), (.int 5)]), (.lst false [(.int 1), (.int 2), (.int 3), (.int 4), (.int 5)]), (.lst false [(.int 1), (.int 2), (.int 3), (.int 3)])]) (.bin .sub false (.var 1) (.int 1)))]), .asg (.nm 3) (.bi .tuple false [(.comp false [9] (.nm 9) .rg1 [(.var 1)] [] (.call 30 [(.var 0), (.var 2)]))]), .asg (.nm 4) (.call 34 [(.var 0), (.var 3)]), .asg (.nm 5) (.bi .tuple false [(.comp false [9] (.nm 9) .rg1 [(.var 1)] [] (.call 35 [(.var 0), (.var 2)]))]), .par [6, 7] [(.call 21 [(.var 3), (.var 4), (.var 5)]), (.tup [(.int 0), (.int 1)])], .ite (.or (.not (.bi (.isinst .tTuple) false [(.var 6)])) (.cmp .ne (.bi .len false [(.var 6)]) (.bin .add false (.var 1) (.int 1)))) [.ret (.bl false)] [], .for_ (.nm 8) .rg1 [(.bin .add false (.var 1) (.int 1))] [.ite (.cmp .ne (.ix (.var 6) (.var 8)) (.call 33 [(.var 3), (.var 4), (.var 5), (.var 8)])) [.ret (.bl false)] [], .asg (.nm 7) (.call 27 [(.var 7), (.ix (.var 6) (.var 8))])], .ret (.cmp .eq (.var 7) (.tup [(.call 20 [(.var 3), (.var 4)]), (.int 1)]))]⟩
/-- law: 0=script 1=spot 2=dice 3=odd 4=bend 5=told -/
def fd_law : FDef := ⟨1, 6, [.for_ (.nm 1) .rg1 [(.bi .max2 false [(.int 1), (.bi .min2 false [(.int 3), (.bi .len false [(.var 0)])])])] [.asg (.nm 2) (.call 22 [(.var 0), (.var 1)]), .ite (.or (.not (.call 36 [(.var 2)])) (.not (.call 36 [(.var 2)]))) [.ret (.bl false)] []], .asg (.tp [(.nm 3), (.nm 4)]) (.tup [(.tup [(.tup [(.int 1), (.neg (.int 1))]), (.tup [(.int 1), (.neg (.int 1))])]), (.tup [(.int 1), (.int 1), (.int 1), (.neg (.int 1))])]), .asg (.nm 5) (.lst false [(.call 21 [(.var 3), (.var 4), (.tup [(.tup [(.int 2), (.tup [(.int 1), (.int 2)])]), (.tup [(.int 2), (.tup [(.int 1), (.int 2)])])])]), (.call 21 [(.tup [(.tup [(.int 1), (.int 1)])]), (.tup [(.int 1), (.neg (.int 1))]), (.tup [(.tup [(.int 3), (.tup [(.int 1), (.int 2)])])])])]), .ret (.cmp .eq (.var 5) (.lst false [(.tup [(.tup [(.neg (.int 2)), (.int 1)]), (.tup [(.neg (.int 1)), (.int 4)]), (.tup [(.int 1), (.int 4)])]), (.tup [(.tup [(.neg (.int 1)), (.int 3)]), (.tup [(.int 1), (.int 3)])])]))]⟩
def fns : List (Option FDef) := [none, some fd_is_whole, some fd_power_of, some fd_fraction_in, some fd_is_row_in, some fd_is_part_in, none, some fd_is_sign, some fd_is_truth_in, some fd_is_any_truth, none, none, some fd_weighed_sum, some fd_plain_sum, some fd_part_in, some fd_are_truths, some fd_require_truths, some fd_require_copies_test, some fd_need_places, some fd_are_parts, some fd_copies_sum, some fd_splits, some fd_law_hx_dice, some fd_law_hx_up, some fd_law_hx_of, some fd_law_hx_shared, some fd_law_hx_fraction, some fd_law_hx_plus, some fd_law_hx_less, some fd_law_hx_times, some fd_law_hx_truth, some fd_law_hx_copies, some fd_law_hx_places, some fd_law_hx_part, some fd_law_hx_copies_test, some fd_law_measure, some fd_law_right, some fd_law]
def gvs : List (Option D) := [some (.int 2), none, none, none, none, none, some (.int 32), none, none, none, some (.int 3), some (.int 4096), none, none, none, none, none, none, none, none, none, none, none, none, none, none, none, none, none, none, none, none, none, none, none, none, none, none]
def pr : Prog := prOf fns gvs 1000
end LW

namespace LW
open PySem PySem.Spec
open PyProof.Rows L2 Ev
def topS (i : Nat) : Stmt := PySem.Challenge.pw_hardbits_k58_whole_sums_that_are_split.main.body.getD i (.Pass ⟨0, 0, 0, 0⟩)
abbrev st_is_whole : Stmt := topS 8
abbrev st_power_of : Stmt := topS 9
abbrev st_fraction_in : Stmt := topS 10
abbrev st_is_row_in : Stmt := topS 12
abbrev st_is_part_in : Stmt := topS 13
abbrev st_is_sign : Stmt := topS 16
abbrev st_is_truth_in : Stmt := topS 17
abbrev st_is_any_truth : Stmt := topS 18
abbrev st_weighed_sum : Stmt := topS 22
abbrev st_plain_sum : Stmt := topS 23
abbrev st_part_in : Stmt := topS 24
abbrev st_are_truths : Stmt := topS 25
abbrev st_require_truths : Stmt := topS 26
abbrev st_require_copies_test : Stmt := topS 27
abbrev st_need_places : Stmt := topS 28
abbrev st_are_parts : Stmt := topS 29
abbrev st_copies_sum : Stmt := topS 30
abbrev st_splits : Stmt := topS 31
abbrev st_law_hx_dice : Stmt := topS 33
abbrev st_law_hx_up : Stmt := topS 34
abbrev st_law_hx_of : Stmt := topS 35
abbrev st_law_hx_shared : Stmt := topS 36
abbrev st_law_hx_fraction : Stmt := topS 37
abbrev st_law_hx_plus : Stmt := topS 38
abbrev st_law_hx_less : Stmt := topS 39
abbrev st_law_hx_times : Stmt := topS 40
abbrev st_law_hx_truth : Stmt := topS 41
abbrev st_law_hx_copies : Stmt := topS 42
abbrev st_law_hx_places : Stmt := topS 43
abbrev st_law_hx_part : Stmt := topS 44
abbrev st_law_hx_copies_test : Stmt := topS 45
abbrev st_law_measure : Stmt := topS 46
abbrev st_law_right : Stmt := topS 47
abbrev st_law : Stmt := topS 48
def gs : List (Str × Bool) := [(("PAIR" : Str), false), (("is_whole" : Str), true), (("power_of" : Str), true), (("fraction_in" : Str), true), (("is_row_in" : Str), true), (("is_part_in" : Str), true), (("MOST_POINTS" : Str), false), (("is_sign" : Str), true), (("is_truth_in" : Str), true), (("is_any_truth" : Str), true), (("MOST_COPIES" : Str), false), (("MOST_PLACES" : Str), false), (("weighed_sum" : Str), true), (("plain_sum" : Str), true), (("part_in" : Str), true), (("are_truths" : Str), true), (("require_truths" : Str), true), (("require_copies_test" : Str), true), (("need_places" : Str), true), (("are_parts" : Str), true), (("copies_sum" : Str), true), (("splits" : Str), true), (("_law_hx_dice" : Str), true), (("_law_hx_up" : Str), true), (("_law_hx_of" : Str), true), (("_law_hx_shared" : Str), true), (("_law_hx_fraction" : Str), true), (("_law_hx_plus" : Str), true), (("_law_hx_less" : Str), true), (("_law_hx_times" : Str), true), (("_law_hx_truth" : Str), true), (("_law_hx_copies" : Str), true), (("_law_hx_places" : Str), true), (("_law_hx_part" : Str), true), (("_law_hx_copies_test" : Str), true), (("_law_measure" : Str), true), (("_law_right" : Str), true), (("law" : Str), true)]
def bl : List Str := ["len", "int", "abs", "max", "min", "sum", "all", "list", "tuple", "range", "enumerate", "zip", "isinstance", "bool"]
def gcdB : Bool := true
def ns_is_whole : List Str := ["value"]
theorem chk_is_whole : chkF gs bl gcdB ns_is_whole fd_is_whole st_is_whole = true := by decide +kernel
def ns_power_of : List Str := ["base", "times", "found", "turn"]
theorem chk_power_of : chkF gs bl gcdB ns_power_of fd_power_of st_power_of = true := by decide +kernel
def ns_fraction_in : List Str := ["top", "bottom", "shared"]
theorem chk_fraction_in : chkF gs bl gcdB ns_fraction_in fd_fraction_in st_fraction_in = true := by decide +kernel
def ns_is_row_in : List Str := ["many", "value", "number"]
theorem chk_is_row_in : chkF gs bl gcdB ns_is_row_in fd_is_row_in st_is_row_in = true := by decide +kernel
def ns_is_part_in : List Str := ["many", "value", "number"]
theorem chk_is_part_in : chkF gs bl gcdB ns_is_part_in fd_is_part_in st_is_part_in = true := by decide +kernel
def ns_is_sign : List Str := ["value"]
theorem chk_is_sign : chkF gs bl gcdB ns_is_sign fd_is_sign st_is_sign = true := by decide +kernel
def ns_is_truth_in : List Str := ["N", "value", "one"]
theorem chk_is_truth_in : chkF gs bl gcdB ns_is_truth_in fd_is_truth_in st_is_truth_in = true := by decide +kernel
def ns_is_any_truth : List Str := ["value"]
theorem chk_is_any_truth : chkF gs bl gcdB ns_is_any_truth fd_is_any_truth st_is_any_truth = true := by decide +kernel
def ns_weighed_sum : List Str := ["truths", "test", "factors", "found", "truth", "factor", "many", "row", "sign", "weight", "start", "at"]
theorem chk_weighed_sum : chkF gs bl gcdB ns_weighed_sum fd_weighed_sum st_weighed_sum = true := by decide +kernel
def ns_plain_sum : List Str := ["truths", "test", "truth"]
theorem chk_plain_sum : chkF gs bl gcdB ns_plain_sum fd_plain_sum st_plain_sum = true := by decide +kernel
def ns_part_in : List Str := ["truths", "test", "measures", "place", "factors", "bottom", "at", "below", "weights", "weight"]
theorem chk_part_in : chkF gs bl gcdB ns_part_in fd_part_in st_part_in = true := by decide +kernel
def ns_are_truths : List Str := ["value", "truth"]
theorem chk_are_truths : chkF gs bl gcdB ns_are_truths fd_are_truths st_are_truths = true := by decide +kernel
def ns_require_truths : List Str := ["value"]
theorem chk_require_truths : chkF gs bl gcdB ns_require_truths fd_require_truths st_require_truths = true := by decide +kernel
def ns_require_copies_test : List Str := ["many", "times", "value"]
theorem chk_require_copies_test : chkF gs bl gcdB ns_require_copies_test fd_require_copies_test st_require_copies_test = true := by decide +kernel
def ns_need_places : List Str := ["many", "times"]
theorem chk_need_places : chkF gs bl gcdB ns_need_places fd_need_places st_need_places = true := by decide +kernel
def ns_are_parts : List Str := ["many", "times", "value", "row"]
theorem chk_are_parts : chkF gs bl gcdB ns_are_parts fd_are_parts st_are_parts = true := by decide +kernel
def ns_copies_sum : List Str := ["truths", "test"]
theorem chk_copies_sum : chkF gs bl gcdB ns_copies_sum fd_copies_sum st_copies_sum = true := by decide +kernel
def ns_splits : List Str := ["truths", "test", "measures", "place"]
theorem chk_splits : chkF gs bl gcdB ns_splits fd_splits st_splits = true := by decide +kernel
def ns_law_hx_dice : List Str := ["script", "spot", "cell", "great", "seed"]
theorem chk_law_hx_dice : chkF gs bl gcdB ns_law_hx_dice fd_law_hx_dice st_law_hx_dice = true := by decide +kernel
def ns_law_hx_up : List Str := ["dice", "total", "found", "one", "two"]
theorem chk_law_hx_up : chkF gs bl gcdB ns_law_hx_up fd_law_hx_up st_law_hx_up = true := by decide +kernel
def ns_law_hx_of : List Str := ["dice", "items"]
theorem chk_law_hx_of : chkF gs bl gcdB ns_law_hx_of fd_law_hx_of st_law_hx_of = true := by decide +kernel
def ns_law_hx_shared : List Str := ["one", "other"]
theorem chk_law_hx_shared : chkF gs bl gcdB ns_law_hx_shared fd_law_hx_shared st_law_hx_shared = true := by decide +kernel
def ns_law_hx_fraction : List Str := ["top", "bottom", "shared"]
theorem chk_law_hx_fraction : chkF gs bl gcdB ns_law_hx_fraction fd_law_hx_fraction st_law_hx_fraction = true := by decide +kernel
def ns_law_hx_plus : List Str := ["one", "other"]
theorem chk_law_hx_plus : chkF gs bl gcdB ns_law_hx_plus fd_law_hx_plus st_law_hx_plus = true := by decide +kernel
def ns_law_hx_less : List Str := ["one", "other"]
theorem chk_law_hx_less : chkF gs bl gcdB ns_law_hx_less fd_law_hx_less st_law_hx_less = true := by decide +kernel
def ns_law_hx_times : List Str := ["one", "other"]
theorem chk_law_hx_times : chkF gs bl gcdB ns_law_hx_times fd_law_hx_times st_law_hx_times = true := by decide +kernel
def ns_law_hx_truth : List Str := ["dice", "many", "way", "point"]
theorem chk_law_hx_truth : chkF gs bl gcdB ns_law_hx_truth fd_law_hx_truth st_law_hx_truth = true := by decide +kernel
def ns_law_hx_copies : List Str := ["truths", "found", "truth", "longer", "one", "sign"]
theorem chk_law_hx_copies : chkF gs bl gcdB ns_law_hx_copies fd_law_hx_copies st_law_hx_copies = true := by decide +kernel
def ns_law_hx_places : List Str := ["many", "times", "at", "found", "left", "turn"]
theorem chk_law_hx_places : chkF gs bl gcdB ns_law_hx_places fd_law_hx_places st_law_hx_places = true := by decide +kernel
def ns_law_hx_part : List Str := ["truths", "test", "measures", "place", "many", "times", "total", "at", "sign", "weight", "spot", "point", "here"]
theorem chk_law_hx_part : chkF gs bl gcdB ns_law_hx_part fd_law_hx_part st_law_hx_part = true := by decide +kernel
def ns_law_hx_copies_test : List Str := ["dice", "truths", "some", "many", "way", "found", "base", "turn", "at", "truth"]
theorem chk_law_hx_copies_test : chkF gs bl gcdB ns_law_hx_copies_test fd_law_hx_copies_test st_law_hx_copies_test = true := by decide +kernel
def ns_law_measure : List Str := ["dice", "many", "way", "bottom", "terms", "found", "point", "number"]
theorem chk_law_measure : chkF gs bl gcdB ns_law_measure fd_law_measure st_law_measure = true := by decide +kernel
def ns_law_right : List Str := ["dice", "times", "many", "truths", "test", "measures", "told", "total", "place", "turn"]
theorem chk_law_right : chkF gs bl gcdB ns_law_right fd_law_right st_law_right = true := by decide +kernel
def ns_law : List Str := ["script", "spot", "dice", "odd", "bend", "told"]
theorem chk_law : chkF gs bl gcdB ns_law fd_law st_law = true := by decide +kernel
theorem bl_mk {K : PySem.W.Frag} (z0 : PySem.W.nsIn K mainGlobals "len" = some none) (z1 : PySem.W.nsIn K mainGlobals "int" = some none) (z2 : PySem.W.nsIn K mainGlobals "abs" = some none) (z3 : PySem.W.nsIn K mainGlobals "max" = some none) (z4 : PySem.W.nsIn K mainGlobals "min" = some none) (z5 : PySem.W.nsIn K mainGlobals "sum" = some none) (z6 : PySem.W.nsIn K mainGlobals "all" = some none) (z7 : PySem.W.nsIn K mainGlobals "list" = some none) (z8 : PySem.W.nsIn K mainGlobals "tuple" = some none) (z9 : PySem.W.nsIn K mainGlobals "range" = some none) (z10 : PySem.W.nsIn K mainGlobals "enumerate" = some none) (z11 : PySem.W.nsIn K mainGlobals "zip" = some none) (z12 : PySem.W.nsIn K mainGlobals "isinstance" = some none) (z13 : PySem.W.nsIn K mainGlobals "bool" = some none) : ∀ x, x ∈ bl → PySem.W.nsIn K mainGlobals x = some none := by
  intro x hx
  simp only [bl, List.mem_cons, List.not_mem_nil, or_false] at hx
  rcases hx with rfl | rfl | rfl | rfl | rfl | rfl | rfl | rfl | rfl | rfl | rfl | rfl | rfl | rfl
  · exact z0
  · exact z1
  · exact z2
  · exact z3
  · exact z4
  · exact z5
  · exact z6
  · exact z7
  · exact z8
  · exact z9
  · exact z10
  · exact z11
  · exact z12
  · exact z13
end LW
namespace LW
open PySem L2 Ev
/-! ### the drawn digits -/
def Di (n N : Nat) (S : Store) : Prop := ∃ a b c : Int, S[n]? = some (.lst [.int a, .int b, .int c]) ∧ 0 ≤ a ∧ 0 ≤ c ∧ c ≤ N
def Fr (n : Nat) (S S' : Store) : Prop := S.length ≤ S'.length ∧ ∀ m, m < S.length → m ≠ n → S'[m]? = S[m]?
theorem Fr.refl (n : Nat) (S : Store) : Fr n S S := ⟨Nat.le_refl _, fun _ _ _ => rfl⟩
theorem Fr.trans {n : Nat} {S S' S'' : Store} (h : Fr n S S') (h' : Fr n S' S'') : Fr n S S'' :=
  ⟨Nat.le_trans h.1 h'.1, fun m hm hn => (h'.2 m (Nat.lt_of_lt_of_le hm h.1) hn).trans (h.2 m hm hn)⟩
theorem Fr.set {n : Nat} {S : Store} {c : Cell} : Fr n S (S.set n c) := ⟨by simp, fun m hm hn => by rw [List.getElem?_set_ne (Ne.symm hn)]⟩
theorem Fr.app {n : Nat} {S : Store} {c : List Cell} : Fr n S (S ++ c) := ⟨by simp, fun m hm hn => by rw [List.getElem?_append_left hm]⟩
theorem Di.mono {n N M : Nat} {S : Store} (h : Di n N S) (hm : N ≤ M) : Di n M S := by
  obtain ⟨a, b, c, h1, h2, h3, h4⟩ := h
  exact ⟨a, b, c, h1, h2, h3, by omega⟩
theorem Di.lt {n N : Nat} {S : Store} (h : Di n N S) : n < S.length := by
  obtain ⟨a, b, c, h1, _⟩ := h
  exact (List.getElem?_eq_some_iff.mp h1).1
theorem Di.app {n N : Nat} {S : Store} {c : List Cell} (h : Di n N S) : Di n N (S ++ c) := by
  have hl := h.lt
  obtain ⟨a, b, c, h1, h2⟩ := h
  exact ⟨a, b, c, by rw [List.getElem?_append_left hl]; exact h1, h2⟩
theorem up_spec {C : Ev.Ctx} {S : Store} {n N : Nat} {t : Int} (h : Di n N S) (ht : 0 < t) (ht2 : t < 2 ^ 200) (hN : N < 2 ^ 100) :
    WP (runF C fd_law_hx_up [.ref n, .int t] S) fun d S' => ∃ r : Int, d = .int r ∧ 0 ≤ r ∧ r < t ∧ Fr n S S' ∧ Di n (N + 1) S' := by
  have hl := h.lt
  obtain ⟨a, b, c, hS, ha, hc0, hc⟩ := h
  have hg : ∀ x : Cell, (S.set n x)[n]? = some x := fun x => List.getElem?_set_self hl
  have i0 : doIx (.ref n) (.int 0) S = .ok (.int a) S := ixR (k := 0) hS rfl
  have i1 : ∀ x y z, doIx (.ref n) (.int 1) (S.set n (.lst [x, y, z])) = .ok y (S.set n (.lst [x, y, z])) := fun x y z => ixR (k := 1) (hg _) rfl
  have i2 : doIx (.ref n) (.int 2) S = .ok (.int c) S := ixR (k := 2) hS rfl
  have i3 : ∀ x y z, doIx (.ref n) (.int 2) (S.set n (.lst [x, y, z])) = .ok z (S.set n (.lst [x, y, z])) := fun x y z => ixR (k := 2) (hg _) rfl
  have s0 : ∀ d, setIx (.ref n) (.int 0) d S = .ok () (S.set n (.lst [d, .int b, .int c])) := fun d => setR (k := 0) hS (by simp)
  have s2 : ∀ d, setIx (.ref n) (.int 2) d S = .ok () (S.set n (.lst [.int a, .int b, d])) := fun d => setR (k := 2) hS (by simp)
  have hd : divOk t = true := divOk_of (a := 200) ht (by omega) (by decide)
  simp only [run_eq, ss_nil, ss_cons, s_nm, s_asg, s_par, par2, par3, s_aug, augD_add, augD_sub, s_augIx, augX_add, augX_sub, s_expr, s_ret, s_retN, s_pass, s_brk, s_cont, s_ite, s_for, s_while, seqF_nx, seqF_rt, seqF_bk, seqF_ct, fnD_rt, fnD_nx, g_nm, g_tp, g_ix, gs_nil, gs_cons, e_int, e_bl, e_non, e_str, e_var, getV_0, getV_s, e_gl, opt_some, e_bin, e_neg, negD_int, e_not, notD_bl, e_and, e_or, bE_app, bolD_bl, okM_app, e_cmp, e_chain, chE_app, e_ite, e_tup, e_lst, e_ix, e_rev, e_slA, e_slL, e_slH, e_slLH, sl1_L, sl1_H, sl2_LH, e_call, e_bi, e_mt, e_comp, es_nil, es_cons, ifD_bl, ifD_t, ifD_f, b_ok, b_assoc, fTurn_eq, turn_eq, inT_some, inC_some, soE_app, evT_nil, evT_one, t_nm, t_tp, ts_nil, ts_cons, mkL_f, mkL_t, o_add, o_sub, c_lt, c_le, c_gt, c_ge, c_eqI, c_neI, b_int, b_intB, b_abs, b_max2, b_min2, b_gcd, b_lenT, b_lenL, b_lenS, b_tupT, b_tupL, b_lstT, b_lstL, b_isiT, b_isiI, b_isiB, revT, revL, ixT0, ixT1, ixT2, ixL0, ixL1, isI, q_vlT, q_vlL, q_vlS, q_enT, q_enL, q_zpTT, q_zpTL, q_zpLT, q_zpLL, forD_some, List.set_cons_zero, List.set_cons_succ, List.map_cons, List.map_nil, List.length_cons, List.length_nil, List.cons_append, List.nil_append, List.replicate_succ, List.replicate_zero, Nat.reduceAdd, Nat.reduceSub, Nat.reduceEqDiff, if_true, Option.bind_some, wipeD, fd_law_hx_up, i0, s0, i2, s2]
  by_cases h0 : 0 < a
  · simp only [run_eq, ss_nil, ss_cons, s_nm, s_asg, s_par, par2, par3, s_aug, augD_add, augD_sub, s_augIx, augX_add, augX_sub, s_expr, s_ret, s_retN, s_pass, s_brk, s_cont, s_ite, s_for, s_while, seqF_nx, seqF_rt, seqF_bk, seqF_ct, fnD_rt, fnD_nx, g_nm, g_tp, g_ix, gs_nil, gs_cons, e_int, e_bl, e_non, e_str, e_var, getV_0, getV_s, e_gl, opt_some, e_bin, e_neg, negD_int, e_not, notD_bl, e_and, e_or, bE_app, bolD_bl, okM_app, e_cmp, e_chain, chE_app, e_ite, e_tup, e_lst, e_ix, e_rev, e_slA, e_slL, e_slH, e_slLH, sl1_L, sl1_H, sl2_LH, e_call, e_bi, e_mt, e_comp, es_nil, es_cons, ifD_bl, ifD_t, ifD_f, b_ok, b_assoc, fTurn_eq, turn_eq, inT_some, inC_some, soE_app, evT_nil, evT_one, t_nm, t_tp, ts_nil, ts_cons, mkL_f, mkL_t, o_add, o_sub, c_lt, c_le, c_gt, c_ge, c_eqI, c_neI, b_int, b_intB, b_abs, b_max2, b_min2, b_gcd, b_lenT, b_lenL, b_lenS, b_tupT, b_tupL, b_lstT, b_lstL, b_isiT, b_isiI, b_isiB, revT, revL, ixT0, ixT1, ixT2, ixL0, ixL1, isI, q_vlT, q_vlL, q_vlS, q_enT, q_enL, q_zpTT, q_zpTL, q_zpLT, q_zpLL, forD_some, List.set_cons_zero, List.set_cons_succ, List.map_cons, List.map_nil, List.length_cons, List.length_nil, List.cons_append, List.nil_append, List.replicate_succ, List.replicate_zero, Nat.reduceAdd, Nat.reduceSub, Nat.reduceEqDiff, if_true, Option.bind_some, wipeD, h0, decide_true, if_true, i0, s0, o_mod ht, o_fdiv hd ht]
    refine ⟨a % t, rfl, Int.emod_nonneg _ (by omega), Int.emod_lt_of_pos _ ht, Fr.set, a / t, b, c, hg _, Int.ediv_nonneg ha (by omega), hc0, by omega⟩
  · have m1 : big2 32452843 (c + 1) = true := big2_of (a := 30) (b := 101) (by decide) (by omega) (by decide)
    have m2 : ∀ x : Int, 0 ≤ x → x < 2305843009213693951 → big2 x x = true := fun x h1 h2 => big2_of (a := 70) (b := 70) (by omega) (by omega) (by decide)
    have m3 : ∀ x : Int, 0 ≤ x → x < 2305843009213693921 → big2 x 49979687 = true := fun x h1 h2 => big2_of (a := 70) (b := 30) (by omega) (by decide) (by decide)
    have m4 : big2 23 (c + 1) = true := big2_of (a := 30) (b := 101) (by decide) (by omega) (by decide)
    have p1 : (0 : Int) < 2305843009213693951 := by decide
    have p2 : (0 : Int) < 2305843009213693921 := by decide
    have hd3 : divOk 65539 = true := divOk_of (a := 20) (by decide) (by decide) (by decide)
    simp only [run_eq, ss_nil, ss_cons, s_nm, s_asg, s_par, par2, par3, s_aug, augD_add, augD_sub, s_augIx, augX_add, augX_sub, s_expr, s_ret, s_retN, s_pass, s_brk, s_cont, s_ite, s_for, s_while, seqF_nx, seqF_rt, seqF_bk, seqF_ct, fnD_rt, fnD_nx, g_nm, g_tp, g_ix, gs_nil, gs_cons, e_int, e_bl, e_non, e_str, e_var, getV_0, getV_s, e_gl, opt_some, e_bin, e_neg, negD_int, e_not, notD_bl, e_and, e_or, bE_app, bolD_bl, okM_app, e_cmp, e_chain, chE_app, e_ite, e_tup, e_lst, e_ix, e_rev, e_slA, e_slL, e_slH, e_slLH, sl1_L, sl1_H, sl2_LH, e_call, e_bi, e_mt, e_comp, es_nil, es_cons, ifD_bl, ifD_t, ifD_f, b_ok, b_assoc, fTurn_eq, turn_eq, inT_some, inC_some, soE_app, evT_nil, evT_one, t_nm, t_tp, ts_nil, ts_cons, mkL_f, mkL_t, o_add, o_sub, c_lt, c_le, c_gt, c_ge, c_eqI, c_neI, b_int, b_intB, b_abs, b_max2, b_min2, b_gcd, b_lenT, b_lenL, b_lenS, b_tupT, b_tupL, b_lstT, b_lstL, b_isiT, b_isiI, b_isiB, revT, revL, ixT0, ixT1, ixT2, ixL0, ixL1, isI, q_vlT, q_vlL, q_vlS, q_enT, q_enL, q_zpTT, q_zpTL, q_zpLT, q_zpLL, forD_some, List.set_cons_zero, List.set_cons_succ, List.map_cons, List.map_nil, List.length_cons, List.length_nil, List.cons_append, List.nil_append, List.replicate_succ, List.replicate_zero, Nat.reduceAdd, Nat.reduceSub, Nat.reduceEqDiff, if_true, Option.bind_some, wipeD, h0, decide_false, Bool.false_eq_true, if_false, i0, s0, i2, s2, i1, i3, o_mul m1, o_mod p1]
    have q1 : ∀ y : Int, 0 ≤ y % 2305843009213693951 ∧ y % 2305843009213693951 < 2305843009213693951 := fun y => ⟨Int.emod_nonneg _ (by decide), Int.emod_lt_of_pos _ p1⟩
    have q2 : ∀ y : Int, 0 ≤ y % 2305843009213693921 ∧ y % 2305843009213693921 < 2305843009213693921 := fun y => ⟨Int.emod_nonneg _ (by decide), Int.emod_lt_of_pos _ p2⟩
    have m5 : ∀ y : Int, big2 (y % 2305843009213693951) (y % 2305843009213693951) = true := fun y => m2 _ (q1 y).1 (q1 y).2
    have m6 : ∀ y : Int, big2 (y % 2305843009213693921) 49979687 = true := fun y => m3 _ (q2 y).1 (q2 y).2
    simp only [run_eq, ss_nil, ss_cons, s_nm, s_asg, s_par, par2, par3, s_aug, augD_add, augD_sub, s_augIx, augX_add, augX_sub, s_expr, s_ret, s_retN, s_pass, s_brk, s_cont, s_ite, s_for, s_while, seqF_nx, seqF_rt, seqF_bk, seqF_ct, fnD_rt, fnD_nx, g_nm, g_tp, g_ix, gs_nil, gs_cons, e_int, e_bl, e_non, e_str, e_var, getV_0, getV_s, e_gl, opt_some, e_bin, e_neg, negD_int, e_not, notD_bl, e_and, e_or, bE_app, bolD_bl, okM_app, e_cmp, e_chain, chE_app, e_ite, e_tup, e_lst, e_ix, e_rev, e_slA, e_slL, e_slH, e_slLH, sl1_L, sl1_H, sl2_LH, e_call, e_bi, e_mt, e_comp, es_nil, es_cons, ifD_bl, ifD_t, ifD_f, b_ok, b_assoc, fTurn_eq, turn_eq, inT_some, inC_some, soE_app, evT_nil, evT_one, t_nm, t_tp, ts_nil, ts_cons, mkL_f, mkL_t, o_add, o_sub, c_lt, c_le, c_gt, c_ge, c_eqI, c_neI, b_int, b_intB, b_abs, b_max2, b_min2, b_gcd, b_lenT, b_lenL, b_lenS, b_tupT, b_tupL, b_lstT, b_lstL, b_isiT, b_isiI, b_isiB, revT, revL, ixT0, ixT1, ixT2, ixL0, ixL1, isI, q_vlT, q_vlL, q_vlS, q_enT, q_enL, q_zpTT, q_zpTL, q_zpLT, q_zpLL, forD_some, List.set_cons_zero, List.set_cons_succ, List.map_cons, List.map_nil, List.length_cons, List.length_nil, List.cons_append, List.nil_append, List.replicate_succ, List.replicate_zero, Nat.reduceAdd, Nat.reduceSub, Nat.reduceEqDiff, if_true, Option.bind_some, wipeD, o_mul (m5 _), o_mod p2, o_mul (m6 _), i3, o_mul m4, o_fdiv hd3 (show (0 : Int) < 65539 by decide), o_mod ht]
    generalize (b + 32452843 * (c + 1)) % 2305843009213693951 = u
    generalize (u * u + 15485863) % 2305843009213693921 * 49979687 + u + 23 * (c + 1) = w
    exact ⟨w / 65539 % t, rfl, Int.emod_nonneg _ (by omega), Int.emod_lt_of_pos _ ht, Fr.set, a, b, c + 1, hg _, ha, by omega, by omega⟩
end LW
namespace LW
open PySem L2 Ev
/-! ### fractions -/
def frD (q : Rat) : D := .tup [.int q.num, .int q.den]
theorem num_eq (t b : Int) (h : 0 < b) : ((t : Rat) / (b : Rat)).num = t / (Int.gcd t b : Int) := by
  rw [← Rat.divInt_eq_div, Rat.num_divInt, Int.sign_eq_one_of_pos h, Int.one_mul, Int.gcd_comm]
theorem den_eq (t b : Int) (h : 0 < b) : (((t : Rat) / (b : Rat)).den : Int) = b / (Int.gcd t b : Int) := by
  rw [← Rat.divInt_eq_div, Rat.den_divInt, if_neg (by omega), Int.gcd_comm]
  have : (b.natAbs : Int) = b := by omega
  rw [Int.natCast_ediv, this]
theorem frD_mk (t b : Int) (h : 0 < b) : D.tup [.int (t / (Int.gcd t b : Int)), .int (b / (Int.gcd t b : Int))] = frD ((t : Rat) / (b : Rat)) := by
  unfold frD
  rw [num_eq t b h, den_eq t b h]
theorem frD_shal (q : Rat) : shal 40 (frD q) = true := rfl
theorem gcd_step (x y : Int) (hy : 0 < y) (hx : 0 ≤ x) : Int.gcd y (x % y) = Int.gcd x y := by
  obtain ⟨m, rfl⟩ := Int.eq_ofNat_of_zero_le hx
  obtain ⟨n, rfl⟩ := Int.eq_ofNat_of_zero_le (Int.le_of_lt hy)
  simp only [Int.gcd, ← Int.natCast_emod, Int.natAbs_natCast]
  rw [Nat.gcd_comm m n, Nat.gcd_comm n (m % n), ← Nat.gcd_rec]
theorem shared_spec {C : Ev.Ctx} {S : Store} {x y : Int} : runF C fd_law_hx_shared [.int x, .int y] S = .ok (.int (Int.gcd x y : Int)) S := by
  simp only [run_eq, ss_nil, ss_cons, s_nm, s_asg, s_par, par2, par3, s_aug, augD_add, augD_sub, s_augIx, augX_add, augX_sub, s_expr, s_ret, s_retN, s_pass, s_brk, s_cont, s_ite, s_for, s_while, seqF_nx, seqF_rt, seqF_bk, seqF_ct, fnD_rt, fnD_nx, g_nm, g_tp, g_ix, gs_nil, gs_cons, e_int, e_bl, e_non, e_str, e_var, getV_0, getV_s, e_gl, opt_some, e_bin, e_neg, negD_int, e_not, notD_bl, e_and, e_or, bE_app, bolD_bl, okM_app, e_cmp, e_chain, chE_app, e_ite, e_tup, e_lst, e_ix, e_rev, e_slA, e_slL, e_slH, e_slLH, sl1_L, sl1_H, sl2_LH, e_call, e_bi, e_mt, e_comp, es_nil, es_cons, ifD_bl, ifD_t, ifD_f, b_ok, b_assoc, fTurn_eq, turn_eq, inT_some, inC_some, soE_app, evT_nil, evT_one, t_nm, t_tp, ts_nil, ts_cons, mkL_f, mkL_t, o_add, o_sub, c_lt, c_le, c_gt, c_ge, c_eqI, c_neI, b_int, b_intB, b_abs, b_max2, b_min2, b_gcd, b_lenT, b_lenL, b_lenS, b_tupT, b_tupL, b_lstT, b_lstL, b_isiT, b_isiI, b_isiB, revT, revL, ixT0, ixT1, ixT2, ixL0, ixL1, isI, q_vlT, q_vlL, q_vlS, q_enT, q_enL, q_zpTT, q_zpTL, q_zpLT, q_zpLL, forD_some, List.set_cons_zero, List.set_cons_succ, List.map_cons, List.map_nil, List.length_cons, List.length_nil, List.cons_append, List.nil_append, List.replicate_succ, List.replicate_zero, Nat.reduceAdd, Nat.reduceSub, Nat.reduceEqDiff, if_true, Option.bind_some, wipeD, fd_law_hx_shared]
  have abs0 : ∀ z : Int, (if z < 0 then -z else z) = (z.natAbs : Int) := fun z => by split <;> omega
  rw [abs0, abs0]
  have fuel : y.natAbs < envFuel [some (D.int (x.natAbs : Int)), some (D.int (y.natAbs : Int))] := by
    simp only [envFuel]; omega
  have w := while_inv (S := S) (c := evE C (.cmp .gt (.var 1) (.int 0))) (f := evSs C [.par [0, 1] [(.var 1), (.bin .mod false (.bi .int false [(.var 0)]) (.var 1))]])
    (P := fun f S' => f = .nx [some (.int (Int.gcd x y : Int)), some (.int 0)] ∧ S' = S)
    (fun k env S' => ∃ a b : Int, env = [some (.int a), some (.int b)] ∧ 0 ≤ a ∧ 0 ≤ b ∧ Int.gcd a b = Int.gcd x y ∧ b.natAbs = k ∧ S' = S) y.natAbs
    ⟨(x.natAbs : Int), (y.natAbs : Int), rfl, by omega, by omega, by simp [Int.gcd], by simp, rfl⟩ fuel fun k env S' h => by
      obtain ⟨a, b, rfl, ha, hb, hg, hk, rfl⟩ := h
      simp only [run_eq, ss_nil, ss_cons, s_nm, s_asg, s_par, par2, par3, s_aug, augD_add, augD_sub, s_augIx, augX_add, augX_sub, s_expr, s_ret, s_retN, s_pass, s_brk, s_cont, s_ite, s_for, s_while, seqF_nx, seqF_rt, seqF_bk, seqF_ct, fnD_rt, fnD_nx, g_nm, g_tp, g_ix, gs_nil, gs_cons, e_int, e_bl, e_non, e_str, e_var, getV_0, getV_s, e_gl, opt_some, e_bin, e_neg, negD_int, e_not, notD_bl, e_and, e_or, bE_app, bolD_bl, okM_app, e_cmp, e_chain, chE_app, e_ite, e_tup, e_lst, e_ix, e_rev, e_slA, e_slL, e_slH, e_slLH, sl1_L, sl1_H, sl2_LH, e_call, e_bi, e_mt, e_comp, es_nil, es_cons, ifD_bl, ifD_t, ifD_f, b_ok, b_assoc, fTurn_eq, turn_eq, inT_some, inC_some, soE_app, evT_nil, evT_one, t_nm, t_tp, ts_nil, ts_cons, mkL_f, mkL_t, o_add, o_sub, c_lt, c_le, c_gt, c_ge, c_eqI, c_neI, b_int, b_intB, b_abs, b_max2, b_min2, b_gcd, b_lenT, b_lenL, b_lenS, b_tupT, b_tupL, b_lstT, b_lstL, b_isiT, b_isiI, b_isiB, revT, revL, ixT0, ixT1, ixT2, ixL0, ixL1, isI, q_vlT, q_vlL, q_vlS, q_enT, q_enL, q_zpTT, q_zpTL, q_zpLT, q_zpLL, forD_some, List.set_cons_zero, List.set_cons_succ, List.map_cons, List.map_nil, List.length_cons, List.length_nil, List.cons_append, List.nil_append, List.replicate_succ, List.replicate_zero, Nat.reduceAdd, Nat.reduceSub, Nat.reduceEqDiff, if_true, Option.bind_some, wipeD, WP_ok]
      by_cases h0 : 0 < b
      · refine .inl ⟨by simp [h0], ?_⟩
        simp only [run_eq, ss_nil, ss_cons, s_nm, s_asg, s_par, par2, par3, s_aug, augD_add, augD_sub, s_augIx, augX_add, augX_sub, s_expr, s_ret, s_retN, s_pass, s_brk, s_cont, s_ite, s_for, s_while, seqF_nx, seqF_rt, seqF_bk, seqF_ct, fnD_rt, fnD_nx, g_nm, g_tp, g_ix, gs_nil, gs_cons, e_int, e_bl, e_non, e_str, e_var, getV_0, getV_s, e_gl, opt_some, e_bin, e_neg, negD_int, e_not, notD_bl, e_and, e_or, bE_app, bolD_bl, okM_app, e_cmp, e_chain, chE_app, e_ite, e_tup, e_lst, e_ix, e_rev, e_slA, e_slL, e_slH, e_slLH, sl1_L, sl1_H, sl2_LH, e_call, e_bi, e_mt, e_comp, es_nil, es_cons, ifD_bl, ifD_t, ifD_f, b_ok, b_assoc, fTurn_eq, turn_eq, inT_some, inC_some, soE_app, evT_nil, evT_one, t_nm, t_tp, ts_nil, ts_cons, mkL_f, mkL_t, o_add, o_sub, c_lt, c_le, c_gt, c_ge, c_eqI, c_neI, b_int, b_intB, b_abs, b_max2, b_min2, b_gcd, b_lenT, b_lenL, b_lenS, b_tupT, b_tupL, b_lstT, b_lstL, b_isiT, b_isiI, b_isiB, revT, revL, ixT0, ixT1, ixT2, ixL0, ixL1, isI, q_vlT, q_vlL, q_vlS, q_enT, q_enL, q_zpTT, q_zpTL, q_zpLT, q_zpLL, forD_some, List.set_cons_zero, List.set_cons_succ, List.map_cons, List.map_nil, List.length_cons, List.length_nil, List.cons_append, List.nil_append, List.replicate_succ, List.replicate_zero, Nat.reduceAdd, Nat.reduceSub, Nat.reduceEqDiff, if_true, Option.bind_some, wipeD, o_mod h0, WP_ok]
        have h1 := Int.emod_nonneg a (show b ≠ 0 by omega)
        have h2 := Int.emod_lt_of_pos a h0
        exact ⟨(a % b).natAbs, by omega, b, a % b, rfl, hb, h1, by rw [gcd_step a b h0 ha]; exact hg, by simp⟩
      · have hb0 : b = 0 := by omega
        subst hb0
        refine .inr ⟨by simp, ?_⟩
        have : (Int.gcd x y : Int) = a := by rw [← hg]; simp [Int.gcd]; omega
        rw [this]
        simp
  obtain ⟨f, S', e, rfl, rfl⟩ := w.get
  rw [e]
  simp only [run_eq, ss_nil, ss_cons, s_nm, s_asg, s_par, par2, par3, s_aug, augD_add, augD_sub, s_augIx, augX_add, augX_sub, s_expr, s_ret, s_retN, s_pass, s_brk, s_cont, s_ite, s_for, s_while, seqF_nx, seqF_rt, seqF_bk, seqF_ct, fnD_rt, fnD_nx, g_nm, g_tp, g_ix, gs_nil, gs_cons, e_int, e_bl, e_non, e_str, e_var, getV_0, getV_s, e_gl, opt_some, e_bin, e_neg, negD_int, e_not, notD_bl, e_and, e_or, bE_app, bolD_bl, okM_app, e_cmp, e_chain, chE_app, e_ite, e_tup, e_lst, e_ix, e_rev, e_slA, e_slL, e_slH, e_slLH, sl1_L, sl1_H, sl2_LH, e_call, e_bi, e_mt, e_comp, es_nil, es_cons, ifD_bl, ifD_t, ifD_f, b_ok, b_assoc, fTurn_eq, turn_eq, inT_some, inC_some, soE_app, evT_nil, evT_one, t_nm, t_tp, ts_nil, ts_cons, mkL_f, mkL_t, o_add, o_sub, c_lt, c_le, c_gt, c_ge, c_eqI, c_neI, b_int, b_intB, b_abs, b_max2, b_min2, b_gcd, b_lenT, b_lenL, b_lenS, b_tupT, b_tupL, b_lstT, b_lstL, b_isiT, b_isiI, b_isiB, revT, revL, ixT0, ixT1, ixT2, ixL0, ixL1, isI, q_vlT, q_vlL, q_vlS, q_enT, q_enL, q_zpTT, q_zpTL, q_zpLT, q_zpLL, forD_some, List.set_cons_zero, List.set_cons_succ, List.map_cons, List.map_nil, List.length_cons, List.length_nil, List.cons_append, List.nil_append, List.replicate_succ, List.replicate_zero, Nat.reduceAdd, Nat.reduceSub, Nat.reduceEqDiff, if_true, Option.bind_some, wipeD]
theorem gcd_pos (t b : Int) (h : 0 < b) : (0 : Int) < (Int.gcd t b : Int) := by
  have := Int.gcd_pos_of_ne_zero_right t (show b ≠ 0 by omega)
  omega
theorem gcd_le (t b : Int) (h : 0 < b) : (Int.gcd t b : Int) ≤ b := Int.le_of_dvd h (Int.gcd_dvd_right t b)
theorem fraction_spec {C : Ev.Ctx} {S : Store} {t b : Int} (hc : ∀ x y, C.cl 25 [.int x, .int y] S = .ok (.int (Int.gcd x y : Int)) S) (hb : 0 < b) (hb2 : b < 2 ^ 8000) : runF C fd_law_hx_fraction [.int t, .int b] S = .ok (frD ((t : Rat) / (b : Rat))) S := by
  have hg := gcd_pos t b hb
  have hl := gcd_le t b hb
  rw [← frD_mk t b hb]
  simp only [run_eq, ss_nil, ss_cons, s_nm, s_asg, s_par, par2, par3, s_aug, augD_add, augD_sub, s_augIx, augX_add, augX_sub, s_expr, s_ret, s_retN, s_pass, s_brk, s_cont, s_ite, s_for, s_while, seqF_nx, seqF_rt, seqF_bk, seqF_ct, fnD_rt, fnD_nx, g_nm, g_tp, g_ix, gs_nil, gs_cons, e_int, e_bl, e_non, e_str, e_var, getV_0, getV_s, e_gl, opt_some, e_bin, e_neg, negD_int, e_not, notD_bl, e_and, e_or, bE_app, bolD_bl, okM_app, e_cmp, e_chain, chE_app, e_ite, e_tup, e_lst, e_ix, e_rev, e_slA, e_slL, e_slH, e_slLH, sl1_L, sl1_H, sl2_LH, e_call, e_bi, e_mt, e_comp, es_nil, es_cons, ifD_bl, ifD_t, ifD_f, b_ok, b_assoc, fTurn_eq, turn_eq, inT_some, inC_some, soE_app, evT_nil, evT_one, t_nm, t_tp, ts_nil, ts_cons, mkL_f, mkL_t, o_add, o_sub, c_lt, c_le, c_gt, c_ge, c_eqI, c_neI, b_int, b_intB, b_abs, b_max2, b_min2, b_gcd, b_lenT, b_lenL, b_lenS, b_tupT, b_tupL, b_lstT, b_lstL, b_isiT, b_isiI, b_isiB, revT, revL, ixT0, ixT1, ixT2, ixL0, ixL1, isI, q_vlT, q_vlL, q_vlS, q_enT, q_enL, q_zpTT, q_zpTL, q_zpLT, q_zpLL, forD_some, List.set_cons_zero, List.set_cons_succ, List.map_cons, List.map_nil, List.length_cons, List.length_nil, List.cons_append, List.nil_append, List.replicate_succ, List.replicate_zero, Nat.reduceAdd, Nat.reduceSub, Nat.reduceEqDiff, if_true, Option.bind_some, wipeD, fd_law_hx_fraction, hc]
  generalize (Int.gcd t b : Int) = g at hg hl
  have hd : divOk g = true := divOk_of (a := 8000) hg (by omega) (by decide)
  have hn : ¬ b < 0 := by omega
  simp only [run_eq, ss_nil, ss_cons, s_nm, s_asg, s_par, par2, par3, s_aug, augD_add, augD_sub, s_augIx, augX_add, augX_sub, s_expr, s_ret, s_retN, s_pass, s_brk, s_cont, s_ite, s_for, s_while, seqF_nx, seqF_rt, seqF_bk, seqF_ct, fnD_rt, fnD_nx, g_nm, g_tp, g_ix, gs_nil, gs_cons, e_int, e_bl, e_non, e_str, e_var, getV_0, getV_s, e_gl, opt_some, e_bin, e_neg, negD_int, e_not, notD_bl, e_and, e_or, bE_app, bolD_bl, okM_app, e_cmp, e_chain, chE_app, e_ite, e_tup, e_lst, e_ix, e_rev, e_slA, e_slL, e_slH, e_slLH, sl1_L, sl1_H, sl2_LH, e_call, e_bi, e_mt, e_comp, es_nil, es_cons, ifD_bl, ifD_t, ifD_f, b_ok, b_assoc, fTurn_eq, turn_eq, inT_some, inC_some, soE_app, evT_nil, evT_one, t_nm, t_tp, ts_nil, ts_cons, mkL_f, mkL_t, o_add, o_sub, c_lt, c_le, c_gt, c_ge, c_eqI, c_neI, b_int, b_intB, b_abs, b_max2, b_min2, b_gcd, b_lenT, b_lenL, b_lenS, b_tupT, b_tupL, b_lstT, b_lstL, b_isiT, b_isiI, b_isiB, revT, revL, ixT0, ixT1, ixT2, ixL0, ixL1, isI, q_vlT, q_vlL, q_vlS, q_enT, q_enL, q_zpTT, q_zpTL, q_zpLT, q_zpLL, forD_some, List.set_cons_zero, List.set_cons_succ, List.map_cons, List.map_nil, List.length_cons, List.length_nil, List.cons_append, List.nil_append, List.replicate_succ, List.replicate_zero, Nat.reduceAdd, Nat.reduceSub, Nat.reduceEqDiff, if_true, Option.bind_some, wipeD, hn, decide_false, Bool.false_eq_true, if_false, o_fdiv hd hg]
/-- small enough for the limits -/
def Sm (n : Nat) (q : Rat) : Prop := q.num.natAbs < 2 ^ n ∧ q.den < 2 ^ n
theorem den_pos (q : Rat) : (0 : Int) < q.den := by have := q.den_pos; omega
theorem q_eq (q : Rat) : (q.num : Rat) / ((q.den : Int) : Rat) = q := by
  rw [← Rat.divInt_eq_div]; exact Rat.num_divInt_den q
theorem den_ne (q : Rat) : ((q.den : Int) : Rat) ≠ 0 := by
  have := q.den_pos
  rw [Ne, ← Rat.intCast_zero, Rat.intCast_inj]; omega
theorem mulOk {a b : Int} (ha : a.natAbs < 2 ^ 1000) (hb : b.natAbs < 2 ^ 1000) : big2 a b = true := big2_of (a := 1000) (b := 1000) ha hb (by decide)
end LW
namespace LW
open PySem L2 Ev
def FrOk (cl : Nat → List D → M D) (g : Nat) : Prop := ∀ (S : Store) (t b : Int), 0 < b → b < 2 ^ 8000 → cl g [.int t, .int b] S = .ok (frD ((t : Rat) / (b : Rat))) S
theorem mul_pos' {a b : Int} (ha : 0 < a) (hb : 0 < b) : 0 < a * b := Int.mul_pos ha hb
theorem mul_bd {a b : Int} {m n : Nat} (ha : a.natAbs < 2 ^ m) (hb : b.natAbs < 2 ^ n) : (a * b).natAbs < 2 ^ (m + n) := by
  rw [Int.natAbs_mul, Nat.pow_add]
  exact Nat.mul_lt_mul'' ha hb
theorem den_mul_bd {p q : Rat} (hp : Sm 1000 p) (hq : Sm 1000 q) : ((p.den : Int) * (q.den : Int)) < 2 ^ 8000 := by
  have h := mul_bd (a := (p.den : Int)) (b := (q.den : Int)) (by simpa using hp.2) (by simpa using hq.2)
  have h2 : (2 : Nat) ^ (1000 + 1000) ≤ 2 ^ 8000 := Nat.pow_le_pow_right (by decide) (by decide)
  have hpos := mul_pos' (den_pos p) (den_pos q)
  generalize (p.den : Int) * (q.den : Int) = z at h hpos
  have h3 : z.natAbs < 2 ^ 8000 := Nat.lt_of_lt_of_le h h2
  have h4 : (z.natAbs : Int) = z := by omega
  rw [← h4]
  exact_mod_cast h3
theorem Sm.n {q : Rat} (h : Sm 1000 q) : q.num.natAbs < 2 ^ 1000 := h.1
theorem Sm.d {q : Rat} (h : Sm 1000 q) : (q.den : Int).natAbs < 2 ^ 1000 := by simpa using h.2
theorem times_spec {C : Ev.Ctx} {S : Store} {p q : Rat} (hf : FrOk C.cl 26) (hp : Sm 1000 p) (hq : Sm 1000 q) : runF C fd_law_hx_times [frD p, frD q] S = .ok (frD (p * q)) S := by
  have e : ((p.num * q.num : Int) : Rat) / (((p.den : Int) * (q.den : Int) : Int) : Rat) = p * q := by
    have h1 := q_eq p; have h2 := q_eq q; have h3 := den_ne p; have h4 := den_ne q
    rw [Rat.intCast_mul, Rat.intCast_mul]
    grind
  rw [← e]
  unfold frD
  simp only [run_eq, ss_nil, ss_cons, s_nm, s_asg, s_par, par2, par3, s_aug, augD_add, augD_sub, s_augIx, augX_add, augX_sub, s_expr, s_ret, s_retN, s_pass, s_brk, s_cont, s_ite, s_for, s_while, seqF_nx, seqF_rt, seqF_bk, seqF_ct, fnD_rt, fnD_nx, g_nm, g_tp, g_ix, gs_nil, gs_cons, e_int, e_bl, e_non, e_str, e_var, getV_0, getV_s, e_gl, opt_some, e_bin, e_neg, negD_int, e_not, notD_bl, e_and, e_or, bE_app, bolD_bl, okM_app, e_cmp, e_chain, chE_app, e_ite, e_tup, e_lst, e_ix, e_rev, e_slA, e_slL, e_slH, e_slLH, sl1_L, sl1_H, sl2_LH, e_call, e_bi, e_mt, e_comp, es_nil, es_cons, ifD_bl, ifD_t, ifD_f, b_ok, b_assoc, fTurn_eq, turn_eq, inT_some, inC_some, soE_app, evT_nil, evT_one, t_nm, t_tp, ts_nil, ts_cons, mkL_f, mkL_t, o_add, o_sub, c_lt, c_le, c_gt, c_ge, c_eqI, c_neI, b_int, b_intB, b_abs, b_max2, b_min2, b_gcd, b_lenT, b_lenL, b_lenS, b_tupT, b_tupL, b_lstT, b_lstL, b_isiT, b_isiI, b_isiB, revT, revL, ixT0, ixT1, ixT2, ixL0, ixL1, isI, q_vlT, q_vlL, q_vlS, q_enT, q_enL, q_zpTT, q_zpTL, q_zpLT, q_zpLL, forD_some, List.set_cons_zero, List.set_cons_succ, List.map_cons, List.map_nil, List.length_cons, List.length_nil, List.cons_append, List.nil_append, List.replicate_succ, List.replicate_zero, Nat.reduceAdd, Nat.reduceSub, Nat.reduceEqDiff, if_true, Option.bind_some, wipeD, fd_law_hx_times, o_mul (mulOk hp.n hq.n), o_mul (mulOk hp.d hq.d), hf S _ _ (mul_pos' (den_pos p) (den_pos q)) (den_mul_bd hp hq)]
  rfl
theorem plus_spec {C : Ev.Ctx} {S : Store} {p q : Rat} (hf : FrOk C.cl 26) (hp : Sm 1000 p) (hq : Sm 1000 q) : runF C fd_law_hx_plus [frD p, frD q] S = .ok (frD (p + q)) S := by
  have e : ((p.num * (q.den : Int) + q.num * (p.den : Int) : Int) : Rat) / (((p.den : Int) * (q.den : Int) : Int) : Rat) = p + q := by
    have h1 := q_eq p; have h2 := q_eq q; have h3 := den_ne p; have h4 := den_ne q
    rw [Rat.intCast_mul, Rat.intCast_add, Rat.intCast_mul, Rat.intCast_mul]
    grind
  rw [← e]
  unfold frD
  simp only [run_eq, ss_nil, ss_cons, s_nm, s_asg, s_par, par2, par3, s_aug, augD_add, augD_sub, s_augIx, augX_add, augX_sub, s_expr, s_ret, s_retN, s_pass, s_brk, s_cont, s_ite, s_for, s_while, seqF_nx, seqF_rt, seqF_bk, seqF_ct, fnD_rt, fnD_nx, g_nm, g_tp, g_ix, gs_nil, gs_cons, e_int, e_bl, e_non, e_str, e_var, getV_0, getV_s, e_gl, opt_some, e_bin, e_neg, negD_int, e_not, notD_bl, e_and, e_or, bE_app, bolD_bl, okM_app, e_cmp, e_chain, chE_app, e_ite, e_tup, e_lst, e_ix, e_rev, e_slA, e_slL, e_slH, e_slLH, sl1_L, sl1_H, sl2_LH, e_call, e_bi, e_mt, e_comp, es_nil, es_cons, ifD_bl, ifD_t, ifD_f, b_ok, b_assoc, fTurn_eq, turn_eq, inT_some, inC_some, soE_app, evT_nil, evT_one, t_nm, t_tp, ts_nil, ts_cons, mkL_f, mkL_t, o_add, o_sub, c_lt, c_le, c_gt, c_ge, c_eqI, c_neI, b_int, b_intB, b_abs, b_max2, b_min2, b_gcd, b_lenT, b_lenL, b_lenS, b_tupT, b_tupL, b_lstT, b_lstL, b_isiT, b_isiI, b_isiB, revT, revL, ixT0, ixT1, ixT2, ixL0, ixL1, isI, q_vlT, q_vlL, q_vlS, q_enT, q_enL, q_zpTT, q_zpTL, q_zpLT, q_zpLL, forD_some, List.set_cons_zero, List.set_cons_succ, List.map_cons, List.map_nil, List.length_cons, List.length_nil, List.cons_append, List.nil_append, List.replicate_succ, List.replicate_zero, Nat.reduceAdd, Nat.reduceSub, Nat.reduceEqDiff, if_true, Option.bind_some, wipeD, fd_law_hx_plus, o_mul (mulOk hp.n hq.d), o_mul (mulOk hq.n hp.d), o_mul (mulOk hp.d hq.d), hf S _ _ (mul_pos' (den_pos p) (den_pos q)) (den_mul_bd hp hq)]
  rfl
theorem less_spec {C : Ev.Ctx} {S : Store} {p q : Rat} (hf : FrOk C.cl 26) (hp : Sm 1000 p) (hq : Sm 1000 q) : runF C fd_law_hx_less [frD p, frD q] S = .ok (frD (p - q)) S := by
  have e : ((p.num * (q.den : Int) - q.num * (p.den : Int) : Int) : Rat) / (((p.den : Int) * (q.den : Int) : Int) : Rat) = p - q := by
    have h1 := q_eq p; have h2 := q_eq q; have h3 := den_ne p; have h4 := den_ne q
    rw [Rat.intCast_mul, Rat.intCast_sub, Rat.intCast_mul, Rat.intCast_mul]
    grind
  rw [← e]
  unfold frD
  simp only [run_eq, ss_nil, ss_cons, s_nm, s_asg, s_par, par2, par3, s_aug, augD_add, augD_sub, s_augIx, augX_add, augX_sub, s_expr, s_ret, s_retN, s_pass, s_brk, s_cont, s_ite, s_for, s_while, seqF_nx, seqF_rt, seqF_bk, seqF_ct, fnD_rt, fnD_nx, g_nm, g_tp, g_ix, gs_nil, gs_cons, e_int, e_bl, e_non, e_str, e_var, getV_0, getV_s, e_gl, opt_some, e_bin, e_neg, negD_int, e_not, notD_bl, e_and, e_or, bE_app, bolD_bl, okM_app, e_cmp, e_chain, chE_app, e_ite, e_tup, e_lst, e_ix, e_rev, e_slA, e_slL, e_slH, e_slLH, sl1_L, sl1_H, sl2_LH, e_call, e_bi, e_mt, e_comp, es_nil, es_cons, ifD_bl, ifD_t, ifD_f, b_ok, b_assoc, fTurn_eq, turn_eq, inT_some, inC_some, soE_app, evT_nil, evT_one, t_nm, t_tp, ts_nil, ts_cons, mkL_f, mkL_t, o_add, o_sub, c_lt, c_le, c_gt, c_ge, c_eqI, c_neI, b_int, b_intB, b_abs, b_max2, b_min2, b_gcd, b_lenT, b_lenL, b_lenS, b_tupT, b_tupL, b_lstT, b_lstL, b_isiT, b_isiI, b_isiB, revT, revL, ixT0, ixT1, ixT2, ixL0, ixL1, isI, q_vlT, q_vlL, q_vlS, q_enT, q_enL, q_zpTT, q_zpTL, q_zpLT, q_zpLL, forD_some, List.set_cons_zero, List.set_cons_succ, List.map_cons, List.map_nil, List.length_cons, List.length_nil, List.cons_append, List.nil_append, List.replicate_succ, List.replicate_zero, Nat.reduceAdd, Nat.reduceSub, Nat.reduceEqDiff, if_true, Option.bind_some, wipeD, fd_law_hx_less, o_mul (mulOk hp.n hq.d), o_mul (mulOk hq.n hp.d), o_mul (mulOk hp.d hq.d), hf S _ _ (mul_pos' (den_pos p) (den_pos q)) (den_mul_bd hp hq)]
  rfl
/-! ### draws -/
def tI (l : List Int) : D := .tup (l.map D.int)
def UpOk (cl : Nat → List D → M D) : Prop := ∀ (S : Store) (n N : Nat) (t : Int), Di n N S → 0 < t → t < 2 ^ 200 → N < 2 ^ 100 → WP (cl 23 [.ref n, .int t] S) fun d S' => ∃ r : Int, d = .int r ∧ 0 ≤ r ∧ r < t ∧ Fr n S S' ∧ Di n (N + 1) S'
theorem of_spec {C : Ev.Ctx} {S : Store} {n N : Nat} {xs : List D} (hu : UpOk C.cl) (h : Di n N S) (hN : N < 2 ^ 100) (h0 : xs ≠ []) (hx : xs.length < 100) :
    WP (runF C fd_law_hx_of [.ref n, .lst xs] S) fun d S' => d ∈ xs ∧ Fr n S S' ∧ Di n (N + 1) S' := by
  have hp : 0 < (xs.length : Int) := by have := List.length_pos_iff.mpr h0; omega
  simp only [run_eq, ss_nil, ss_cons, s_nm, s_asg, s_par, par2, par3, s_aug, augD_add, augD_sub, s_augIx, augX_add, augX_sub, s_expr, s_ret, s_retN, s_pass, s_brk, s_cont, s_ite, s_for, s_while, seqF_nx, seqF_rt, seqF_bk, seqF_ct, fnD_rt, fnD_nx, g_nm, g_tp, g_ix, gs_nil, gs_cons, e_int, e_bl, e_non, e_str, e_var, getV_0, getV_s, e_gl, opt_some, e_bin, e_neg, negD_int, e_not, notD_bl, e_and, e_or, bE_app, bolD_bl, okM_app, e_cmp, e_chain, chE_app, e_ite, e_tup, e_lst, e_ix, e_rev, e_slA, e_slL, e_slH, e_slLH, sl1_L, sl1_H, sl2_LH, e_call, e_bi, e_mt, e_comp, es_nil, es_cons, ifD_bl, ifD_t, ifD_f, b_ok, b_assoc, fTurn_eq, turn_eq, inT_some, inC_some, soE_app, evT_nil, evT_one, t_nm, t_tp, ts_nil, ts_cons, mkL_f, mkL_t, o_add, o_sub, c_lt, c_le, c_gt, c_ge, c_eqI, c_neI, b_int, b_intB, b_abs, b_max2, b_min2, b_gcd, b_lenT, b_lenL, b_lenS, b_tupT, b_tupL, b_lstT, b_lstL, b_isiT, b_isiI, b_isiB, revT, revL, ixT0, ixT1, ixT2, ixL0, ixL1, isI, q_vlT, q_vlL, q_vlS, q_enT, q_enL, q_zpTT, q_zpTL, q_zpLT, q_zpLL, forD_some, List.set_cons_zero, List.set_cons_succ, List.map_cons, List.map_nil, List.length_cons, List.length_nil, List.cons_append, List.nil_append, List.replicate_succ, List.replicate_zero, Nat.reduceAdd, Nat.reduceSub, Nat.reduceEqDiff, if_true, Option.bind_some, wipeD, fd_law_hx_of]
  refine WP_call (hu S n N _ h hp (by omega) hN) fun d S' ⟨r, e, h1, h2, h3, h4⟩ => ?_
  subst e
  have hr : r.toNat < xs.length := by omega
  simp only [run_eq, ss_nil, ss_cons, s_nm, s_asg, s_par, par2, par3, s_aug, augD_add, augD_sub, s_augIx, augX_add, augX_sub, s_expr, s_ret, s_retN, s_pass, s_brk, s_cont, s_ite, s_for, s_while, seqF_nx, seqF_rt, seqF_bk, seqF_ct, fnD_rt, fnD_nx, g_nm, g_tp, g_ix, gs_nil, gs_cons, e_int, e_bl, e_non, e_str, e_var, getV_0, getV_s, e_gl, opt_some, e_bin, e_neg, negD_int, e_not, notD_bl, e_and, e_or, bE_app, bolD_bl, okM_app, e_cmp, e_chain, chE_app, e_ite, e_tup, e_lst, e_ix, e_rev, e_slA, e_slL, e_slH, e_slLH, sl1_L, sl1_H, sl2_LH, e_call, e_bi, e_mt, e_comp, es_nil, es_cons, ifD_bl, ifD_t, ifD_f, b_ok, b_assoc, fTurn_eq, turn_eq, inT_some, inC_some, soE_app, evT_nil, evT_one, t_nm, t_tp, ts_nil, ts_cons, mkL_f, mkL_t, o_add, o_sub, c_lt, c_le, c_gt, c_ge, c_eqI, c_neI, b_int, b_intB, b_abs, b_max2, b_min2, b_gcd, b_lenT, b_lenL, b_lenS, b_tupT, b_tupL, b_lstT, b_lstL, b_isiT, b_isiI, b_isiB, revT, revL, ixT0, ixT1, ixT2, ixL0, ixL1, isI, q_vlT, q_vlL, q_vlS, q_enT, q_enL, q_zpTT, q_zpTL, q_zpLT, q_zpLL, forD_some, List.set_cons_zero, List.set_cons_succ, List.map_cons, List.map_nil, List.length_cons, List.length_nil, List.cons_append, List.nil_append, List.replicate_succ, List.replicate_zero, Nat.reduceAdd, Nat.reduceSub, Nat.reduceEqDiff, if_true, Option.bind_some, wipeD, ixL' (xs := xs) (i := r) (k := r.toNat) (by omega) (List.getElem?_eq_getElem hr), WP_ok]
  exact ⟨List.getElem_mem hr, h3, h4⟩
def SgL (l : List Int) : Prop := ∀ x, x ∈ l → x = 1 ∨ x = -1
theorem truth_spec {C : Ev.Ctx} {S : Store} {n N m : Nat} (hu : UpOk C.cl) (h : Di n N S) (hN : N + m + 1 < 2 ^ 100) (hm : m ≤ 100) :
    WP (runF C fd_law_hx_truth [.ref n, .int (m : Int)] S) fun d S' => ∃ l, d = tI l ∧ l.length = m ∧ SgL l ∧ Fr n S S' ∧ Di n (N + 1 + m) S' := by
  simp only [run_eq, ss_nil, ss_cons, s_nm, s_asg, s_par, par2, par3, s_aug, augD_add, augD_sub, s_augIx, augX_add, augX_sub, s_expr, s_ret, s_retN, s_pass, s_brk, s_cont, s_ite, s_for, s_while, seqF_nx, seqF_rt, seqF_bk, seqF_ct, fnD_rt, fnD_nx, g_nm, g_tp, g_ix, gs_nil, gs_cons, e_int, e_bl, e_non, e_str, e_var, getV_0, getV_s, e_gl, opt_some, e_bin, e_neg, negD_int, e_not, notD_bl, e_and, e_or, bE_app, bolD_bl, okM_app, e_cmp, e_chain, chE_app, e_ite, e_tup, e_lst, e_ix, e_rev, e_slA, e_slL, e_slH, e_slLH, sl1_L, sl1_H, sl2_LH, e_call, e_bi, e_mt, e_comp, es_nil, es_cons, ifD_bl, ifD_t, ifD_f, b_ok, b_assoc, fTurn_eq, turn_eq, inT_some, inC_some, soE_app, evT_nil, evT_one, t_nm, t_tp, ts_nil, ts_cons, mkL_f, mkL_t, o_add, o_sub, c_lt, c_le, c_gt, c_ge, c_eqI, c_neI, b_int, b_intB, b_abs, b_max2, b_min2, b_gcd, b_lenT, b_lenL, b_lenS, b_tupT, b_tupL, b_lstT, b_lstL, b_isiT, b_isiI, b_isiB, revT, revL, ixT0, ixT1, ixT2, ixL0, ixL1, isI, q_vlT, q_vlL, q_vlS, q_enT, q_enL, q_zpTT, q_zpTL, q_zpLT, q_zpLL, forD_some, List.set_cons_zero, List.set_cons_succ, List.map_cons, List.map_nil, List.length_cons, List.length_nil, List.cons_append, List.nil_append, List.replicate_succ, List.replicate_zero, Nat.reduceAdd, Nat.reduceSub, Nat.reduceEqDiff, if_true, Option.bind_some, wipeD, fd_law_hx_truth]
  refine WP_call (hu S n N _ h (by decide) (by decide) (by omega)) fun d S1 ⟨way, e, h1, h2, h3, h4⟩ => ?_
  subst e
  have hL : m ≤ LIM := by have e : LIM = 16777216 := rfl; omega
  simp only [run_eq, ss_nil, ss_cons, s_nm, s_asg, s_par, par2, par3, s_aug, augD_add, augD_sub, s_augIx, augX_add, augX_sub, s_expr, s_ret, s_retN, s_pass, s_brk, s_cont, s_ite, s_for, s_while, seqF_nx, seqF_rt, seqF_bk, seqF_ct, fnD_rt, fnD_nx, g_nm, g_tp, g_ix, gs_nil, gs_cons, e_int, e_bl, e_non, e_str, e_var, getV_0, getV_s, e_gl, opt_some, e_bin, e_neg, negD_int, e_not, notD_bl, e_and, e_or, bE_app, bolD_bl, okM_app, e_cmp, e_chain, chE_app, e_ite, e_tup, e_lst, e_ix, e_rev, e_slA, e_slL, e_slH, e_slLH, sl1_L, sl1_H, sl2_LH, e_call, e_bi, e_mt, e_comp, es_nil, es_cons, ifD_bl, ifD_t, ifD_f, b_ok, b_assoc, fTurn_eq, turn_eq, inT_some, inC_some, soE_app, evT_nil, evT_one, t_nm, t_tp, ts_nil, ts_cons, mkL_f, mkL_t, o_add, o_sub, c_lt, c_le, c_gt, c_ge, c_eqI, c_neI, b_int, b_intB, b_abs, b_max2, b_min2, b_gcd, b_lenT, b_lenL, b_lenS, b_tupT, b_tupL, b_lstT, b_lstL, b_isiT, b_isiI, b_isiB, revT, revL, ixT0, ixT1, ixT2, ixL0, ixL1, isI, q_vlT, q_vlL, q_vlS, q_enT, q_enL, q_zpTT, q_zpTL, q_zpLT, q_zpLL, forD_some, List.set_cons_zero, List.set_cons_succ, List.map_cons, List.map_nil, List.length_cons, List.length_nil, List.cons_append, List.nil_append, List.replicate_succ, List.replicate_zero, Nat.reduceAdd, Nat.reduceSub, Nat.reduceEqDiff, if_true, Option.bind_some, wipeD, q_rg1 hL, compD_some (show (natsD m).length ≤ LIM by rw [natsD_len]; exact hL)]
  refine WP_call (comp_inv (fun i acc S' => ∃ l : List Int, acc = l.map .int ∧ l.length = i ∧ SgL l ∧ Fr n S1 S' ∧ Di n (N + 1 + i) S') 0 ⟨[], rfl, rfl, fun x hx => (nomatch hx), Fr.refl _ _, h4⟩ (P := fun acc S' => ∃ l : List Int, acc = l.map .int ∧ l.length = m ∧ SgL l ∧ Fr n S1 S' ∧ Di n (N + 1 + m) S') ?_ ?_) fun ys S2 ⟨l, e, hl, hs, hf, hd⟩ => ?_
  · rintro i acc S' x ⟨l, rfl, hl, hs, hf, hd⟩ hi _ hx
    obtain ⟨rfl, hi2⟩ := natsD_get hx
    refine ⟨dep_nil, ?_⟩
    simp only [run_eq, ss_nil, ss_cons, s_nm, s_asg, s_par, par2, par3, s_aug, augD_add, augD_sub, s_augIx, augX_add, augX_sub, s_expr, s_ret, s_retN, s_pass, s_brk, s_cont, s_ite, s_for, s_while, seqF_nx, seqF_rt, seqF_bk, seqF_ct, fnD_rt, fnD_nx, g_nm, g_tp, g_ix, gs_nil, gs_cons, e_int, e_bl, e_non, e_str, e_var, getV_0, getV_s, e_gl, opt_some, e_bin, e_neg, negD_int, e_not, notD_bl, e_and, e_or, bE_app, bolD_bl, okM_app, e_cmp, e_chain, chE_app, e_ite, e_tup, e_lst, e_ix, e_rev, e_slA, e_slL, e_slH, e_slLH, sl1_L, sl1_H, sl2_LH, e_call, e_bi, e_mt, e_comp, es_nil, es_cons, ifD_bl, ifD_t, ifD_f, b_ok, b_assoc, fTurn_eq, turn_eq, inT_some, inC_some, soE_app, evT_nil, evT_one, t_nm, t_tp, ts_nil, ts_cons, mkL_f, mkL_t, o_add, o_sub, c_lt, c_le, c_gt, c_ge, c_eqI, c_neI, b_int, b_intB, b_abs, b_max2, b_min2, b_gcd, b_lenT, b_lenL, b_lenS, b_tupT, b_tupL, b_lstT, b_lstL, b_isiT, b_isiI, b_isiB, revT, revL, ixT0, ixT1, ixT2, ixL0, ixL1, isI, q_vlT, q_vlL, q_vlS, q_enT, q_enL, q_zpTT, q_zpTL, q_zpLT, q_zpLL, forD_some, List.set_cons_zero, List.set_cons_succ, List.map_cons, List.map_nil, List.length_cons, List.length_nil, List.cons_append, List.nil_append, List.replicate_succ, List.replicate_zero, Nat.reduceAdd, Nat.reduceSub, Nat.reduceEqDiff, if_true, Option.bind_some, wipeD]
    by_cases h0 : way = 0
    · simp only [run_eq, ss_nil, ss_cons, s_nm, s_asg, s_par, par2, par3, s_aug, augD_add, augD_sub, s_augIx, augX_add, augX_sub, s_expr, s_ret, s_retN, s_pass, s_brk, s_cont, s_ite, s_for, s_while, seqF_nx, seqF_rt, seqF_bk, seqF_ct, fnD_rt, fnD_nx, g_nm, g_tp, g_ix, gs_nil, gs_cons, e_int, e_bl, e_non, e_str, e_var, getV_0, getV_s, e_gl, opt_some, e_bin, e_neg, negD_int, e_not, notD_bl, e_and, e_or, bE_app, bolD_bl, okM_app, e_cmp, e_chain, chE_app, e_ite, e_tup, e_lst, e_ix, e_rev, e_slA, e_slL, e_slH, e_slLH, sl1_L, sl1_H, sl2_LH, e_call, e_bi, e_mt, e_comp, es_nil, es_cons, ifD_bl, ifD_t, ifD_f, b_ok, b_assoc, fTurn_eq, turn_eq, inT_some, inC_some, soE_app, evT_nil, evT_one, t_nm, t_tp, ts_nil, ts_cons, mkL_f, mkL_t, o_add, o_sub, c_lt, c_le, c_gt, c_ge, c_eqI, c_neI, b_int, b_intB, b_abs, b_max2, b_min2, b_gcd, b_lenT, b_lenL, b_lenS, b_tupT, b_tupL, b_lstT, b_lstL, b_isiT, b_isiI, b_isiB, revT, revL, ixT0, ixT1, ixT2, ixL0, ixL1, isI, q_vlT, q_vlL, q_vlS, q_enT, q_enL, q_zpTT, q_zpTL, q_zpLT, q_zpLL, forD_some, List.set_cons_zero, List.set_cons_succ, List.map_cons, List.map_nil, List.length_cons, List.length_nil, List.cons_append, List.nil_append, List.replicate_succ, List.replicate_zero, Nat.reduceAdd, Nat.reduceSub, Nat.reduceEqDiff, if_true, Option.bind_some, wipeD, h0, decide_true, WP_ok]
      refine ⟨l ++ [1], by simp, by simp [hl], fun x hx => ?_, hf, hd.mono (by omega)⟩
      rcases List.mem_append.mp hx with hx | hx
      · exact hs x hx
      · left; simpa using hx
    · simp only [run_eq, ss_nil, ss_cons, s_nm, s_asg, s_par, par2, par3, s_aug, augD_add, augD_sub, s_augIx, augX_add, augX_sub, s_expr, s_ret, s_retN, s_pass, s_brk, s_cont, s_ite, s_for, s_while, seqF_nx, seqF_rt, seqF_bk, seqF_ct, fnD_rt, fnD_nx, g_nm, g_tp, g_ix, gs_nil, gs_cons, e_int, e_bl, e_non, e_str, e_var, getV_0, getV_s, e_gl, opt_some, e_bin, e_neg, negD_int, e_not, notD_bl, e_and, e_or, bE_app, bolD_bl, okM_app, e_cmp, e_chain, chE_app, e_ite, e_tup, e_lst, e_ix, e_rev, e_slA, e_slL, e_slH, e_slLH, sl1_L, sl1_H, sl2_LH, e_call, e_bi, e_mt, e_comp, es_nil, es_cons, ifD_bl, ifD_t, ifD_f, b_ok, b_assoc, fTurn_eq, turn_eq, inT_some, inC_some, soE_app, evT_nil, evT_one, t_nm, t_tp, ts_nil, ts_cons, mkL_f, mkL_t, o_add, o_sub, c_lt, c_le, c_gt, c_ge, c_eqI, c_neI, b_int, b_intB, b_abs, b_max2, b_min2, b_gcd, b_lenT, b_lenL, b_lenS, b_tupT, b_tupL, b_lstT, b_lstL, b_isiT, b_isiI, b_isiB, revT, revL, ixT0, ixT1, ixT2, ixL0, ixL1, isI, q_vlT, q_vlL, q_vlS, q_enT, q_enL, q_zpTT, q_zpTL, q_zpLT, q_zpLL, forD_some, List.set_cons_zero, List.set_cons_succ, List.map_cons, List.map_nil, List.length_cons, List.length_nil, List.cons_append, List.nil_append, List.replicate_succ, List.replicate_zero, Nat.reduceAdd, Nat.reduceSub, Nat.reduceEqDiff, if_true, Option.bind_some, wipeD, h0, decide_false, Bool.false_eq_true, if_false]
      refine WP_call (hu S' n (N + 1 + i) _ hd (by decide) (by decide) (by omega)) fun d S3 ⟨r, e, g1, g2, g3, g4⟩ => ?_
      subst e
      simp only [run_eq, ss_nil, ss_cons, s_nm, s_asg, s_par, par2, par3, s_aug, augD_add, augD_sub, s_augIx, augX_add, augX_sub, s_expr, s_ret, s_retN, s_pass, s_brk, s_cont, s_ite, s_for, s_while, seqF_nx, seqF_rt, seqF_bk, seqF_ct, fnD_rt, fnD_nx, g_nm, g_tp, g_ix, gs_nil, gs_cons, e_int, e_bl, e_non, e_str, e_var, getV_0, getV_s, e_gl, opt_some, e_bin, e_neg, negD_int, e_not, notD_bl, e_and, e_or, bE_app, bolD_bl, okM_app, e_cmp, e_chain, chE_app, e_ite, e_tup, e_lst, e_ix, e_rev, e_slA, e_slL, e_slH, e_slLH, sl1_L, sl1_H, sl2_LH, e_call, e_bi, e_mt, e_comp, es_nil, es_cons, ifD_bl, ifD_t, ifD_f, b_ok, b_assoc, fTurn_eq, turn_eq, inT_some, inC_some, soE_app, evT_nil, evT_one, t_nm, t_tp, ts_nil, ts_cons, mkL_f, mkL_t, o_add, o_sub, c_lt, c_le, c_gt, c_ge, c_eqI, c_neI, b_int, b_intB, b_abs, b_max2, b_min2, b_gcd, b_lenT, b_lenL, b_lenS, b_tupT, b_tupL, b_lstT, b_lstL, b_isiT, b_isiI, b_isiB, revT, revL, ixT0, ixT1, ixT2, ixL0, ixL1, isI, q_vlT, q_vlL, q_vlS, q_enT, q_enL, q_zpTT, q_zpTL, q_zpLT, q_zpLL, forD_some, List.set_cons_zero, List.set_cons_succ, List.map_cons, List.map_nil, List.length_cons, List.length_nil, List.cons_append, List.nil_append, List.replicate_succ, List.replicate_zero, Nat.reduceAdd, Nat.reduceSub, Nat.reduceEqDiff, if_true, Option.bind_some, wipeD, o_mul (mulOk (a := 2) (b := r) (by decide) (by omega)), WP_ok]
      refine ⟨l ++ [1 - 2 * r], by simp, by simp [hl], fun x hx => ?_, hf.trans g3, g4.mono (by omega)⟩
      rcases List.mem_append.mp hx with hx | hx
      · exact hs x hx
      · have : x = 1 - 2 * r := by simpa using hx
        omega
  · rintro acc S' ⟨l, rfl, hl, hs, hf, hd⟩
    rw [natsD_len] at hl hd
    exact ⟨dep_nil, l, rfl, by omega, hs, hf, hd.mono (by omega)⟩
  · subst e
    simp only [run_eq, ss_nil, ss_cons, s_nm, s_asg, s_par, par2, par3, s_aug, augD_add, augD_sub, s_augIx, augX_add, augX_sub, s_expr, s_ret, s_retN, s_pass, s_brk, s_cont, s_ite, s_for, s_while, seqF_nx, seqF_rt, seqF_bk, seqF_ct, fnD_rt, fnD_nx, g_nm, g_tp, g_ix, gs_nil, gs_cons, e_int, e_bl, e_non, e_str, e_var, getV_0, getV_s, e_gl, opt_some, e_bin, e_neg, negD_int, e_not, notD_bl, e_and, e_or, bE_app, bolD_bl, okM_app, e_cmp, e_chain, chE_app, e_ite, e_tup, e_lst, e_ix, e_rev, e_slA, e_slL, e_slH, e_slLH, sl1_L, sl1_H, sl2_LH, e_call, e_bi, e_mt, e_comp, es_nil, es_cons, ifD_bl, ifD_t, ifD_f, b_ok, b_assoc, fTurn_eq, turn_eq, inT_some, inC_some, soE_app, evT_nil, evT_one, t_nm, t_tp, ts_nil, ts_cons, mkL_f, mkL_t, o_add, o_sub, c_lt, c_le, c_gt, c_ge, c_eqI, c_neI, b_int, b_intB, b_abs, b_max2, b_min2, b_gcd, b_lenT, b_lenL, b_lenS, b_tupT, b_tupL, b_lstT, b_lstL, b_isiT, b_isiI, b_isiB, revT, revL, ixT0, ixT1, ixT2, ixL0, ixL1, isI, q_vlT, q_vlL, q_vlS, q_enT, q_enL, q_zpTT, q_zpTL, q_zpLT, q_zpLL, forD_some, List.set_cons_zero, List.set_cons_succ, List.map_cons, List.map_nil, List.length_cons, List.length_nil, List.cons_append, List.nil_append, List.replicate_succ, List.replicate_zero, Nat.reduceAdd, Nat.reduceSub, Nat.reduceEqDiff, if_true, Option.bind_some, wipeD, WP_ok]
    exact ⟨l, rfl, hl, hs, h3.trans hf, hd⟩
end LW
namespace LW
open PySem L2 Ev
theorem lim_ge : 100000 ≤ LIM := by decide
def OfOk (cl : Nat → List D → M D) : Prop := ∀ (S : Store) (n N : Nat) (xs : List D), Di n N S → N < 2 ^ 100 → xs ≠ [] → xs.length < 100 → WP (cl 24 [.ref n, .lst xs] S) fun d S' => d ∈ xs ∧ Fr n S S' ∧ Di n (N + 1) S'
/-- a row of drawn numbers -/
theorem comp_draw {f : D → M (Option D)} {S : Store} {n N m : Nat} {R : Int → Prop} (h : Di n N S) (hN : N + m < 2 ^ 100)
    (hf : ∀ (i : Nat) (S' : Store) (M : Nat), i < m → Di n M S' → M < 2 ^ 100 → WP (f (.int (i : Int)) S') fun o S'' => ∃ r : Int, o = some (.int r) ∧ R r ∧ Fr n S' S'' ∧ Di n (M + 1) S'') :
    WP (compL [] f (natsD m) [] S) fun acc S' => ∃ l : List Int, acc = l.map .int ∧ l.length = m ∧ (∀ x, x ∈ l → R x) ∧ Fr n S S' ∧ Di n (N + m) S' := by
  refine comp_inv (fun i acc S' => ∃ l : List Int, acc = l.map .int ∧ l.length = i ∧ (∀ x, x ∈ l → R x) ∧ Fr n S S' ∧ Di n (N + i) S') 0 ⟨[], rfl, rfl, fun x hx => (nomatch hx), Fr.refl _ _, h⟩ ?_ ?_
  · rintro i acc S' x ⟨l, rfl, hl, hs, hfr, hd⟩ hi _ hx
    obtain ⟨rfl, hi2⟩ := natsD_get hx
    refine ⟨dep_nil, (hf i S' (N + i) hi2 hd (by omega)).mono fun o S3 ⟨r, e, g1, g2, g3⟩ => ?_⟩
    subst e
    refine ⟨l ++ [r], by simp, by simp [hl], fun x hx => ?_, hfr.trans g2, g3⟩
    rcases List.mem_append.mp hx with hx | hx
    · exact hs x hx
    · have : x = r := by simpa using hx
      subst this; exact g1
  · rintro acc S' ⟨l, rfl, hl, hs, hfr, hd⟩
    rw [natsD_len] at hl hd
    exact ⟨dep_nil, l, rfl, by omega, hs, hfr, hd.mono (by omega)⟩
/-- a measure: a row with values from 0 to 1 -/
structure Ms (B : Int) (ws : List Int) (m : Nat) : Prop where
  pos : 1 ≤ B
  bd : B ≤ 50000000000000000000000000
  len : ws.length = m
  rng : ∀ w, w ∈ ws → 0 ≤ w ∧ w ≤ B
def msD (p : Int × List Int) : D := .tup [.int p.1, tI p.2]
theorem measure_spec {C : Ev.Ctx} {S : Store} {n N m : Nat} {mi : Int} (hmi : mi = (m : Int)) (hu : UpOk C.cl) (ho : OfOk C.cl) (h : Di n N S) (hN : N + 100 < 2 ^ 100) (hm : m ≤ 10) :
    WP (runF C fd_law_measure [.ref n, .int mi] S) fun d S' => ∃ p, d = msD p ∧ Ms p.1 p.2 m ∧ Fr n S S' ∧ Di n (N + 50) S' := by
  have lg := lim_ge
  have hL : m ≤ LIM := by omega
  have hq : ∀ S, srcOf .rg1 [.int mi] S = some (natsD m, []) := fun S => q_rg1' hmi hL
  have p25 : doOp .pow false (.int 10) (.int 25) = fun S => .ok (.int 10000000000000000000000000) S := by
    funext S
    have := o_pow (m := false) (S := S) (i := 10) 25 25 (by decide +kernel)
    simpa using this
  simp only [run_eq, ss_nil, ss_cons, s_nm, s_asg, s_par, par2, par3, s_aug, augD_add, augD_sub, s_augIx, augX_add, augX_sub, s_expr, s_ret, s_retN, s_pass, s_brk, s_cont, s_ite, s_for, s_while, seqF_nx, seqF_rt, seqF_bk, seqF_ct, fnD_rt, fnD_nx, g_nm, g_tp, g_ix, gs_nil, gs_cons, e_int, e_bl, e_non, e_str, e_var, getV_0, getV_s, e_gl, opt_some, e_bin, e_neg, negD_int, e_not, notD_bl, e_and, e_or, bE_app, bolD_bl, okM_app, e_cmp, e_chain, chE_app, e_ite, e_tup, e_lst, e_ix, e_rev, e_slA, e_slL, e_slH, e_slLH, sl1_L, sl1_H, sl2_LH, e_call, e_bi, e_mt, e_comp, es_nil, es_cons, ifD_bl, ifD_t, ifD_f, b_ok, b_assoc, fTurn_eq, turn_eq, inT_some, inC_some, soE_app, evT_nil, evT_one, t_nm, t_tp, ts_nil, ts_cons, mkL_f, mkL_t, o_add, o_sub, c_lt, c_le, c_gt, c_ge, c_eqI, c_neI, b_int, b_intB, b_abs, b_max2, b_min2, b_gcd, b_lenT, b_lenL, b_lenS, b_tupT, b_tupL, b_lstT, b_lstL, b_isiT, b_isiI, b_isiB, revT, revL, ixT0, ixT1, ixT2, ixL0, ixL1, isI, q_vlT, q_vlL, q_vlS, q_enT, q_enL, q_zpTT, q_zpTL, q_zpLT, q_zpLL, forD_some, List.set_cons_zero, List.set_cons_succ, List.map_cons, List.map_nil, List.length_cons, List.length_nil, List.cons_append, List.nil_append, List.replicate_succ, List.replicate_zero, Nat.reduceAdd, Nat.reduceSub, Nat.reduceEqDiff, if_true, Option.bind_some, wipeD, fd_law_measure]
  refine WP_call (hu S n N _ h (by decide) (by decide) (by omega)) fun d S1 ⟨way, e, _, _, f1, d1⟩ => ?_
  subst e
  simp only [run_eq, ss_nil, ss_cons, s_nm, s_asg, s_par, par2, par3, s_aug, augD_add, augD_sub, s_augIx, augX_add, augX_sub, s_expr, s_ret, s_retN, s_pass, s_brk, s_cont, s_ite, s_for, s_while, seqF_nx, seqF_rt, seqF_bk, seqF_ct, fnD_rt, fnD_nx, g_nm, g_tp, g_ix, gs_nil, gs_cons, e_int, e_bl, e_non, e_str, e_var, getV_0, getV_s, e_gl, opt_some, e_bin, e_neg, negD_int, e_not, notD_bl, e_and, e_or, bE_app, bolD_bl, okM_app, e_cmp, e_chain, chE_app, e_ite, e_tup, e_lst, e_ix, e_rev, e_slA, e_slL, e_slH, e_slLH, sl1_L, sl1_H, sl2_LH, e_call, e_bi, e_mt, e_comp, es_nil, es_cons, ifD_bl, ifD_t, ifD_f, b_ok, b_assoc, fTurn_eq, turn_eq, inT_some, inC_some, soE_app, evT_nil, evT_one, t_nm, t_tp, ts_nil, ts_cons, mkL_f, mkL_t, o_add, o_sub, c_lt, c_le, c_gt, c_ge, c_eqI, c_neI, b_int, b_intB, b_abs, b_max2, b_min2, b_gcd, b_lenT, b_lenL, b_lenS, b_tupT, b_tupL, b_lstT, b_lstL, b_isiT, b_isiI, b_isiB, revT, revL, ixT0, ixT1, ixT2, ixL0, ixL1, isI, q_vlT, q_vlL, q_vlS, q_enT, q_enL, q_zpTT, q_zpTL, q_zpLT, q_zpLL, forD_some, List.set_cons_zero, List.set_cons_succ, List.map_cons, List.map_nil, List.length_cons, List.length_nil, List.cons_append, List.nil_append, List.replicate_succ, List.replicate_zero, Nat.reduceAdd, Nat.reduceSub, Nat.reduceEqDiff, if_true, Option.bind_some, wipeD]
  refine WP_call (hu S1 n _ _ d1 (by decide) (by decide) (by omega)) fun d S2 ⟨bt, e, b1, b2, f2, d2⟩ => ?_
  subst e
  simp only [run_eq, ss_nil, ss_cons, s_nm, s_asg, s_par, par2, par3, s_aug, augD_add, augD_sub, s_augIx, augX_add, augX_sub, s_expr, s_ret, s_retN, s_pass, s_brk, s_cont, s_ite, s_for, s_while, seqF_nx, seqF_rt, seqF_bk, seqF_ct, fnD_rt, fnD_nx, g_nm, g_tp, g_ix, gs_nil, gs_cons, e_int, e_bl, e_non, e_str, e_var, getV_0, getV_s, e_gl, opt_some, e_bin, e_neg, negD_int, e_not, notD_bl, e_and, e_or, bE_app, bolD_bl, okM_app, e_cmp, e_chain, chE_app, e_ite, e_tup, e_lst, e_ix, e_rev, e_slA, e_slL, e_slH, e_slLH, sl1_L, sl1_H, sl2_LH, e_call, e_bi, e_mt, e_comp, es_nil, es_cons, ifD_bl, ifD_t, ifD_f, b_ok, b_assoc, fTurn_eq, turn_eq, inT_some, inC_some, soE_app, evT_nil, evT_one, t_nm, t_tp, ts_nil, ts_cons, mkL_f, mkL_t, o_add, o_sub, c_lt, c_le, c_gt, c_ge, c_eqI, c_neI, b_int, b_intB, b_abs, b_max2, b_min2, b_gcd, b_lenT, b_lenL, b_lenS, b_tupT, b_tupL, b_lstT, b_lstL, b_isiT, b_isiI, b_isiB, revT, revL, ixT0, ixT1, ixT2, ixL0, ixL1, isI, q_vlT, q_vlL, q_vlS, q_enT, q_enL, q_zpTT, q_zpTL, q_zpLT, q_zpLL, forD_some, List.set_cons_zero, List.set_cons_succ, List.map_cons, List.map_nil, List.length_cons, List.length_nil, List.cons_append, List.nil_append, List.replicate_succ, List.replicate_zero, Nat.reduceAdd, Nat.reduceSub, Nat.reduceEqDiff, if_true, Option.bind_some, wipeD, p25]
  refine WP_call (ho S2 n _ _ d2 (by omega) (by simp) (by simp)) fun d S3 ⟨ht, f3, d3⟩ => ?_
  obtain ⟨terms, rfl, t1, t2⟩ : ∃ t : Int, d = .int t ∧ 1 ≤ t ∧ t ≤ 10000000000000000000000000 := by
    simp only [List.mem_cons, List.not_mem_nil, or_false] at ht
    rcases ht with rfl | rfl | rfl | rfl
    · exact ⟨1, rfl, by decide, by decide⟩
    · exact ⟨1, rfl, by decide, by decide⟩
    · exact ⟨2, rfl, by decide, by decide⟩
    · exact ⟨_, rfl, by decide, by decide⟩
  simp only [run_eq, ss_nil, ss_cons, s_nm, s_asg, s_par, par2, par3, s_aug, augD_add, augD_sub, s_augIx, augX_add, augX_sub, s_expr, s_ret, s_retN, s_pass, s_brk, s_cont, s_ite, s_for, s_while, seqF_nx, seqF_rt, seqF_bk, seqF_ct, fnD_rt, fnD_nx, g_nm, g_tp, g_ix, gs_nil, gs_cons, e_int, e_bl, e_non, e_str, e_var, getV_0, getV_s, e_gl, opt_some, e_bin, e_neg, negD_int, e_not, notD_bl, e_and, e_or, bE_app, bolD_bl, okM_app, e_cmp, e_chain, chE_app, e_ite, e_tup, e_lst, e_ix, e_rev, e_slA, e_slL, e_slH, e_slLH, sl1_L, sl1_H, sl2_LH, e_call, e_bi, e_mt, e_comp, es_nil, es_cons, ifD_bl, ifD_t, ifD_f, b_ok, b_assoc, fTurn_eq, turn_eq, inT_some, inC_some, soE_app, evT_nil, evT_one, t_nm, t_tp, ts_nil, ts_cons, mkL_f, mkL_t, o_add, o_sub, c_lt, c_le, c_gt, c_ge, c_eqI, c_neI, b_int, b_intB, b_abs, b_max2, b_min2, b_gcd, b_lenT, b_lenL, b_lenS, b_tupT, b_tupL, b_lstT, b_lstL, b_isiT, b_isiI, b_isiB, revT, revL, ixT0, ixT1, ixT2, ixL0, ixL1, isI, q_vlT, q_vlL, q_vlS, q_enT, q_enL, q_zpTT, q_zpTL, q_zpLT, q_zpLL, forD_some, List.set_cons_zero, List.set_cons_succ, List.map_cons, List.map_nil, List.length_cons, List.length_nil, List.cons_append, List.nil_append, List.replicate_succ, List.replicate_zero, Nat.reduceAdd, Nat.reduceSub, Nat.reduceEqDiff, if_true, Option.bind_some, wipeD, hq, compD_some (show (natsD m).length ≤ LIM by rw [natsD_len]; exact hL)]
  generalize hb : (1 + bt : Int) = bottom at *
  have hb1 : 1 ≤ bottom := by omega
  have hb2 : bottom ≤ 5 := by omega
  -- the end, for any row found
  have fin : ∀ (l : List Int) (S' : Store) (e5 e6 e7 : Option D), l.length = m → (∀ x, x ∈ l → 0 ≤ x ∧ x ≤ bottom) → Fr n S S' → Di n (N + 50) S' →
      WP (evS C (.ret (.tup [(.bin .mul false (.var 3) (.var 4)), (.bi .tuple false [(.comp false [7] (.nm 7) .vl [(.var 5)] [] (.bin .mul false (.var 7) (.var 4)))])])) [some (.ref n), some (.int mi), some (.int way), some (.int bottom), some (.int terms), some (.lst (l.map .int)), e6, e7] S')
        fun f S' => ∃ p, f = .rt (msD p) ∧ Ms p.1 p.2 m ∧ Fr n S S' ∧ Di n (N + 50) S' := fun l S' e5 e6 e7 hl hr hf hd => by
    simp only [run_eq, ss_nil, ss_cons, s_nm, s_asg, s_par, par2, par3, s_aug, augD_add, augD_sub, s_augIx, augX_add, augX_sub, s_expr, s_ret, s_retN, s_pass, s_brk, s_cont, s_ite, s_for, s_while, seqF_nx, seqF_rt, seqF_bk, seqF_ct, fnD_rt, fnD_nx, g_nm, g_tp, g_ix, gs_nil, gs_cons, e_int, e_bl, e_non, e_str, e_var, getV_0, getV_s, e_gl, opt_some, e_bin, e_neg, negD_int, e_not, notD_bl, e_and, e_or, bE_app, bolD_bl, okM_app, e_cmp, e_chain, chE_app, e_ite, e_tup, e_lst, e_ix, e_rev, e_slA, e_slL, e_slH, e_slLH, sl1_L, sl1_H, sl2_LH, e_call, e_bi, e_mt, e_comp, es_nil, es_cons, ifD_bl, ifD_t, ifD_f, b_ok, b_assoc, fTurn_eq, turn_eq, inT_some, inC_some, soE_app, evT_nil, evT_one, t_nm, t_tp, ts_nil, ts_cons, mkL_f, mkL_t, o_add, o_sub, c_lt, c_le, c_gt, c_ge, c_eqI, c_neI, b_int, b_intB, b_abs, b_max2, b_min2, b_gcd, b_lenT, b_lenL, b_lenS, b_tupT, b_tupL, b_lstT, b_lstL, b_isiT, b_isiI, b_isiB, revT, revL, ixT0, ixT1, ixT2, ixL0, ixL1, isI, q_vlT, q_vlL, q_vlS, q_enT, q_enL, q_zpTT, q_zpTL, q_zpLT, q_zpLL, forD_some, List.set_cons_zero, List.set_cons_succ, List.map_cons, List.map_nil, List.length_cons, List.length_nil, List.cons_append, List.nil_append, List.replicate_succ, List.replicate_zero, Nat.reduceAdd, Nat.reduceSub, Nat.reduceEqDiff, if_true, Option.bind_some, wipeD, o_mul (mulOk (a := bottom) (b := terms) (by omega) (by omega)), compD_some (show (l.map D.int).length ≤ LIM by rw [List.length_map, hl]; exact hL)]
    rw [comp_int (fun x => x * terms) dep_nil fun x hx => by
      have := hr x hx
      simp only [run_eq, ss_nil, ss_cons, s_nm, s_asg, s_par, par2, par3, s_aug, augD_add, augD_sub, s_augIx, augX_add, augX_sub, s_expr, s_ret, s_retN, s_pass, s_brk, s_cont, s_ite, s_for, s_while, seqF_nx, seqF_rt, seqF_bk, seqF_ct, fnD_rt, fnD_nx, g_nm, g_tp, g_ix, gs_nil, gs_cons, e_int, e_bl, e_non, e_str, e_var, getV_0, getV_s, e_gl, opt_some, e_bin, e_neg, negD_int, e_not, notD_bl, e_and, e_or, bE_app, bolD_bl, okM_app, e_cmp, e_chain, chE_app, e_ite, e_tup, e_lst, e_ix, e_rev, e_slA, e_slL, e_slH, e_slLH, sl1_L, sl1_H, sl2_LH, e_call, e_bi, e_mt, e_comp, es_nil, es_cons, ifD_bl, ifD_t, ifD_f, b_ok, b_assoc, fTurn_eq, turn_eq, inT_some, inC_some, soE_app, evT_nil, evT_one, t_nm, t_tp, ts_nil, ts_cons, mkL_f, mkL_t, o_add, o_sub, c_lt, c_le, c_gt, c_ge, c_eqI, c_neI, b_int, b_intB, b_abs, b_max2, b_min2, b_gcd, b_lenT, b_lenL, b_lenS, b_tupT, b_tupL, b_lstT, b_lstL, b_isiT, b_isiI, b_isiB, revT, revL, ixT0, ixT1, ixT2, ixL0, ixL1, isI, q_vlT, q_vlL, q_vlS, q_enT, q_enL, q_zpTT, q_zpTL, q_zpLT, q_zpLL, forD_some, List.set_cons_zero, List.set_cons_succ, List.map_cons, List.map_nil, List.length_cons, List.length_nil, List.cons_append, List.nil_append, List.replicate_succ, List.replicate_zero, Nat.reduceAdd, Nat.reduceSub, Nat.reduceEqDiff, if_true, Option.bind_some, wipeD, o_mul (mulOk (a := x) (b := terms) (by omega) (by omega))]]
    simp only [run_eq, ss_nil, ss_cons, s_nm, s_asg, s_par, par2, par3, s_aug, augD_add, augD_sub, s_augIx, augX_add, augX_sub, s_expr, s_ret, s_retN, s_pass, s_brk, s_cont, s_ite, s_for, s_while, seqF_nx, seqF_rt, seqF_bk, seqF_ct, fnD_rt, fnD_nx, g_nm, g_tp, g_ix, gs_nil, gs_cons, e_int, e_bl, e_non, e_str, e_var, getV_0, getV_s, e_gl, opt_some, e_bin, e_neg, negD_int, e_not, notD_bl, e_and, e_or, bE_app, bolD_bl, okM_app, e_cmp, e_chain, chE_app, e_ite, e_tup, e_lst, e_ix, e_rev, e_slA, e_slL, e_slH, e_slLH, sl1_L, sl1_H, sl2_LH, e_call, e_bi, e_mt, e_comp, es_nil, es_cons, ifD_bl, ifD_t, ifD_f, b_ok, b_assoc, fTurn_eq, turn_eq, inT_some, inC_some, soE_app, evT_nil, evT_one, t_nm, t_tp, ts_nil, ts_cons, mkL_f, mkL_t, o_add, o_sub, c_lt, c_le, c_gt, c_ge, c_eqI, c_neI, b_int, b_intB, b_abs, b_max2, b_min2, b_gcd, b_lenT, b_lenL, b_lenS, b_tupT, b_tupL, b_lstT, b_lstL, b_isiT, b_isiI, b_isiB, revT, revL, ixT0, ixT1, ixT2, ixL0, ixL1, isI, q_vlT, q_vlL, q_vlS, q_enT, q_enL, q_zpTT, q_zpTL, q_zpLT, q_zpLL, forD_some, List.set_cons_zero, List.set_cons_succ, List.map_cons, List.map_nil, List.length_cons, List.length_nil, List.cons_append, List.nil_append, List.replicate_succ, List.replicate_zero, Nat.reduceAdd, Nat.reduceSub, Nat.reduceEqDiff, if_true, Option.bind_some, wipeD, WP_ok]
    refine ⟨(bottom * terms, l.map fun x => x * terms), rfl, ⟨?_, ?_, by simp [hl], fun w hw => ?_⟩, hf, hd⟩
    · have := Int.mul_pos (show 0 < bottom by omega) (show 0 < terms by omega)
      show 1 ≤ bottom * terms
      omega
    · have : bottom * terms ≤ 5 * 10000000000000000000000000 := Int.mul_le_mul hb2 t2 (by omega) (by omega)
      show bottom * terms ≤ _
      omega
    · obtain ⟨x, hx, rfl⟩ := List.mem_map.mp hw
      have := hr x hx
      exact ⟨Int.mul_nonneg this.1 (by omega), Int.mul_le_mul_of_nonneg_right this.2 (by omega)⟩
  refine WP_call (comp_draw (R := fun x => 0 ≤ x ∧ x ≤ bottom) d3 (by omega) fun i S' M hi hd hM => ?_) fun ys S4 ⟨l, e, hl, hr, f4, d4⟩ => ?_
  · simp only [run_eq, ss_nil, ss_cons, s_nm, s_asg, s_par, par2, par3, s_aug, augD_add, augD_sub, s_augIx, augX_add, augX_sub, s_expr, s_ret, s_retN, s_pass, s_brk, s_cont, s_ite, s_for, s_while, seqF_nx, seqF_rt, seqF_bk, seqF_ct, fnD_rt, fnD_nx, g_nm, g_tp, g_ix, gs_nil, gs_cons, e_int, e_bl, e_non, e_str, e_var, getV_0, getV_s, e_gl, opt_some, e_bin, e_neg, negD_int, e_not, notD_bl, e_and, e_or, bE_app, bolD_bl, okM_app, e_cmp, e_chain, chE_app, e_ite, e_tup, e_lst, e_ix, e_rev, e_slA, e_slL, e_slH, e_slLH, sl1_L, sl1_H, sl2_LH, e_call, e_bi, e_mt, e_comp, es_nil, es_cons, ifD_bl, ifD_t, ifD_f, b_ok, b_assoc, fTurn_eq, turn_eq, inT_some, inC_some, soE_app, evT_nil, evT_one, t_nm, t_tp, ts_nil, ts_cons, mkL_f, mkL_t, o_add, o_sub, c_lt, c_le, c_gt, c_ge, c_eqI, c_neI, b_int, b_intB, b_abs, b_max2, b_min2, b_gcd, b_lenT, b_lenL, b_lenS, b_tupT, b_tupL, b_lstT, b_lstL, b_isiT, b_isiI, b_isiB, revT, revL, ixT0, ixT1, ixT2, ixL0, ixL1, isI, q_vlT, q_vlL, q_vlS, q_enT, q_enL, q_zpTT, q_zpTL, q_zpLT, q_zpLL, forD_some, List.set_cons_zero, List.set_cons_succ, List.map_cons, List.map_nil, List.length_cons, List.length_nil, List.cons_append, List.nil_append, List.replicate_succ, List.replicate_zero, Nat.reduceAdd, Nat.reduceSub, Nat.reduceEqDiff, if_true, Option.bind_some, wipeD]
    refine WP_call (hu S' n M _ hd (by omega) (by omega) hM) fun d S5 ⟨r, e, g1, g2, g3, g4⟩ => ?_
    subst e
    simp only [run_eq, ss_nil, ss_cons, s_nm, s_asg, s_par, par2, par3, s_aug, augD_add, augD_sub, s_augIx, augX_add, augX_sub, s_expr, s_ret, s_retN, s_pass, s_brk, s_cont, s_ite, s_for, s_while, seqF_nx, seqF_rt, seqF_bk, seqF_ct, fnD_rt, fnD_nx, g_nm, g_tp, g_ix, gs_nil, gs_cons, e_int, e_bl, e_non, e_str, e_var, getV_0, getV_s, e_gl, opt_some, e_bin, e_neg, negD_int, e_not, notD_bl, e_and, e_or, bE_app, bolD_bl, okM_app, e_cmp, e_chain, chE_app, e_ite, e_tup, e_lst, e_ix, e_rev, e_slA, e_slL, e_slH, e_slLH, sl1_L, sl1_H, sl2_LH, e_call, e_bi, e_mt, e_comp, es_nil, es_cons, ifD_bl, ifD_t, ifD_f, b_ok, b_assoc, fTurn_eq, turn_eq, inT_some, inC_some, soE_app, evT_nil, evT_one, t_nm, t_tp, ts_nil, ts_cons, mkL_f, mkL_t, o_add, o_sub, c_lt, c_le, c_gt, c_ge, c_eqI, c_neI, b_int, b_intB, b_abs, b_max2, b_min2, b_gcd, b_lenT, b_lenL, b_lenS, b_tupT, b_tupL, b_lstT, b_lstL, b_isiT, b_isiI, b_isiB, revT, revL, ixT0, ixT1, ixT2, ixL0, ixL1, isI, q_vlT, q_vlL, q_vlS, q_enT, q_enL, q_zpTT, q_zpTL, q_zpLT, q_zpLL, forD_some, List.set_cons_zero, List.set_cons_succ, List.map_cons, List.map_nil, List.length_cons, List.length_nil, List.cons_append, List.nil_append, List.replicate_succ, List.replicate_zero, Nat.reduceAdd, Nat.reduceSub, Nat.reduceEqDiff, if_true, Option.bind_some, wipeD, WP_ok]
    exact ⟨r, rfl, ⟨g1, by omega⟩, g3, g4⟩
  · subst e
    have f04 := ((f1.trans f2).trans f3).trans f4
    -- the second list, where way is 0
    have step0 : ∀ {P : Fl → Store → Prop}, (∀ (l : List Int) (S' : Store), l.length = m → (∀ x, x ∈ l → 0 ≤ x ∧ x ≤ bottom) → Fr n S S' → Di n (N + 40) S' → ∀ f, f = Fl.nx [some (.ref n), some (.int mi), some (.int way), some (.int bottom), some (.int terms), some (.lst (l.map .int)), none, none] → P f S') →
        WP (evS C (.ite (.cmp .eq (.var 2) (.int 0)) [.asg (.nm 5) (.comp false [6] (.nm 6) .rg1 [(.var 1)] [] (.call 24 [(.var 0), (.lst false [(.int 0), (.var 3)])]))] []) [some (.ref n), some (.int mi), some (.int way), some (.int bottom), some (.int terms), some (.lst (l.map .int)), none, none] S4) P := fun {P} hP => by
      simp only [run_eq, ss_nil, ss_cons, s_nm, s_asg, s_par, par2, par3, s_aug, augD_add, augD_sub, s_augIx, augX_add, augX_sub, s_expr, s_ret, s_retN, s_pass, s_brk, s_cont, s_ite, s_for, s_while, seqF_nx, seqF_rt, seqF_bk, seqF_ct, fnD_rt, fnD_nx, g_nm, g_tp, g_ix, gs_nil, gs_cons, e_int, e_bl, e_non, e_str, e_var, getV_0, getV_s, e_gl, opt_some, e_bin, e_neg, negD_int, e_not, notD_bl, e_and, e_or, bE_app, bolD_bl, okM_app, e_cmp, e_chain, chE_app, e_ite, e_tup, e_lst, e_ix, e_rev, e_slA, e_slL, e_slH, e_slLH, sl1_L, sl1_H, sl2_LH, e_call, e_bi, e_mt, e_comp, es_nil, es_cons, ifD_bl, ifD_t, ifD_f, b_ok, b_assoc, fTurn_eq, turn_eq, inT_some, inC_some, soE_app, evT_nil, evT_one, t_nm, t_tp, ts_nil, ts_cons, mkL_f, mkL_t, o_add, o_sub, c_lt, c_le, c_gt, c_ge, c_eqI, c_neI, b_int, b_intB, b_abs, b_max2, b_min2, b_gcd, b_lenT, b_lenL, b_lenS, b_tupT, b_tupL, b_lstT, b_lstL, b_isiT, b_isiI, b_isiB, revT, revL, ixT0, ixT1, ixT2, ixL0, ixL1, isI, q_vlT, q_vlL, q_vlS, q_enT, q_enL, q_zpTT, q_zpTL, q_zpLT, q_zpLL, forD_some, List.set_cons_zero, List.set_cons_succ, List.map_cons, List.map_nil, List.length_cons, List.length_nil, List.cons_append, List.nil_append, List.replicate_succ, List.replicate_zero, Nat.reduceAdd, Nat.reduceSub, Nat.reduceEqDiff, if_true, Option.bind_some, wipeD]
      by_cases h0 : way = 0
      · simp only [run_eq, ss_nil, ss_cons, s_nm, s_asg, s_par, par2, par3, s_aug, augD_add, augD_sub, s_augIx, augX_add, augX_sub, s_expr, s_ret, s_retN, s_pass, s_brk, s_cont, s_ite, s_for, s_while, seqF_nx, seqF_rt, seqF_bk, seqF_ct, fnD_rt, fnD_nx, g_nm, g_tp, g_ix, gs_nil, gs_cons, e_int, e_bl, e_non, e_str, e_var, getV_0, getV_s, e_gl, opt_some, e_bin, e_neg, negD_int, e_not, notD_bl, e_and, e_or, bE_app, bolD_bl, okM_app, e_cmp, e_chain, chE_app, e_ite, e_tup, e_lst, e_ix, e_rev, e_slA, e_slL, e_slH, e_slLH, sl1_L, sl1_H, sl2_LH, e_call, e_bi, e_mt, e_comp, es_nil, es_cons, ifD_bl, ifD_t, ifD_f, b_ok, b_assoc, fTurn_eq, turn_eq, inT_some, inC_some, soE_app, evT_nil, evT_one, t_nm, t_tp, ts_nil, ts_cons, mkL_f, mkL_t, o_add, o_sub, c_lt, c_le, c_gt, c_ge, c_eqI, c_neI, b_int, b_intB, b_abs, b_max2, b_min2, b_gcd, b_lenT, b_lenL, b_lenS, b_tupT, b_tupL, b_lstT, b_lstL, b_isiT, b_isiI, b_isiB, revT, revL, ixT0, ixT1, ixT2, ixL0, ixL1, isI, q_vlT, q_vlL, q_vlS, q_enT, q_enL, q_zpTT, q_zpTL, q_zpLT, q_zpLL, forD_some, List.set_cons_zero, List.set_cons_succ, List.map_cons, List.map_nil, List.length_cons, List.length_nil, List.cons_append, List.nil_append, List.replicate_succ, List.replicate_zero, Nat.reduceAdd, Nat.reduceSub, Nat.reduceEqDiff, if_true, Option.bind_some, wipeD, h0, decide_true, hq, compD_some (show (natsD m).length ≤ LIM by rw [natsD_len]; exact hL)]
        refine WP_call (comp_draw (R := fun x => 0 ≤ x ∧ x ≤ bottom) d4 (by omega) fun i S' M hi hd hM => ?_) fun ys S5 ⟨l', e, hl', hr', f5, d5⟩ => ?_
        · simp only [run_eq, ss_nil, ss_cons, s_nm, s_asg, s_par, par2, par3, s_aug, augD_add, augD_sub, s_augIx, augX_add, augX_sub, s_expr, s_ret, s_retN, s_pass, s_brk, s_cont, s_ite, s_for, s_while, seqF_nx, seqF_rt, seqF_bk, seqF_ct, fnD_rt, fnD_nx, g_nm, g_tp, g_ix, gs_nil, gs_cons, e_int, e_bl, e_non, e_str, e_var, getV_0, getV_s, e_gl, opt_some, e_bin, e_neg, negD_int, e_not, notD_bl, e_and, e_or, bE_app, bolD_bl, okM_app, e_cmp, e_chain, chE_app, e_ite, e_tup, e_lst, e_ix, e_rev, e_slA, e_slL, e_slH, e_slLH, sl1_L, sl1_H, sl2_LH, e_call, e_bi, e_mt, e_comp, es_nil, es_cons, ifD_bl, ifD_t, ifD_f, b_ok, b_assoc, fTurn_eq, turn_eq, inT_some, inC_some, soE_app, evT_nil, evT_one, t_nm, t_tp, ts_nil, ts_cons, mkL_f, mkL_t, o_add, o_sub, c_lt, c_le, c_gt, c_ge, c_eqI, c_neI, b_int, b_intB, b_abs, b_max2, b_min2, b_gcd, b_lenT, b_lenL, b_lenS, b_tupT, b_tupL, b_lstT, b_lstL, b_isiT, b_isiI, b_isiB, revT, revL, ixT0, ixT1, ixT2, ixL0, ixL1, isI, q_vlT, q_vlL, q_vlS, q_enT, q_enL, q_zpTT, q_zpTL, q_zpLT, q_zpLL, forD_some, List.set_cons_zero, List.set_cons_succ, List.map_cons, List.map_nil, List.length_cons, List.length_nil, List.cons_append, List.nil_append, List.replicate_succ, List.replicate_zero, Nat.reduceAdd, Nat.reduceSub, Nat.reduceEqDiff, if_true, Option.bind_some, wipeD]
          refine WP_call (ho S' n M _ hd hM (by simp) (by simp)) fun d S6 ⟨ht, g3, g4⟩ => ?_
          simp only [List.mem_cons, List.not_mem_nil, or_false] at ht
          rcases ht with rfl | rfl
          · simp only [run_eq, ss_nil, ss_cons, s_nm, s_asg, s_par, par2, par3, s_aug, augD_add, augD_sub, s_augIx, augX_add, augX_sub, s_expr, s_ret, s_retN, s_pass, s_brk, s_cont, s_ite, s_for, s_while, seqF_nx, seqF_rt, seqF_bk, seqF_ct, fnD_rt, fnD_nx, g_nm, g_tp, g_ix, gs_nil, gs_cons, e_int, e_bl, e_non, e_str, e_var, getV_0, getV_s, e_gl, opt_some, e_bin, e_neg, negD_int, e_not, notD_bl, e_and, e_or, bE_app, bolD_bl, okM_app, e_cmp, e_chain, chE_app, e_ite, e_tup, e_lst, e_ix, e_rev, e_slA, e_slL, e_slH, e_slLH, sl1_L, sl1_H, sl2_LH, e_call, e_bi, e_mt, e_comp, es_nil, es_cons, ifD_bl, ifD_t, ifD_f, b_ok, b_assoc, fTurn_eq, turn_eq, inT_some, inC_some, soE_app, evT_nil, evT_one, t_nm, t_tp, ts_nil, ts_cons, mkL_f, mkL_t, o_add, o_sub, c_lt, c_le, c_gt, c_ge, c_eqI, c_neI, b_int, b_intB, b_abs, b_max2, b_min2, b_gcd, b_lenT, b_lenL, b_lenS, b_tupT, b_tupL, b_lstT, b_lstL, b_isiT, b_isiI, b_isiB, revT, revL, ixT0, ixT1, ixT2, ixL0, ixL1, isI, q_vlT, q_vlL, q_vlS, q_enT, q_enL, q_zpTT, q_zpTL, q_zpLT, q_zpLL, forD_some, List.set_cons_zero, List.set_cons_succ, List.map_cons, List.map_nil, List.length_cons, List.length_nil, List.cons_append, List.nil_append, List.replicate_succ, List.replicate_zero, Nat.reduceAdd, Nat.reduceSub, Nat.reduceEqDiff, if_true, Option.bind_some, wipeD, WP_ok]; exact ⟨0, rfl, ⟨by omega, by omega⟩, g3, g4⟩
          · simp only [run_eq, ss_nil, ss_cons, s_nm, s_asg, s_par, par2, par3, s_aug, augD_add, augD_sub, s_augIx, augX_add, augX_sub, s_expr, s_ret, s_retN, s_pass, s_brk, s_cont, s_ite, s_for, s_while, seqF_nx, seqF_rt, seqF_bk, seqF_ct, fnD_rt, fnD_nx, g_nm, g_tp, g_ix, gs_nil, gs_cons, e_int, e_bl, e_non, e_str, e_var, getV_0, getV_s, e_gl, opt_some, e_bin, e_neg, negD_int, e_not, notD_bl, e_and, e_or, bE_app, bolD_bl, okM_app, e_cmp, e_chain, chE_app, e_ite, e_tup, e_lst, e_ix, e_rev, e_slA, e_slL, e_slH, e_slLH, sl1_L, sl1_H, sl2_LH, e_call, e_bi, e_mt, e_comp, es_nil, es_cons, ifD_bl, ifD_t, ifD_f, b_ok, b_assoc, fTurn_eq, turn_eq, inT_some, inC_some, soE_app, evT_nil, evT_one, t_nm, t_tp, ts_nil, ts_cons, mkL_f, mkL_t, o_add, o_sub, c_lt, c_le, c_gt, c_ge, c_eqI, c_neI, b_int, b_intB, b_abs, b_max2, b_min2, b_gcd, b_lenT, b_lenL, b_lenS, b_tupT, b_tupL, b_lstT, b_lstL, b_isiT, b_isiI, b_isiB, revT, revL, ixT0, ixT1, ixT2, ixL0, ixL1, isI, q_vlT, q_vlL, q_vlS, q_enT, q_enL, q_zpTT, q_zpTL, q_zpLT, q_zpLL, forD_some, List.set_cons_zero, List.set_cons_succ, List.map_cons, List.map_nil, List.length_cons, List.length_nil, List.cons_append, List.nil_append, List.replicate_succ, List.replicate_zero, Nat.reduceAdd, Nat.reduceSub, Nat.reduceEqDiff, if_true, Option.bind_some, wipeD, WP_ok]; exact ⟨bottom, rfl, ⟨by omega, by omega⟩, g3, g4⟩
        · subst e
          simp only [run_eq, ss_nil, ss_cons, s_nm, s_asg, s_par, par2, par3, s_aug, augD_add, augD_sub, s_augIx, augX_add, augX_sub, s_expr, s_ret, s_retN, s_pass, s_brk, s_cont, s_ite, s_for, s_while, seqF_nx, seqF_rt, seqF_bk, seqF_ct, fnD_rt, fnD_nx, g_nm, g_tp, g_ix, gs_nil, gs_cons, e_int, e_bl, e_non, e_str, e_var, getV_0, getV_s, e_gl, opt_some, e_bin, e_neg, negD_int, e_not, notD_bl, e_and, e_or, bE_app, bolD_bl, okM_app, e_cmp, e_chain, chE_app, e_ite, e_tup, e_lst, e_ix, e_rev, e_slA, e_slL, e_slH, e_slLH, sl1_L, sl1_H, sl2_LH, e_call, e_bi, e_mt, e_comp, es_nil, es_cons, ifD_bl, ifD_t, ifD_f, b_ok, b_assoc, fTurn_eq, turn_eq, inT_some, inC_some, soE_app, evT_nil, evT_one, t_nm, t_tp, ts_nil, ts_cons, mkL_f, mkL_t, o_add, o_sub, c_lt, c_le, c_gt, c_ge, c_eqI, c_neI, b_int, b_intB, b_abs, b_max2, b_min2, b_gcd, b_lenT, b_lenL, b_lenS, b_tupT, b_tupL, b_lstT, b_lstL, b_isiT, b_isiI, b_isiB, revT, revL, ixT0, ixT1, ixT2, ixL0, ixL1, isI, q_vlT, q_vlL, q_vlS, q_enT, q_enL, q_zpTT, q_zpTL, q_zpLT, q_zpLL, forD_some, List.set_cons_zero, List.set_cons_succ, List.map_cons, List.map_nil, List.length_cons, List.length_nil, List.cons_append, List.nil_append, List.replicate_succ, List.replicate_zero, Nat.reduceAdd, Nat.reduceSub, Nat.reduceEqDiff, if_true, Option.bind_some, wipeD, WP_ok]
          exact hP l' S5 hl' hr' (f04.trans f5) (d5.mono (by omega)) _ (by rw [h0])
      · simp only [run_eq, ss_nil, ss_cons, s_nm, s_asg, s_par, par2, par3, s_aug, augD_add, augD_sub, s_augIx, augX_add, augX_sub, s_expr, s_ret, s_retN, s_pass, s_brk, s_cont, s_ite, s_for, s_while, seqF_nx, seqF_rt, seqF_bk, seqF_ct, fnD_rt, fnD_nx, g_nm, g_tp, g_ix, gs_nil, gs_cons, e_int, e_bl, e_non, e_str, e_var, getV_0, getV_s, e_gl, opt_some, e_bin, e_neg, negD_int, e_not, notD_bl, e_and, e_or, bE_app, bolD_bl, okM_app, e_cmp, e_chain, chE_app, e_ite, e_tup, e_lst, e_ix, e_rev, e_slA, e_slL, e_slH, e_slLH, sl1_L, sl1_H, sl2_LH, e_call, e_bi, e_mt, e_comp, es_nil, es_cons, ifD_bl, ifD_t, ifD_f, b_ok, b_assoc, fTurn_eq, turn_eq, inT_some, inC_some, soE_app, evT_nil, evT_one, t_nm, t_tp, ts_nil, ts_cons, mkL_f, mkL_t, o_add, o_sub, c_lt, c_le, c_gt, c_ge, c_eqI, c_neI, b_int, b_intB, b_abs, b_max2, b_min2, b_gcd, b_lenT, b_lenL, b_lenS, b_tupT, b_tupL, b_lstT, b_lstL, b_isiT, b_isiI, b_isiB, revT, revL, ixT0, ixT1, ixT2, ixL0, ixL1, isI, q_vlT, q_vlL, q_vlS, q_enT, q_enL, q_zpTT, q_zpTL, q_zpLT, q_zpLL, forD_some, List.set_cons_zero, List.set_cons_succ, List.map_cons, List.map_nil, List.length_cons, List.length_nil, List.cons_append, List.nil_append, List.replicate_succ, List.replicate_zero, Nat.reduceAdd, Nat.reduceSub, Nat.reduceEqDiff, if_true, Option.bind_some, wipeD, h0, decide_false, Bool.false_eq_true, if_false, WP_ok]
        exact hP l S4 hl hr f04 (d4.mono (by omega)) _ rfl
    have step1 : ∀ {P : Fl → Store → Prop} (l : List Int) (S4 : Store), l.length = m → (∀ x, x ∈ l → 0 ≤ x ∧ x ≤ bottom) → Fr n S S4 → Di n (N + 40) S4 →
        (∀ (l : List Int) (S' : Store), l.length = m → (∀ x, x ∈ l → 0 ≤ x ∧ x ≤ bottom) → Fr n S S' → Di n (N + 50) S' → ∀ f, f = Fl.nx [some (.ref n), some (.int mi), some (.int way), some (.int bottom), some (.int terms), some (.lst (l.map .int)), none, none] → P f S') →
        WP (evS C (.ite (.cmp .eq (.var 2) (.int 1)) [.asg (.nm 5) (.bin .mul false (.lst false [(.call 24 [(.var 0), (.lst false [(.int 0), (.var 3)])])]) (.var 1))] []) [some (.ref n), some (.int mi), some (.int way), some (.int bottom), some (.int terms), some (.lst (l.map .int)), none, none] S4) P := fun {P} l S4 hl hr hf hd hP => by
      simp only [run_eq, ss_nil, ss_cons, s_nm, s_asg, s_par, par2, par3, s_aug, augD_add, augD_sub, s_augIx, augX_add, augX_sub, s_expr, s_ret, s_retN, s_pass, s_brk, s_cont, s_ite, s_for, s_while, seqF_nx, seqF_rt, seqF_bk, seqF_ct, fnD_rt, fnD_nx, g_nm, g_tp, g_ix, gs_nil, gs_cons, e_int, e_bl, e_non, e_str, e_var, getV_0, getV_s, e_gl, opt_some, e_bin, e_neg, negD_int, e_not, notD_bl, e_and, e_or, bE_app, bolD_bl, okM_app, e_cmp, e_chain, chE_app, e_ite, e_tup, e_lst, e_ix, e_rev, e_slA, e_slL, e_slH, e_slLH, sl1_L, sl1_H, sl2_LH, e_call, e_bi, e_mt, e_comp, es_nil, es_cons, ifD_bl, ifD_t, ifD_f, b_ok, b_assoc, fTurn_eq, turn_eq, inT_some, inC_some, soE_app, evT_nil, evT_one, t_nm, t_tp, ts_nil, ts_cons, mkL_f, mkL_t, o_add, o_sub, c_lt, c_le, c_gt, c_ge, c_eqI, c_neI, b_int, b_intB, b_abs, b_max2, b_min2, b_gcd, b_lenT, b_lenL, b_lenS, b_tupT, b_tupL, b_lstT, b_lstL, b_isiT, b_isiI, b_isiB, revT, revL, ixT0, ixT1, ixT2, ixL0, ixL1, isI, q_vlT, q_vlL, q_vlS, q_enT, q_enL, q_zpTT, q_zpTL, q_zpLT, q_zpLL, forD_some, List.set_cons_zero, List.set_cons_succ, List.map_cons, List.map_nil, List.length_cons, List.length_nil, List.cons_append, List.nil_append, List.replicate_succ, List.replicate_zero, Nat.reduceAdd, Nat.reduceSub, Nat.reduceEqDiff, if_true, Option.bind_some, wipeD]
      by_cases h0 : way = 1
      · simp only [run_eq, ss_nil, ss_cons, s_nm, s_asg, s_par, par2, par3, s_aug, augD_add, augD_sub, s_augIx, augX_add, augX_sub, s_expr, s_ret, s_retN, s_pass, s_brk, s_cont, s_ite, s_for, s_while, seqF_nx, seqF_rt, seqF_bk, seqF_ct, fnD_rt, fnD_nx, g_nm, g_tp, g_ix, gs_nil, gs_cons, e_int, e_bl, e_non, e_str, e_var, getV_0, getV_s, e_gl, opt_some, e_bin, e_neg, negD_int, e_not, notD_bl, e_and, e_or, bE_app, bolD_bl, okM_app, e_cmp, e_chain, chE_app, e_ite, e_tup, e_lst, e_ix, e_rev, e_slA, e_slL, e_slH, e_slLH, sl1_L, sl1_H, sl2_LH, e_call, e_bi, e_mt, e_comp, es_nil, es_cons, ifD_bl, ifD_t, ifD_f, b_ok, b_assoc, fTurn_eq, turn_eq, inT_some, inC_some, soE_app, evT_nil, evT_one, t_nm, t_tp, ts_nil, ts_cons, mkL_f, mkL_t, o_add, o_sub, c_lt, c_le, c_gt, c_ge, c_eqI, c_neI, b_int, b_intB, b_abs, b_max2, b_min2, b_gcd, b_lenT, b_lenL, b_lenS, b_tupT, b_tupL, b_lstT, b_lstL, b_isiT, b_isiI, b_isiB, revT, revL, ixT0, ixT1, ixT2, ixL0, ixL1, isI, q_vlT, q_vlL, q_vlS, q_enT, q_enL, q_zpTT, q_zpTL, q_zpLT, q_zpLL, forD_some, List.set_cons_zero, List.set_cons_succ, List.map_cons, List.map_nil, List.length_cons, List.length_nil, List.cons_append, List.nil_append, List.replicate_succ, List.replicate_zero, Nat.reduceAdd, Nat.reduceSub, Nat.reduceEqDiff, if_true, Option.bind_some, wipeD, h0, decide_true]
        have ho4 := ho S4 n _ [D.int 0, D.int bottom] hd (by omega) (by simp) (by simp)
        refine WP_call ho4 ?_
        intro d S6 hq
        obtain ⟨ht, g3, g4⟩ := hq
        obtain ⟨x, rfl, hx⟩ : ∃ x : Int, d = .int x ∧ 0 ≤ x ∧ x ≤ bottom := by
          simp only [List.mem_cons, List.not_mem_nil, or_false] at ht
          rcases ht with rfl | rfl
          · exact ⟨0, rfl, by omega, by omega⟩
          · exact ⟨bottom, rfl, by omega, by omega⟩
        simp only [run_eq, ss_nil, ss_cons, s_nm, s_asg, s_par, par2, par3, s_aug, augD_add, augD_sub, s_augIx, augX_add, augX_sub, s_expr, s_ret, s_retN, s_pass, s_brk, s_cont, s_ite, s_for, s_while, seqF_nx, seqF_rt, seqF_bk, seqF_ct, fnD_rt, fnD_nx, g_nm, g_tp, g_ix, gs_nil, gs_cons, e_int, e_bl, e_non, e_str, e_var, getV_0, getV_s, e_gl, opt_some, e_bin, e_neg, negD_int, e_not, notD_bl, e_and, e_or, bE_app, bolD_bl, okM_app, e_cmp, e_chain, chE_app, e_ite, e_tup, e_lst, e_ix, e_rev, e_slA, e_slL, e_slH, e_slLH, sl1_L, sl1_H, sl2_LH, e_call, e_bi, e_mt, e_comp, es_nil, es_cons, ifD_bl, ifD_t, ifD_f, b_ok, b_assoc, fTurn_eq, turn_eq, inT_some, inC_some, soE_app, evT_nil, evT_one, t_nm, t_tp, ts_nil, ts_cons, mkL_f, mkL_t, o_add, o_sub, c_lt, c_le, c_gt, c_ge, c_eqI, c_neI, b_int, b_intB, b_abs, b_max2, b_min2, b_gcd, b_lenT, b_lenL, b_lenS, b_tupT, b_tupL, b_lstT, b_lstL, b_isiT, b_isiI, b_isiB, revT, revL, ixT0, ixT1, ixT2, ixL0, ixL1, isI, q_vlT, q_vlL, q_vlS, q_enT, q_enL, q_zpTT, q_zpTL, q_zpLT, q_zpLL, forD_some, List.set_cons_zero, List.set_cons_succ, List.map_cons, List.map_nil, List.length_cons, List.length_nil, List.cons_append, List.nil_append, List.replicate_succ, List.replicate_zero, Nat.reduceAdd, Nat.reduceSub, Nat.reduceEqDiff, if_true, Option.bind_some, wipeD, o_mulL' (xs := [D.int x]) m hmi (by simp only [List.length_cons, List.length_nil, Nat.zero_add, Nat.one_mul]; omega) (by omega), WP_ok]
        have e : (List.replicate m [D.int x]).flatten = (List.replicate m x).map D.int := by
          clear hP hd hf hr hl hmi hq
          induction m with
          | zero => rfl
          | succ m ih => simp [List.replicate_succ] at ih ⊢
        rw [e]
        exact hP (List.replicate m x) S6 (by simp) (fun y hy => by rw [(List.mem_replicate.mp hy).2]; exact hx) (hf.trans g3) (g4.mono (by omega)) _ rfl
      · simp only [run_eq, ss_nil, ss_cons, s_nm, s_asg, s_par, par2, par3, s_aug, augD_add, augD_sub, s_augIx, augX_add, augX_sub, s_expr, s_ret, s_retN, s_pass, s_brk, s_cont, s_ite, s_for, s_while, seqF_nx, seqF_rt, seqF_bk, seqF_ct, fnD_rt, fnD_nx, g_nm, g_tp, g_ix, gs_nil, gs_cons, e_int, e_bl, e_non, e_str, e_var, getV_0, getV_s, e_gl, opt_some, e_bin, e_neg, negD_int, e_not, notD_bl, e_and, e_or, bE_app, bolD_bl, okM_app, e_cmp, e_chain, chE_app, e_ite, e_tup, e_lst, e_ix, e_rev, e_slA, e_slL, e_slH, e_slLH, sl1_L, sl1_H, sl2_LH, e_call, e_bi, e_mt, e_comp, es_nil, es_cons, ifD_bl, ifD_t, ifD_f, b_ok, b_assoc, fTurn_eq, turn_eq, inT_some, inC_some, soE_app, evT_nil, evT_one, t_nm, t_tp, ts_nil, ts_cons, mkL_f, mkL_t, o_add, o_sub, c_lt, c_le, c_gt, c_ge, c_eqI, c_neI, b_int, b_intB, b_abs, b_max2, b_min2, b_gcd, b_lenT, b_lenL, b_lenS, b_tupT, b_tupL, b_lstT, b_lstL, b_isiT, b_isiI, b_isiB, revT, revL, ixT0, ixT1, ixT2, ixL0, ixL1, isI, q_vlT, q_vlL, q_vlS, q_enT, q_enL, q_zpTT, q_zpTL, q_zpLT, q_zpLL, forD_some, List.set_cons_zero, List.set_cons_succ, List.map_cons, List.map_nil, List.length_cons, List.length_nil, List.cons_append, List.nil_append, List.replicate_succ, List.replicate_zero, Nat.reduceAdd, Nat.reduceSub, Nat.reduceEqDiff, if_true, Option.bind_some, wipeD, h0, decide_false, Bool.false_eq_true, if_false, WP_ok]
        exact hP l S4 hl hr hf (hd.mono (by omega)) _ rfl
    simp only [g_nm, s_nm, List.set_cons_zero, List.set_cons_succ, mkL_f, b_assoc, seqF_nx, ss_cons, ss_nil, b_ok]
    refine WP_call (step0 (P := fun f S' => ∃ l : List Int, l.length = m ∧ (∀ x, x ∈ l → 0 ≤ x ∧ x ≤ bottom) ∧ Fr n S S' ∧ Di n (N + 40) S' ∧ f = Fl.nx [some (.ref n), some (.int mi), some (.int way), some (.int bottom), some (.int terms), some (.lst (l.map .int)), none, none])
      fun l' S' a b c d f hf => ⟨l', a, b, c, d, hf⟩) fun f S5 ⟨l', a, b, c, d, hf⟩ => ?_
    subst hf
    simp only [g_nm, s_nm, List.set_cons_zero, List.set_cons_succ, mkL_f, b_assoc, seqF_nx, ss_cons, ss_nil, b_ok]
    refine WP_call (step1 (P := fun f S' => ∃ l : List Int, l.length = m ∧ (∀ x, x ∈ l → 0 ≤ x ∧ x ≤ bottom) ∧ Fr n S S' ∧ Di n (N + 50) S' ∧ f = Fl.nx [some (.ref n), some (.int mi), some (.int way), some (.int bottom), some (.int terms), some (.lst (l.map .int)), none, none])
      l' S5 a b c d fun l' S' a b c d f hf => ⟨l', a, b, c, d, hf⟩) fun f S6 ⟨l2, a, b, c, d, hf⟩ => ?_
    subst hf
    simp only [g_nm, s_nm, List.set_cons_zero, List.set_cons_succ, mkL_f, b_assoc, seqF_nx, ss_cons, ss_nil, b_ok]
    refine WP_call (fin l2 S6 none none none a b c d) fun f S7 ⟨p, e, q1, q2, q3⟩ => ?_
    subst e
    simp only [seqF_rt, b_ok, fnD_rt, WP_ok]
    exact ⟨p, rfl, q1, q2, q3⟩
end LW
namespace LW
open PySem L2 Ev
/-! ### signs of copies -/
def cpsF (found t : List Int) : List Int := found.flatMap fun o => t.map (o * ·)
def cps (ts : List (List Int)) : List Int := ts.foldl cpsF [1]
def tsD (ts : List (List Int)) : D := .tup (ts.map tI)
theorem cpsF_len (f t : List Int) : (cpsF f t).length = f.length * t.length := by
  unfold cpsF
  induction f with
  | nil => simp
  | cons x r ih => simp [List.flatMap_cons, ih, Nat.succ_mul, Nat.add_comm]
theorem cps_snoc (ts : List (List Int)) (t : List Int) : cps (ts ++ [t]) = cpsF (cps ts) t := by simp [cps, List.foldl_append]
theorem cps_take {ts : List (List Int)} {i : Nat} {t : List Int} (h : ts[i]? = some t) : cps (ts.take (i + 1)) = cpsF (cps (ts.take i)) t := by
  rw [List.take_add_one, h]
  exact cps_snoc _ _
theorem snoc_ind {α : Type} {P : List α → Prop} (h0 : P []) (h1 : ∀ l a, P l → P (l ++ [a])) (l : List α) : P l := by
  have : ∀ l : List α, P l.reverse := fun l => by
    induction l with
    | nil => exact h0
    | cons a l ih => rw [List.reverse_cons]; exact h1 _ _ ih
  have := this l.reverse
  rwa [List.reverse_reverse] at this
theorem cps_len {m : Nat} : ∀ {ts : List (List Int)}, (∀ t, t ∈ ts → t.length = m) → (cps ts).length = m ^ ts.length := by
  intro ts
  induction ts using snoc_ind with
  | h0 => intro _; rfl
  | h1 ts t ih =>
    intro h
    rw [cps_snoc, cpsF_len, ih fun s hs => h s (List.mem_append_left _ hs), h t (by simp)]
    simp [Nat.pow_succ]
theorem cpsF_sg {f t : List Int} (hf : SgL f) (ht : SgL t) : SgL (cpsF f t) := by
  intro x hx
  obtain ⟨o, ho, hx⟩ := List.mem_flatMap.mp hx
  obtain ⟨s, hs, rfl⟩ := List.mem_map.mp hx
  rcases hf o ho with rfl | rfl <;> rcases ht s hs with rfl | rfl <;> simp
theorem cps_sg : ∀ {ts : List (List Int)}, (∀ t, t ∈ ts → SgL t) → SgL (cps ts) := by
  intro ts
  induction ts using snoc_ind with
  | h0 => intro _ x hx; left; simpa [cps] using hx
  | h1 ts t ih =>
    intro h
    rw [cps_snoc]
    exact cpsF_sg (ih fun s hs => h s (List.mem_append_left _ hs)) (h t (by simp))
theorem cpsF_take {f t : List Int} {j : Nat} {o : Int} (h : f[j]? = some o) : cpsF (f.take (j + 1)) t = cpsF (f.take j) t ++ t.map (o * ·) := by
  rw [List.take_add_one, h]
  simp [cpsF]
theorem sg_small {l : List Int} (h : SgL l) {x : Int} (hx : x ∈ l) : x.natAbs < 2 ^ 1000 := by
  rcases h x hx with rfl | rfl <;> decide +kernel
theorem copies_spec {C : Ev.Ctx} {S : Store} {ts : List (List Int)} {m : Nat} (hs : ∀ t, t ∈ ts → SgL t) (hm : ∀ t, t ∈ ts → t.length = m) (hm1 : 1 ≤ m) (hb : m ^ ts.length ≤ 10000) :
    WP (runF C fd_law_hx_copies [tsD ts] S) fun d S' => ∃ n, d = .ref n ∧ S'[n]? = some (.lst ((cps ts).map .int)) ∧ S.length ≤ n ∧ Al S S' := by
  have lg := lim_ge
  unfold tsD
  simp only [run_eq, ss_nil, ss_cons, s_nm, s_asg, s_par, par2, par3, s_aug, augD_add, augD_sub, s_augIx, augX_add, augX_sub, s_expr, s_ret, s_retN, s_pass, s_brk, s_cont, s_ite, s_for, s_while, seqF_nx, seqF_rt, seqF_bk, seqF_ct, fnD_rt, fnD_nx, g_nm, g_tp, g_ix, gs_nil, gs_cons, e_int, e_bl, e_non, e_str, e_var, getV_0, getV_s, e_gl, opt_some, e_bin, e_neg, negD_int, e_not, notD_bl, e_and, e_or, bE_app, bolD_bl, okM_app, e_cmp, e_chain, chE_app, e_ite, e_tup, e_lst, e_ix, e_rev, e_slA, e_slL, e_slH, e_slLH, sl1_L, sl1_H, sl2_LH, e_call, e_bi, e_mt, e_comp, es_nil, es_cons, ifD_bl, ifD_t, ifD_f, b_ok, b_assoc, fTurn_eq, turn_eq, inT_some, inC_some, soE_app, evT_nil, evT_one, t_nm, t_tp, ts_nil, ts_cons, mkL_f, mkL_t, o_add, o_sub, c_lt, c_le, c_gt, c_ge, c_eqI, c_neI, b_int, b_intB, b_abs, b_max2, b_min2, b_gcd, b_lenT, b_lenL, b_lenS, b_tupT, b_tupL, b_lstT, b_lstL, b_isiT, b_isiI, b_isiB, revT, revL, ixT0, ixT1, ixT2, ixL0, ixL1, isI, q_vlT, q_vlL, q_vlS, q_enT, q_enL, q_zpTT, q_zpTL, q_zpLT, q_zpLL, forD_some, List.set_cons_zero, List.set_cons_succ, List.map_cons, List.map_nil, List.length_cons, List.length_nil, List.cons_append, List.nil_append, List.replicate_succ, List.replicate_zero, Nat.reduceAdd, Nat.reduceSub, Nat.reduceEqDiff, if_true, Option.bind_some, wipeD, fd_law_hx_copies]
  refine WP_call (for_inv (P := fun f S' => ∃ n e2 e3 e4 e5, f = .nx [some (.tup (ts.map tI)), some (.ref n), e2, e3, e4, e5] ∧ S'[n]? = some (.lst ((cps ts).map .int)) ∧ S.length ≤ n ∧ Al S S')
    (fun i env S' => ∃ n e2 e3 e4 e5, env = [some (.tup (ts.map tI)), some (.ref n), e2, e3, e4, e5] ∧ S'[n]? = some (.lst ((cps (ts.take i)).map .int)) ∧ S.length ≤ n ∧ Al S S') 0
    ⟨S.length, none, none, none, none, rfl, by simp [cps], Nat.le_refl _, Al.one⟩ ?_ ?_) ?_
  · rintro i env S1 x ⟨n, e2, e3, e4, e5, rfl, hn, hle, hal⟩ hi _ hx
    refine ⟨dep_nil, ?_⟩
    rw [Nat.sub_zero, List.getElem?_map] at hx
    obtain ⟨t, ht, rfl⟩ := Option.map_eq_some_iff.mp hx
    have htm := List.mem_of_getElem? ht
    have hts := hs t htm
    generalize hf : cps (ts.take i) = found at hn
    have hfs : SgL found := by rw [← hf]; exact cps_sg fun s hs' => hs s (List.mem_of_mem_take hs')
    have hfl : found.length * t.length ≤ 10000 := by
      rw [← hf, cps_len (m := m) fun s hs' => hm s (List.mem_of_mem_take hs'), hm t htm, ← Nat.pow_succ, List.length_take]
      refine Nat.le_trans (Nat.pow_le_pow_right hm1 ?_) hb
      have : i < ts.length := (List.getElem?_eq_some_iff.mp ht).1
      omega
    have hn2 : (S1 ++ [Cell.lst []])[n]? = some (.lst (found.map .int)) := Al.one.get hn
    have hnl : n < S1.length := (List.getElem?_eq_some_iff.mp hn).1
    simp only [run_eq, ss_nil, ss_cons, s_nm, s_asg, s_par, par2, par3, s_aug, augD_add, augD_sub, s_augIx, augX_add, augX_sub, s_expr, s_ret, s_retN, s_pass, s_brk, s_cont, s_ite, s_for, s_while, seqF_nx, seqF_rt, seqF_bk, seqF_ct, fnD_rt, fnD_nx, g_nm, g_tp, g_ix, gs_nil, gs_cons, e_int, e_bl, e_non, e_str, e_var, getV_0, getV_s, e_gl, opt_some, e_bin, e_neg, negD_int, e_not, notD_bl, e_and, e_or, bE_app, bolD_bl, okM_app, e_cmp, e_chain, chE_app, e_ite, e_tup, e_lst, e_ix, e_rev, e_slA, e_slL, e_slH, e_slLH, sl1_L, sl1_H, sl2_LH, e_call, e_bi, e_mt, e_comp, es_nil, es_cons, ifD_bl, ifD_t, ifD_f, b_ok, b_assoc, fTurn_eq, turn_eq, inT_some, inC_some, soE_app, evT_nil, evT_one, t_nm, t_tp, ts_nil, ts_cons, mkL_f, mkL_t, o_add, o_sub, c_lt, c_le, c_gt, c_ge, c_eqI, c_neI, b_int, b_intB, b_abs, b_max2, b_min2, b_gcd, b_lenT, b_lenL, b_lenS, b_tupT, b_tupL, b_lstT, b_lstL, b_isiT, b_isiI, b_isiB, revT, revL, ixT0, ixT1, ixT2, ixL0, ixL1, isI, q_vlT, q_vlL, q_vlS, q_enT, q_enL, q_zpTT, q_zpTL, q_zpLT, q_zpLL, forD_some, List.set_cons_zero, List.set_cons_succ, List.map_cons, List.map_nil, List.length_cons, List.length_nil, List.cons_append, List.nil_append, List.replicate_succ, List.replicate_zero, Nat.reduceAdd, Nat.reduceSub, Nat.reduceEqDiff, if_true, Option.bind_some, wipeD, q_vlR hn2]
    generalize hk : S1.length = k at *
    refine WP_call (for_inv (P := fun f S' => ∃ e4 e5, f = .nx [some (.tup (ts.map tI)), some (.ref n), some (tI t), some (.ref k), e4, e5] ∧ S'[k]? = some (.lst ((cpsF found t).map .int)) ∧ Al S S')
      (fun j env S' => ∃ e4 e5, env = [some (.tup (ts.map tI)), some (.ref n), some (tI t), some (.ref k), e4, e5] ∧ S'[k]? = some (.lst ((cpsF (found.take j) t).map .int)) ∧ S'[n]? = some (.lst (found.map .int)) ∧ Al S S') 0
      ⟨e4, e5, rfl, by rw [← hk]; simp [cpsF], hn2, hal.trans Al.one⟩ ?_ ?_) ?_
    · rintro j env S2 x ⟨e4, e5, rfl, h1, h2, h3⟩ hj _ hx
      refine ⟨dep_one h2, ?_⟩
      rw [Nat.sub_zero, List.getElem?_map] at hx
      obtain ⟨o, ho, rfl⟩ := Option.map_eq_some_iff.mp hx
      have hos := sg_small hfs (List.mem_of_getElem? ho)
      have htl : t.length ≤ 10000 := by
        have : 0 < found.length := by have := (List.getElem?_eq_some_iff.mp ho).1; omega
        exact Nat.le_trans (Nat.le_mul_of_pos_left _ this) hfl
      unfold tI
      simp only [run_eq, ss_nil, ss_cons, s_nm, s_asg, s_par, par2, par3, s_aug, augD_add, augD_sub, s_augIx, augX_add, augX_sub, s_expr, s_ret, s_retN, s_pass, s_brk, s_cont, s_ite, s_for, s_while, seqF_nx, seqF_rt, seqF_bk, seqF_ct, fnD_rt, fnD_nx, g_nm, g_tp, g_ix, gs_nil, gs_cons, e_int, e_bl, e_non, e_str, e_var, getV_0, getV_s, e_gl, opt_some, e_bin, e_neg, negD_int, e_not, notD_bl, e_and, e_or, bE_app, bolD_bl, okM_app, e_cmp, e_chain, chE_app, e_ite, e_tup, e_lst, e_ix, e_rev, e_slA, e_slL, e_slH, e_slLH, sl1_L, sl1_H, sl2_LH, e_call, e_bi, e_mt, e_comp, es_nil, es_cons, ifD_bl, ifD_t, ifD_f, b_ok, b_assoc, fTurn_eq, turn_eq, inT_some, inC_some, soE_app, evT_nil, evT_one, t_nm, t_tp, ts_nil, ts_cons, mkL_f, mkL_t, o_add, o_sub, c_lt, c_le, c_gt, c_ge, c_eqI, c_neI, b_int, b_intB, b_abs, b_max2, b_min2, b_gcd, b_lenT, b_lenL, b_lenS, b_tupT, b_tupL, b_lstT, b_lstL, b_isiT, b_isiI, b_isiB, revT, revL, ixT0, ixT1, ixT2, ixL0, ixL1, isI, q_vlT, q_vlL, q_vlS, q_enT, q_enL, q_zpTT, q_zpTL, q_zpLT, q_zpLL, forD_some, List.set_cons_zero, List.set_cons_succ, List.map_cons, List.map_nil, List.length_cons, List.length_nil, List.cons_append, List.nil_append, List.replicate_succ, List.replicate_zero, Nat.reduceAdd, Nat.reduceSub, Nat.reduceEqDiff, if_true, Option.bind_some, wipeD, compD_some (show (t.map D.int).length ≤ LIM by rw [List.length_map]; omega)]
      rw [comp_int (fun x => o * x) dep_nil fun x hx => by
        simp only [run_eq, ss_nil, ss_cons, s_nm, s_asg, s_par, par2, par3, s_aug, augD_add, augD_sub, s_augIx, augX_add, augX_sub, s_expr, s_ret, s_retN, s_pass, s_brk, s_cont, s_ite, s_for, s_while, seqF_nx, seqF_rt, seqF_bk, seqF_ct, fnD_rt, fnD_nx, g_nm, g_tp, g_ix, gs_nil, gs_cons, e_int, e_bl, e_non, e_str, e_var, getV_0, getV_s, e_gl, opt_some, e_bin, e_neg, negD_int, e_not, notD_bl, e_and, e_or, bE_app, bolD_bl, okM_app, e_cmp, e_chain, chE_app, e_ite, e_tup, e_lst, e_ix, e_rev, e_slA, e_slL, e_slH, e_slLH, sl1_L, sl1_H, sl2_LH, e_call, e_bi, e_mt, e_comp, es_nil, es_cons, ifD_bl, ifD_t, ifD_f, b_ok, b_assoc, fTurn_eq, turn_eq, inT_some, inC_some, soE_app, evT_nil, evT_one, t_nm, t_tp, ts_nil, ts_cons, mkL_f, mkL_t, o_add, o_sub, c_lt, c_le, c_gt, c_ge, c_eqI, c_neI, b_int, b_intB, b_abs, b_max2, b_min2, b_gcd, b_lenT, b_lenL, b_lenS, b_tupT, b_tupL, b_lstT, b_lstL, b_isiT, b_isiI, b_isiB, revT, revL, ixT0, ixT1, ixT2, ixL0, ixL1, isI, q_vlT, q_vlL, q_vlS, q_enT, q_enL, q_zpTT, q_zpTL, q_zpLT, q_zpLL, forD_some, List.set_cons_zero, List.set_cons_succ, List.map_cons, List.map_nil, List.length_cons, List.length_nil, List.cons_append, List.nil_append, List.replicate_succ, List.replicate_zero, Nat.reduceAdd, Nat.reduceSub, Nat.reduceEqDiff, if_true, Option.bind_some, wipeD, o_mul (mulOk hos (sg_small hts hx))]]
      have hlen : ((cpsF (found.take j) t).map D.int).length + ((t.map fun x => o * x).map D.int).length ≤ LIM := by
        rw [List.length_map, List.length_map, List.length_map, cpsF_len, List.length_take]
        have h1 : min j found.length + 1 ≤ found.length := by have := (List.getElem?_eq_some_iff.mp ho).1; omega
        have h2 := Nat.mul_le_mul_right t.length h1
        rw [Nat.succ_mul] at h2
        omega
      simp only [run_eq, ss_nil, ss_cons, s_nm, s_asg, s_par, par2, par3, s_aug, augD_add, augD_sub, s_augIx, augX_add, augX_sub, s_expr, s_ret, s_retN, s_pass, s_brk, s_cont, s_ite, s_for, s_while, seqF_nx, seqF_rt, seqF_bk, seqF_ct, fnD_rt, fnD_nx, g_nm, g_tp, g_ix, gs_nil, gs_cons, e_int, e_bl, e_non, e_str, e_var, getV_0, getV_s, e_gl, opt_some, e_bin, e_neg, negD_int, e_not, notD_bl, e_and, e_or, bE_app, bolD_bl, okM_app, e_cmp, e_chain, chE_app, e_ite, e_tup, e_lst, e_ix, e_rev, e_slA, e_slL, e_slH, e_slLH, sl1_L, sl1_H, sl2_LH, e_call, e_bi, e_mt, e_comp, es_nil, es_cons, ifD_bl, ifD_t, ifD_f, b_ok, b_assoc, fTurn_eq, turn_eq, inT_some, inC_some, soE_app, evT_nil, evT_one, t_nm, t_tp, ts_nil, ts_cons, mkL_f, mkL_t, o_add, o_sub, c_lt, c_le, c_gt, c_ge, c_eqI, c_neI, b_int, b_intB, b_abs, b_max2, b_min2, b_gcd, b_lenT, b_lenL, b_lenS, b_tupT, b_tupL, b_lstT, b_lstL, b_isiT, b_isiI, b_isiB, revT, revL, ixT0, ixT1, ixT2, ixL0, ixL1, isI, q_vlT, q_vlL, q_vlS, q_enT, q_enL, q_zpTT, q_zpTL, q_zpLT, q_zpLL, forD_some, List.set_cons_zero, List.set_cons_succ, List.map_cons, List.map_nil, List.length_cons, List.length_nil, List.cons_append, List.nil_append, List.replicate_succ, List.replicate_zero, Nat.reduceAdd, Nat.reduceSub, Nat.reduceEqDiff, if_true, Option.bind_some, wipeD, m_extend h1 (show lstOf S2 (.lst ((t.map fun x => o * x).map D.int)) = some ((t.map fun x => o * x).map D.int) from rfl) hlen, WP_ok]
      have hkl : k < S2.length := (List.getElem?_eq_some_iff.mp h1).1
      refine ⟨_, _, rfl, ?_, ?_, h3.set (by have := hal.len; omega)⟩
      · rw [List.getElem?_set_self hkl, cpsF_take ho, List.map_append]
      · rw [List.getElem?_set_ne (by omega)]; exact h2
    · rintro env S2 ⟨e4, e5, rfl, h1, h2, h3⟩
      refine ⟨dep_one h2, e4, e5, rfl, ?_, h3⟩
      rw [List.length_map, Nat.zero_add, List.take_length] at h1
      exact h1
    · rintro f S2 ⟨e4, e5, rfl, h1, h3⟩
      simp only [run_eq, ss_nil, ss_cons, s_nm, s_asg, s_par, par2, par3, s_aug, augD_add, augD_sub, s_augIx, augX_add, augX_sub, s_expr, s_ret, s_retN, s_pass, s_brk, s_cont, s_ite, s_for, s_while, seqF_nx, seqF_rt, seqF_bk, seqF_ct, fnD_rt, fnD_nx, g_nm, g_tp, g_ix, gs_nil, gs_cons, e_int, e_bl, e_non, e_str, e_var, getV_0, getV_s, e_gl, opt_some, e_bin, e_neg, negD_int, e_not, notD_bl, e_and, e_or, bE_app, bolD_bl, okM_app, e_cmp, e_chain, chE_app, e_ite, e_tup, e_lst, e_ix, e_rev, e_slA, e_slL, e_slH, e_slLH, sl1_L, sl1_H, sl2_LH, e_call, e_bi, e_mt, e_comp, es_nil, es_cons, ifD_bl, ifD_t, ifD_f, b_ok, b_assoc, fTurn_eq, turn_eq, inT_some, inC_some, soE_app, evT_nil, evT_one, t_nm, t_tp, ts_nil, ts_cons, mkL_f, mkL_t, o_add, o_sub, c_lt, c_le, c_gt, c_ge, c_eqI, c_neI, b_int, b_intB, b_abs, b_max2, b_min2, b_gcd, b_lenT, b_lenL, b_lenS, b_tupT, b_tupL, b_lstT, b_lstL, b_isiT, b_isiI, b_isiB, revT, revL, ixT0, ixT1, ixT2, ixL0, ixL1, isI, q_vlT, q_vlL, q_vlS, q_enT, q_enL, q_zpTT, q_zpTL, q_zpLT, q_zpLL, forD_some, List.set_cons_zero, List.set_cons_succ, List.map_cons, List.map_nil, List.length_cons, List.length_nil, List.cons_append, List.nil_append, List.replicate_succ, List.replicate_zero, Nat.reduceAdd, Nat.reduceSub, Nat.reduceEqDiff, if_true, Option.bind_some, wipeD, WP_ok]
      exact ⟨k, _, _, _, _, rfl, by rw [cps_take ht, hf]; exact h1, by have := hal.len; omega, h3⟩
  · rintro env S1 ⟨n, e2, e3, e4, e5, rfl, hn, hle, hal⟩
    rw [List.length_map, Nat.zero_add, List.take_length] at hn
    exact ⟨dep_nil, n, e2, e3, e4, e5, rfl, hn, hle, hal⟩
  · rintro f S1 ⟨n, e2, e3, e4, e5, rfl, hn, hle, hal⟩
    simp only [run_eq, ss_nil, ss_cons, s_nm, s_asg, s_par, par2, par3, s_aug, augD_add, augD_sub, s_augIx, augX_add, augX_sub, s_expr, s_ret, s_retN, s_pass, s_brk, s_cont, s_ite, s_for, s_while, seqF_nx, seqF_rt, seqF_bk, seqF_ct, fnD_rt, fnD_nx, g_nm, g_tp, g_ix, gs_nil, gs_cons, e_int, e_bl, e_non, e_str, e_var, getV_0, getV_s, e_gl, opt_some, e_bin, e_neg, negD_int, e_not, notD_bl, e_and, e_or, bE_app, bolD_bl, okM_app, e_cmp, e_chain, chE_app, e_ite, e_tup, e_lst, e_ix, e_rev, e_slA, e_slL, e_slH, e_slLH, sl1_L, sl1_H, sl2_LH, e_call, e_bi, e_mt, e_comp, es_nil, es_cons, ifD_bl, ifD_t, ifD_f, b_ok, b_assoc, fTurn_eq, turn_eq, inT_some, inC_some, soE_app, evT_nil, evT_one, t_nm, t_tp, ts_nil, ts_cons, mkL_f, mkL_t, o_add, o_sub, c_lt, c_le, c_gt, c_ge, c_eqI, c_neI, b_int, b_intB, b_abs, b_max2, b_min2, b_gcd, b_lenT, b_lenL, b_lenS, b_tupT, b_tupL, b_lstT, b_lstL, b_isiT, b_isiI, b_isiB, revT, revL, ixT0, ixT1, ixT2, ixL0, ixL1, isI, q_vlT, q_vlL, q_vlS, q_enT, q_enL, q_zpTT, q_zpTL, q_zpLT, q_zpLL, forD_some, List.set_cons_zero, List.set_cons_succ, List.map_cons, List.map_nil, List.length_cons, List.length_nil, List.cons_append, List.nil_append, List.replicate_succ, List.replicate_zero, Nat.reduceAdd, Nat.reduceSub, Nat.reduceEqDiff, if_true, Option.bind_some, wipeD, WP_ok]
    exact ⟨n, rfl, hn, hle, hal⟩
/-! ### the places of a number -/
def dg (m t p : Nat) : List Nat := ((List.range t).map fun u => p / m ^ u % m).reverse
theorem places_spec {C : Ev.Ctx} {S : Store} {m t p : Nat} {mi ti pi : Int} (h1 : mi = (m : Int)) (h2 : ti = (t : Int)) (h3 : pi = (p : Int)) (hm1 : 1 ≤ m) (hm2 : m ≤ 100) (ht : t ≤ 100) :
    WP (runF C fd_law_hx_places [.int mi, .int ti, .int pi] S) fun d S' => d = .lst ((dg m t p).map fun (k : Nat) => D.int (k : Int)) ∧ Al S S' := by
  have lg := lim_ge
  have hmp : 0 < mi := by omega
  have hd : divOk mi = true := divOk_of (a := 200) hmp (by omega) (by decide)
  simp only [run_eq, ss_nil, ss_cons, s_nm, s_asg, s_par, par2, par3, s_aug, augD_add, augD_sub, s_augIx, augX_add, augX_sub, s_expr, s_ret, s_retN, s_pass, s_brk, s_cont, s_ite, s_for, s_while, seqF_nx, seqF_rt, seqF_bk, seqF_ct, fnD_rt, fnD_nx, g_nm, g_tp, g_ix, gs_nil, gs_cons, e_int, e_bl, e_non, e_str, e_var, getV_0, getV_s, e_gl, opt_some, e_bin, e_neg, negD_int, e_not, notD_bl, e_and, e_or, bE_app, bolD_bl, okM_app, e_cmp, e_chain, chE_app, e_ite, e_tup, e_lst, e_ix, e_rev, e_slA, e_slL, e_slH, e_slLH, sl1_L, sl1_H, sl2_LH, e_call, e_bi, e_mt, e_comp, es_nil, es_cons, ifD_bl, ifD_t, ifD_f, b_ok, b_assoc, fTurn_eq, turn_eq, inT_some, inC_some, soE_app, evT_nil, evT_one, t_nm, t_tp, ts_nil, ts_cons, mkL_f, mkL_t, o_add, o_sub, c_lt, c_le, c_gt, c_ge, c_eqI, c_neI, b_int, b_intB, b_abs, b_max2, b_min2, b_gcd, b_lenT, b_lenL, b_lenS, b_tupT, b_tupL, b_lstT, b_lstL, b_isiT, b_isiI, b_isiB, revT, revL, ixT0, ixT1, ixT2, ixL0, ixL1, isI, q_vlT, q_vlL, q_vlS, q_enT, q_enL, q_zpTT, q_zpTL, q_zpLT, q_zpLL, forD_some, List.set_cons_zero, List.set_cons_succ, List.map_cons, List.map_nil, List.length_cons, List.length_nil, List.cons_append, List.nil_append, List.replicate_succ, List.replicate_zero, Nat.reduceAdd, Nat.reduceSub, Nat.reduceEqDiff, if_true, Option.bind_some, wipeD, fd_law_hx_places, q_rg1' h2 (show t ≤ LIM by omega)]
  generalize hk : S.length = k
  refine WP_call (for_inv (P := fun f S' => ∃ e4 e5, f = .nx [some (.int mi), some (.int ti), some (.int pi), some (.ref k), e4, e5] ∧ S'[k]? = some (.lst (((List.range t).map fun u => p / m ^ u % m).map fun (k : Nat) => D.int (k : Int))) ∧ Al S S')
    (fun i env S' => ∃ (l : Int) (e5 : Option D), env = [some (.int mi), some (.int ti), some (.int pi), some (.ref k), some (.int l), e5] ∧ l = ((p / m ^ i : Nat) : Int) ∧ S'[k]? = some (.lst (((List.range i).map fun u => p / m ^ u % m).map fun (k : Nat) => D.int (k : Int))) ∧ Al S S') 0
    ⟨pi, none, rfl, by simp [h3], by rw [← hk]; simp, Al.one⟩ ?_ ?_) ?_
  · rintro i env S1 x ⟨l, e5, rfl, hl, hS, hal⟩ hi _ hx
    obtain ⟨rfl, hi2⟩ := natsD_get hx
    refine ⟨dep_nil, ?_⟩
    have hlen : (((List.range i).map fun u => p / m ^ u % m).map fun (k : Nat) => D.int (k : Int)).length < LIM := by simp; omega
    simp only [run_eq, ss_nil, ss_cons, s_nm, s_asg, s_par, par2, par3, s_aug, augD_add, augD_sub, s_augIx, augX_add, augX_sub, s_expr, s_ret, s_retN, s_pass, s_brk, s_cont, s_ite, s_for, s_while, seqF_nx, seqF_rt, seqF_bk, seqF_ct, fnD_rt, fnD_nx, g_nm, g_tp, g_ix, gs_nil, gs_cons, e_int, e_bl, e_non, e_str, e_var, getV_0, getV_s, e_gl, opt_some, e_bin, e_neg, negD_int, e_not, notD_bl, e_and, e_or, bE_app, bolD_bl, okM_app, e_cmp, e_chain, chE_app, e_ite, e_tup, e_lst, e_ix, e_rev, e_slA, e_slL, e_slH, e_slLH, sl1_L, sl1_H, sl2_LH, e_call, e_bi, e_mt, e_comp, es_nil, es_cons, ifD_bl, ifD_t, ifD_f, b_ok, b_assoc, fTurn_eq, turn_eq, inT_some, inC_some, soE_app, evT_nil, evT_one, t_nm, t_tp, ts_nil, ts_cons, mkL_f, mkL_t, o_add, o_sub, c_lt, c_le, c_gt, c_ge, c_eqI, c_neI, b_int, b_intB, b_abs, b_max2, b_min2, b_gcd, b_lenT, b_lenL, b_lenS, b_tupT, b_tupL, b_lstT, b_lstL, b_isiT, b_isiI, b_isiB, revT, revL, ixT0, ixT1, ixT2, ixL0, ixL1, isI, q_vlT, q_vlL, q_vlS, q_enT, q_enL, q_zpTT, q_zpTL, q_zpLT, q_zpLL, forD_some, List.set_cons_zero, List.set_cons_succ, List.map_cons, List.map_nil, List.length_cons, List.length_nil, List.cons_append, List.nil_append, List.replicate_succ, List.replicate_zero, Nat.reduceAdd, Nat.reduceSub, Nat.reduceEqDiff, if_true, Option.bind_some, wipeD, o_mod hmp, m_append hS hlen, o_fdiv hd hmp, WP_ok]
    have hkl : k < S1.length := (List.getElem?_eq_some_iff.mp hS).1
    refine ⟨l / mi, _, rfl, ?_, ?_, hal.set (by omega)⟩
    · rw [hl, h1, Nat.pow_succ, ← Nat.div_div_eq_div_mul]; simp
    · rw [List.getElem?_set_self hkl, List.range_succ, List.map_append, List.map_append, hl, h1]
      simp
  · rintro env S1 ⟨l, e5, rfl, hl, hS, hal⟩
    rw [natsD_len, Nat.zero_add] at hS
    exact ⟨dep_nil, _, e5, rfl, hS, hal⟩
  · rintro f S1 ⟨e4, e5, rfl, hS, hal⟩
    simp only [run_eq, ss_nil, ss_cons, s_nm, s_asg, s_par, par2, par3, s_aug, augD_add, augD_sub, s_augIx, augX_add, augX_sub, s_expr, s_ret, s_retN, s_pass, s_brk, s_cont, s_ite, s_for, s_while, seqF_nx, seqF_rt, seqF_bk, seqF_ct, fnD_rt, fnD_nx, g_nm, g_tp, g_ix, gs_nil, gs_cons, e_int, e_bl, e_non, e_str, e_var, getV_0, getV_s, e_gl, opt_some, e_bin, e_neg, negD_int, e_not, notD_bl, e_and, e_or, bE_app, bolD_bl, okM_app, e_cmp, e_chain, chE_app, e_ite, e_tup, e_lst, e_ix, e_rev, e_slA, e_slL, e_slH, e_slLH, sl1_L, sl1_H, sl2_LH, e_call, e_bi, e_mt, e_comp, es_nil, es_cons, ifD_bl, ifD_t, ifD_f, b_ok, b_assoc, fTurn_eq, turn_eq, inT_some, inC_some, soE_app, evT_nil, evT_one, t_nm, t_tp, ts_nil, ts_cons, mkL_f, mkL_t, o_add, o_sub, c_lt, c_le, c_gt, c_ge, c_eqI, c_neI, b_int, b_intB, b_abs, b_max2, b_min2, b_gcd, b_lenT, b_lenL, b_lenS, b_tupT, b_tupL, b_lstT, b_lstL, b_isiT, b_isiI, b_isiB, revT, revL, ixT0, ixT1, ixT2, ixL0, ixL1, isI, q_vlT, q_vlL, q_vlS, q_enT, q_enL, q_zpTT, q_zpTL, q_zpLT, q_zpLL, forD_some, List.set_cons_zero, List.set_cons_succ, List.map_cons, List.map_nil, List.length_cons, List.length_nil, List.cons_append, List.nil_append, List.replicate_succ, List.replicate_zero, Nat.reduceAdd, Nat.reduceSub, Nat.reduceEqDiff, if_true, Option.bind_some, wipeD, revR hS, WP_ok]
    exact ⟨by simp [dg], hal⟩
end LW
namespace LW
open PySem L2 Ev
theorem al_fr {n : Nat} {S S' : Store} (h : Al S S') : Fr n S S' := by obtain ⟨l, rfl⟩ := h; exact Fr.app
theorem al_di {n N : Nat} {S S' : Store} (h : Al S S') (d : Di n N S) : Di n N S' := by obtain ⟨l, rfl⟩ := h; exact d.app
theorem fr_set {n k : Nat} {S S' : Store} {c : Cell} (h : Fr n S S') (hk : S.length ≤ k) : Fr n S (S'.set k c) :=
  ⟨by simp [h.1], fun m hm hn => by rw [List.getElem?_set_ne (by omega)]; exact h.2 m hm hn⟩
theorem di_set {n k N : Nat} {S : Store} {c : Cell} (h : Di n N S) (hk : k ≠ n) : Di n N (S.set k c) := by
  obtain ⟨a, b, d, h1, h2⟩ := h
  exact ⟨a, b, d, by rw [List.getElem?_set_ne hk]; exact h1, h2⟩
def TrOk (cl : Nat → List D → M D) : Prop := ∀ (S : Store) (n N m : Nat) (mi : Int), mi = (m : Int) → Di n N S → N + m + 1 < 2 ^ 100 → m ≤ 100 → WP (cl 30 [.ref n, .int mi] S) fun d S' => ∃ l, d = tI l ∧ l.length = m ∧ SgL l ∧ Fr n S S' ∧ Di n (N + 1 + m) S'
def CpOk (cl : Nat → List D → M D) : Prop := ∀ (S : Store) (ts : List (List Int)) (m : Nat), (∀ t, t ∈ ts → SgL t) → (∀ t, t ∈ ts → t.length = m) → 1 ≤ m → m ^ ts.length ≤ 10000 → WP (cl 31 [tsD ts] S) fun d S' => ∃ n, d = .ref n ∧ S'[n]? = some (.lst ((cps ts).map .int)) ∧ S.length ≤ n ∧ Al S S'
def CpOkL (cl : Nat → List D → M D) : Prop := ∀ (S : Store) (ts : List (List Int)) (m : Nat), (∀ t, t ∈ ts → SgL t) → (∀ t, t ∈ ts → t.length = m) → 1 ≤ m → m ^ ts.length ≤ 10000 → WP (cl 31 [.lst (ts.map tI)] S) fun d S' => ∃ n, d = .ref n ∧ S'[n]? = some (.lst ((cps ts).map .int)) ∧ S.length ≤ n ∧ Al S S'
/-- truths: ts, t of them on m points -/
structure Ts (ts : List (List Int)) (m t : Nat) : Prop where
  sg : ∀ s, s ∈ ts → SgL s
  len : ∀ s, s ∈ ts → s.length = m
  m1 : 1 ≤ m
  m5 : m ≤ 5
  num : ts.length = t
  t1 : 1 ≤ t
  t3 : t ≤ 3
theorem Ts.pow {ts : List (List Int)} {m t : Nat} (h : Ts ts m t) : m ^ ts.length ≤ 10000 := by
  rw [h.num]
  have h1 : m ^ t ≤ 5 ^ t := Nat.pow_le_pow_left h.m5 t
  have h2 : (5 : Nat) ^ t ≤ 5 ^ 3 := Nat.pow_le_pow_right (by decide) h.t3
  have h3 : (5 : Nat) ^ 3 = 125 := by decide
  omega
theorem Ts.pow' {ts : List (List Int)} {m t : Nat} (h : Ts ts m t) : 1 ≤ m ^ t ∧ m ^ t ≤ 125 := by
  have h1 : m ^ t ≤ 5 ^ t := Nat.pow_le_pow_left h.m5 t
  have h2 : (5 : Nat) ^ t ≤ 5 ^ 3 := Nat.pow_le_pow_right (by decide) h.t3
  have h3 : (5 : Nat) ^ 3 = 125 := by decide
  exact ⟨Nat.pow_pos h.m1, by omega⟩
theorem Ts.cl {ts : List (List Int)} {m t : Nat} (h : Ts ts m t) : (cps ts).length = m ^ t := by rw [cps_len h.len, h.num]
theorem Ts.hd {ts : List (List Int)} {m t : Nat} (h : Ts ts m t) : ∃ t0 r, ts = t0 :: r ∧ t0.length = m := by
  cases ts with
  | nil => have := h.num; have := h.t1; simp at *; omega
  | cons t0 r => exact ⟨t0, r, rfl, h.len t0 (by simp)⟩
theorem ct_spec {C : Ev.Ctx} {S : Store} {n N m t : Nat} {ts : List (List Int)} (hu : UpOk C.cl) (ht : TrOk C.cl) (hc : CpOk C.cl) (hc2 : CpOkL C.cl) (h : Di n N S) (hN : N + 1000 < 2 ^ 100) (hts : Ts ts m t) :
    WP (runF C fd_law_hx_copies_test [.ref n, tsD ts] S) fun d S' => ∃ l, d = tI l ∧ l.length = m ^ t ∧ SgL l ∧ Fr n S S' ∧ Di n (N + 500) S' := by
  have lg := lim_ge
  obtain ⟨t0, rest, e0, ht0⟩ := hts.hd
  have hpw := hts.pow'
  have hcl := hts.cl
  have hcs := cps_sg hts.sg
  have i0 : ∀ S, doIx (tsD ts) (.int 0) S = .ok (tI t0) S := fun S => by rw [e0]; exact ixT0
  have ln : ∀ S m, doBi .len m [tI t0] S = .ok (.int t0.length) S := fun S m => by unfold tI; rw [b_lenT, List.length_map]
  generalize hmi : (t0.length : Int) = mi at ln
  rw [ht0] at hmi
  have hmp : 0 < mi := by have := hts.m1; omega
  have hml := hts.m5
  have hdm : divOk mi = true := divOk_of (a := 200) hmp (by omega) (by decide)
  simp only [run_eq, ss_nil, ss_cons, s_nm, s_asg, s_par, par2, par3, s_aug, augD_add, augD_sub, s_augIx, augX_add, augX_sub, s_expr, s_ret, s_retN, s_pass, s_brk, s_cont, s_ite, s_for, s_while, seqF_nx, seqF_rt, seqF_bk, seqF_ct, fnD_rt, fnD_nx, g_nm, g_tp, g_ix, gs_nil, gs_cons, e_int, e_bl, e_non, e_str, e_var, getV_0, getV_s, e_gl, opt_some, e_bin, e_neg, negD_int, e_not, notD_bl, e_and, e_or, bE_app, bolD_bl, okM_app, e_cmp, e_chain, chE_app, e_ite, e_tup, e_lst, e_ix, e_rev, e_slA, e_slL, e_slH, e_slLH, sl1_L, sl1_H, sl2_LH, e_call, e_bi, e_mt, e_comp, es_nil, es_cons, ifD_bl, ifD_t, ifD_f, b_ok, b_assoc, fTurn_eq, turn_eq, inT_some, inC_some, soE_app, evT_nil, evT_one, t_nm, t_tp, ts_nil, ts_cons, mkL_f, mkL_t, o_add, o_sub, c_lt, c_le, c_gt, c_ge, c_eqI, c_neI, b_int, b_intB, b_abs, b_max2, b_min2, b_gcd, b_lenT, b_lenL, b_lenS, b_tupT, b_tupL, b_lstT, b_lstL, b_isiT, b_isiI, b_isiB, revT, revL, ixT0, ixT1, ixT2, ixL0, ixL1, isI, q_vlT, q_vlL, q_vlS, q_enT, q_enL, q_zpTT, q_zpTL, q_zpLT, q_zpLL, forD_some, List.set_cons_zero, List.set_cons_succ, List.map_cons, List.map_nil, List.length_cons, List.length_nil, List.cons_append, List.nil_append, List.replicate_succ, List.replicate_zero, Nat.reduceAdd, Nat.reduceSub, Nat.reduceEqDiff, if_true, Option.bind_some, wipeD, fd_law_hx_copies_test]
  refine WP_call (hc S ts m hts.sg hts.len hts.m1 hts.pow) ?_
  rintro d S1 ⟨k, rfl, hk, hle, hal⟩
  simp only [run_eq, ss_nil, ss_cons, s_nm, s_asg, s_par, par2, par3, s_aug, augD_add, augD_sub, s_augIx, augX_add, augX_sub, s_expr, s_ret, s_retN, s_pass, s_brk, s_cont, s_ite, s_for, s_while, seqF_nx, seqF_rt, seqF_bk, seqF_ct, fnD_rt, fnD_nx, g_nm, g_tp, g_ix, gs_nil, gs_cons, e_int, e_bl, e_non, e_str, e_var, getV_0, getV_s, e_gl, opt_some, e_bin, e_neg, negD_int, e_not, notD_bl, e_and, e_or, bE_app, bolD_bl, okM_app, e_cmp, e_chain, chE_app, e_ite, e_tup, e_lst, e_ix, e_rev, e_slA, e_slL, e_slH, e_slLH, sl1_L, sl1_H, sl2_LH, e_call, e_bi, e_mt, e_comp, es_nil, es_cons, ifD_bl, ifD_t, ifD_f, b_ok, b_assoc, fTurn_eq, turn_eq, inT_some, inC_some, soE_app, evT_nil, evT_one, t_nm, t_tp, ts_nil, ts_cons, mkL_f, mkL_t, o_add, o_sub, c_lt, c_le, c_gt, c_ge, c_eqI, c_neI, b_int, b_intB, b_abs, b_max2, b_min2, b_gcd, b_lenT, b_lenL, b_lenS, b_tupT, b_tupL, b_lstT, b_lstL, b_isiT, b_isiI, b_isiB, revT, revL, ixT0, ixT1, ixT2, ixL0, ixL1, isI, q_vlT, q_vlL, q_vlS, q_enT, q_enL, q_zpTT, q_zpTL, q_zpLT, q_zpLL, forD_some, List.set_cons_zero, List.set_cons_succ, List.map_cons, List.map_nil, List.length_cons, List.length_nil, List.cons_append, List.nil_append, List.replicate_succ, List.replicate_zero, Nat.reduceAdd, Nat.reduceSub, Nat.reduceEqDiff, if_true, Option.bind_some, wipeD, i0, ln]
  refine WP_call (hu S1 n N _ (al_di hal h) (by decide) (by decide) (by omega)) ?_
  rintro d S2 ⟨way, rfl, w1, w2, f2, d2⟩
  have hkn : k ≠ n := by have := h.lt; omega
  have hkl : k < S1.length := (List.getElem?_eq_some_iff.mp hk).1
  have hk2 : S2[k]? = some (.lst ((cps ts).map .int)) := by rw [f2.2 k hkl hkn]; exact hk
  have f02 : Fr n S S2 := (al_fr hal).trans f2
  have hlen : ∀ mm, doBi .len mm [.ref k] S2 = .ok (.int (((cps ts).map D.int).length : Int)) S2 := fun mm => b_lenR hk2
  generalize hLi : ((((cps ts).map D.int).length : Nat) : Int) = Li at hlen
  rw [List.length_map, hcl] at hLi
  have hq : ∀ S, srcOf .rg1 [.int Li] S = some (natsD (m ^ t), []) := fun S => q_rg1' hLi.symm (by omega)
  simp only [g_nm, s_nm, List.set_cons_zero, List.set_cons_succ, mkL_f, b_assoc, seqF_nx, ss_cons, ss_nil, b_ok, gs_cons, gs_nil, g_tp, s_asg]
  -- the first list
  refine WP_call (Q := fun f S' => ∃ k' l e6 e7 e8 e9, f = Fl.nx [some (.ref n), some (tsD ts), some (.ref k), some (.int mi), some (.int way), some (.ref k'), e6, e7, e8, e9] ∧ S'[k']? = some (.lst (l.map .int)) ∧ S.length ≤ k' ∧ l.length = m ^ t ∧ SgL l ∧ Fr n S S' ∧ Di n (N + 200) S') ?_ ?_
  · simp only [run_eq, ss_nil, ss_cons, s_nm, s_asg, s_par, par2, par3, s_aug, augD_add, augD_sub, s_augIx, augX_add, augX_sub, s_expr, s_ret, s_retN, s_pass, s_brk, s_cont, s_ite, s_for, s_while, seqF_nx, seqF_rt, seqF_bk, seqF_ct, fnD_rt, fnD_nx, g_nm, g_tp, g_ix, gs_nil, gs_cons, e_int, e_bl, e_non, e_str, e_var, getV_0, getV_s, e_gl, opt_some, e_bin, e_neg, negD_int, e_not, notD_bl, e_and, e_or, bE_app, bolD_bl, okM_app, e_cmp, e_chain, chE_app, e_ite, e_tup, e_lst, e_ix, e_rev, e_slA, e_slL, e_slH, e_slLH, sl1_L, sl1_H, sl2_LH, e_call, e_bi, e_mt, e_comp, es_nil, es_cons, ifD_bl, ifD_t, ifD_f, b_ok, b_assoc, fTurn_eq, turn_eq, inT_some, inC_some, soE_app, evT_nil, evT_one, t_nm, t_tp, ts_nil, ts_cons, mkL_f, mkL_t, o_add, o_sub, c_lt, c_le, c_gt, c_ge, c_eqI, c_neI, b_int, b_intB, b_abs, b_max2, b_min2, b_gcd, b_lenT, b_lenL, b_lenS, b_tupT, b_tupL, b_lstT, b_lstL, b_isiT, b_isiI, b_isiB, revT, revL, ixT0, ixT1, ixT2, ixL0, ixL1, isI, q_vlT, q_vlL, q_vlS, q_enT, q_enL, q_zpTT, q_zpTL, q_zpLT, q_zpLL, forD_some, List.set_cons_zero, List.set_cons_succ, List.map_cons, List.map_nil, List.length_cons, List.length_nil, List.cons_append, List.nil_append, List.replicate_succ, List.replicate_zero, Nat.reduceAdd, Nat.reduceSub, Nat.reduceEqDiff, if_true, Option.bind_some, wipeD]
    by_cases h0 : way = 0
    · simp only [run_eq, ss_nil, ss_cons, s_nm, s_asg, s_par, par2, par3, s_aug, augD_add, augD_sub, s_augIx, augX_add, augX_sub, s_expr, s_ret, s_retN, s_pass, s_brk, s_cont, s_ite, s_for, s_while, seqF_nx, seqF_rt, seqF_bk, seqF_ct, fnD_rt, fnD_nx, g_nm, g_tp, g_ix, gs_nil, gs_cons, e_int, e_bl, e_non, e_str, e_var, getV_0, getV_s, e_gl, opt_some, e_bin, e_neg, negD_int, e_not, notD_bl, e_and, e_or, bE_app, bolD_bl, okM_app, e_cmp, e_chain, chE_app, e_ite, e_tup, e_lst, e_ix, e_rev, e_slA, e_slL, e_slH, e_slLH, sl1_L, sl1_H, sl2_LH, e_call, e_bi, e_mt, e_comp, es_nil, es_cons, ifD_bl, ifD_t, ifD_f, b_ok, b_assoc, fTurn_eq, turn_eq, inT_some, inC_some, soE_app, evT_nil, evT_one, t_nm, t_tp, ts_nil, ts_cons, mkL_f, mkL_t, o_add, o_sub, c_lt, c_le, c_gt, c_ge, c_eqI, c_neI, b_int, b_intB, b_abs, b_max2, b_min2, b_gcd, b_lenT, b_lenL, b_lenS, b_tupT, b_tupL, b_lstT, b_lstL, b_isiT, b_isiI, b_isiB, revT, revL, ixT0, ixT1, ixT2, ixL0, ixL1, isI, q_vlT, q_vlL, q_vlS, q_enT, q_enL, q_zpTT, q_zpTL, q_zpLT, q_zpLL, forD_some, List.set_cons_zero, List.set_cons_succ, List.map_cons, List.map_nil, List.length_cons, List.length_nil, List.cons_append, List.nil_append, List.replicate_succ, List.replicate_zero, Nat.reduceAdd, Nat.reduceSub, Nat.reduceEqDiff, if_true, Option.bind_some, wipeD, h0, decide_true, b_lstR hk2, WP_ok]
      exact ⟨S2.length, cps ts, _, _, _, _, rfl, get_new, f02.1, hcl, hcs, f02.trans (al_fr Al.one), (al_di Al.one d2).mono (by omega)⟩
    · simp only [run_eq, ss_nil, ss_cons, s_nm, s_asg, s_par, par2, par3, s_aug, augD_add, augD_sub, s_augIx, augX_add, augX_sub, s_expr, s_ret, s_retN, s_pass, s_brk, s_cont, s_ite, s_for, s_while, seqF_nx, seqF_rt, seqF_bk, seqF_ct, fnD_rt, fnD_nx, g_nm, g_tp, g_ix, gs_nil, gs_cons, e_int, e_bl, e_non, e_str, e_var, getV_0, getV_s, e_gl, opt_some, e_bin, e_neg, negD_int, e_not, notD_bl, e_and, e_or, bE_app, bolD_bl, okM_app, e_cmp, e_chain, chE_app, e_ite, e_tup, e_lst, e_ix, e_rev, e_slA, e_slL, e_slH, e_slLH, sl1_L, sl1_H, sl2_LH, e_call, e_bi, e_mt, e_comp, es_nil, es_cons, ifD_bl, ifD_t, ifD_f, b_ok, b_assoc, fTurn_eq, turn_eq, inT_some, inC_some, soE_app, evT_nil, evT_one, t_nm, t_tp, ts_nil, ts_cons, mkL_f, mkL_t, o_add, o_sub, c_lt, c_le, c_gt, c_ge, c_eqI, c_neI, b_int, b_intB, b_abs, b_max2, b_min2, b_gcd, b_lenT, b_lenL, b_lenS, b_tupT, b_tupL, b_lstT, b_lstL, b_isiT, b_isiI, b_isiB, revT, revL, ixT0, ixT1, ixT2, ixL0, ixL1, isI, q_vlT, q_vlL, q_vlS, q_enT, q_enL, q_zpTT, q_zpTL, q_zpLT, q_zpLL, forD_some, List.set_cons_zero, List.set_cons_succ, List.map_cons, List.map_nil, List.length_cons, List.length_nil, List.cons_append, List.nil_append, List.replicate_succ, List.replicate_zero, Nat.reduceAdd, Nat.reduceSub, Nat.reduceEqDiff, if_true, Option.bind_some, wipeD, h0, decide_false, Bool.false_eq_true, if_false]
      by_cases h1 : way = 1
      · simp only [run_eq, ss_nil, ss_cons, s_nm, s_asg, s_par, par2, par3, s_aug, augD_add, augD_sub, s_augIx, augX_add, augX_sub, s_expr, s_ret, s_retN, s_pass, s_brk, s_cont, s_ite, s_for, s_while, seqF_nx, seqF_rt, seqF_bk, seqF_ct, fnD_rt, fnD_nx, g_nm, g_tp, g_ix, gs_nil, gs_cons, e_int, e_bl, e_non, e_str, e_var, getV_0, getV_s, e_gl, opt_some, e_bin, e_neg, negD_int, e_not, notD_bl, e_and, e_or, bE_app, bolD_bl, okM_app, e_cmp, e_chain, chE_app, e_ite, e_tup, e_lst, e_ix, e_rev, e_slA, e_slL, e_slH, e_slLH, sl1_L, sl1_H, sl2_LH, e_call, e_bi, e_mt, e_comp, es_nil, es_cons, ifD_bl, ifD_t, ifD_f, b_ok, b_assoc, fTurn_eq, turn_eq, inT_some, inC_some, soE_app, evT_nil, evT_one, t_nm, t_tp, ts_nil, ts_cons, mkL_f, mkL_t, o_add, o_sub, c_lt, c_le, c_gt, c_ge, c_eqI, c_neI, b_int, b_intB, b_abs, b_max2, b_min2, b_gcd, b_lenT, b_lenL, b_lenS, b_tupT, b_tupL, b_lstT, b_lstL, b_isiT, b_isiI, b_isiB, revT, revL, ixT0, ixT1, ixT2, ixL0, ixL1, isI, q_vlT, q_vlL, q_vlS, q_enT, q_enL, q_zpTT, q_zpTL, q_zpLT, q_zpLL, forD_some, List.set_cons_zero, List.set_cons_succ, List.map_cons, List.map_nil, List.length_cons, List.length_nil, List.cons_append, List.nil_append, List.replicate_succ, List.replicate_zero, Nat.reduceAdd, Nat.reduceSub, Nat.reduceEqDiff, if_true, Option.bind_some, wipeD, h1, decide_true]
        have hsrc : ∀ S, srcOf .vl [tsD ts] S = some (ts.map tI, []) := fun S => rfl
        simp only [run_eq, ss_nil, ss_cons, s_nm, s_asg, s_par, par2, par3, s_aug, augD_add, augD_sub, s_augIx, augX_add, augX_sub, s_expr, s_ret, s_retN, s_pass, s_brk, s_cont, s_ite, s_for, s_while, seqF_nx, seqF_rt, seqF_bk, seqF_ct, fnD_rt, fnD_nx, g_nm, g_tp, g_ix, gs_nil, gs_cons, e_int, e_bl, e_non, e_str, e_var, getV_0, getV_s, e_gl, opt_some, e_bin, e_neg, negD_int, e_not, notD_bl, e_and, e_or, bE_app, bolD_bl, okM_app, e_cmp, e_chain, chE_app, e_ite, e_tup, e_lst, e_ix, e_rev, e_slA, e_slL, e_slH, e_slLH, sl1_L, sl1_H, sl2_LH, e_call, e_bi, e_mt, e_comp, es_nil, es_cons, ifD_bl, ifD_t, ifD_f, b_ok, b_assoc, fTurn_eq, turn_eq, inT_some, inC_some, soE_app, evT_nil, evT_one, t_nm, t_tp, ts_nil, ts_cons, mkL_f, mkL_t, o_add, o_sub, c_lt, c_le, c_gt, c_ge, c_eqI, c_neI, b_int, b_intB, b_abs, b_max2, b_min2, b_gcd, b_lenT, b_lenL, b_lenS, b_tupT, b_tupL, b_lstT, b_lstL, b_isiT, b_isiI, b_isiB, revT, revL, ixT0, ixT1, ixT2, ixL0, ixL1, isI, q_vlT, q_vlL, q_vlS, q_enT, q_enL, q_zpTT, q_zpTL, q_zpLT, q_zpLL, forD_some, List.set_cons_zero, List.set_cons_succ, List.map_cons, List.map_nil, List.length_cons, List.length_nil, List.cons_append, List.nil_append, List.replicate_succ, List.replicate_zero, Nat.reduceAdd, Nat.reduceSub, Nat.reduceEqDiff, if_true, Option.bind_some, wipeD, hsrc, compD_some (show (ts.map tI).length ≤ LIM by rw [List.length_map, hts.num]; have := hts.t3; omega)]
        refine WP_call (comp_inv (P := fun acc S' => ∃ us, acc = us.map tI ∧ Ts us m t ∧ Fr n S S' ∧ Di n (N + 100) S')
          (fun i acc S' => ∃ us : List (List Int), acc = us.map tI ∧ us.length = i ∧ (∀ s, s ∈ us → SgL s) ∧ (∀ s, s ∈ us → s.length = m) ∧ Fr n S S' ∧ Di n (N + 1 + 6 * i) S') 0
          ⟨[], rfl, rfl, fun _ hx => (nomatch hx), fun _ hx => (nomatch hx), f02, d2⟩ ?_ ?_) ?_
        · rintro i acc S3 x ⟨us, rfl, hl, hs, hm, hf, hd⟩ hi _ hx
          refine ⟨dep_nil, ?_⟩
          have hi3 : i < 3 := by rw [List.length_map, hts.num] at hi; have := hts.t3; omega
          simp only [run_eq, ss_nil, ss_cons, s_nm, s_asg, s_par, par2, par3, s_aug, augD_add, augD_sub, s_augIx, augX_add, augX_sub, s_expr, s_ret, s_retN, s_pass, s_brk, s_cont, s_ite, s_for, s_while, seqF_nx, seqF_rt, seqF_bk, seqF_ct, fnD_rt, fnD_nx, g_nm, g_tp, g_ix, gs_nil, gs_cons, e_int, e_bl, e_non, e_str, e_var, getV_0, getV_s, e_gl, opt_some, e_bin, e_neg, negD_int, e_not, notD_bl, e_and, e_or, bE_app, bolD_bl, okM_app, e_cmp, e_chain, chE_app, e_ite, e_tup, e_lst, e_ix, e_rev, e_slA, e_slL, e_slH, e_slLH, sl1_L, sl1_H, sl2_LH, e_call, e_bi, e_mt, e_comp, es_nil, es_cons, ifD_bl, ifD_t, ifD_f, b_ok, b_assoc, fTurn_eq, turn_eq, inT_some, inC_some, soE_app, evT_nil, evT_one, t_nm, t_tp, ts_nil, ts_cons, mkL_f, mkL_t, o_add, o_sub, c_lt, c_le, c_gt, c_ge, c_eqI, c_neI, b_int, b_intB, b_abs, b_max2, b_min2, b_gcd, b_lenT, b_lenL, b_lenS, b_tupT, b_tupL, b_lstT, b_lstL, b_isiT, b_isiI, b_isiB, revT, revL, ixT0, ixT1, ixT2, ixL0, ixL1, isI, q_vlT, q_vlL, q_vlS, q_enT, q_enL, q_zpTT, q_zpTL, q_zpLT, q_zpLL, forD_some, List.set_cons_zero, List.set_cons_succ, List.map_cons, List.map_nil, List.length_cons, List.length_nil, List.cons_append, List.nil_append, List.replicate_succ, List.replicate_zero, Nat.reduceAdd, Nat.reduceSub, Nat.reduceEqDiff, if_true, Option.bind_some, wipeD]
          refine WP_call (ht S3 n _ m mi hmi.symm hd (by omega) (by omega)) ?_
          rintro d S4 ⟨l, rfl, g1, g2, g3, g4⟩
          simp only [run_eq, ss_nil, ss_cons, s_nm, s_asg, s_par, par2, par3, s_aug, augD_add, augD_sub, s_augIx, augX_add, augX_sub, s_expr, s_ret, s_retN, s_pass, s_brk, s_cont, s_ite, s_for, s_while, seqF_nx, seqF_rt, seqF_bk, seqF_ct, fnD_rt, fnD_nx, g_nm, g_tp, g_ix, gs_nil, gs_cons, e_int, e_bl, e_non, e_str, e_var, getV_0, getV_s, e_gl, opt_some, e_bin, e_neg, negD_int, e_not, notD_bl, e_and, e_or, bE_app, bolD_bl, okM_app, e_cmp, e_chain, chE_app, e_ite, e_tup, e_lst, e_ix, e_rev, e_slA, e_slL, e_slH, e_slLH, sl1_L, sl1_H, sl2_LH, e_call, e_bi, e_mt, e_comp, es_nil, es_cons, ifD_bl, ifD_t, ifD_f, b_ok, b_assoc, fTurn_eq, turn_eq, inT_some, inC_some, soE_app, evT_nil, evT_one, t_nm, t_tp, ts_nil, ts_cons, mkL_f, mkL_t, o_add, o_sub, c_lt, c_le, c_gt, c_ge, c_eqI, c_neI, b_int, b_intB, b_abs, b_max2, b_min2, b_gcd, b_lenT, b_lenL, b_lenS, b_tupT, b_tupL, b_lstT, b_lstL, b_isiT, b_isiI, b_isiB, revT, revL, ixT0, ixT1, ixT2, ixL0, ixL1, isI, q_vlT, q_vlL, q_vlS, q_enT, q_enL, q_zpTT, q_zpTL, q_zpLT, q_zpLL, forD_some, List.set_cons_zero, List.set_cons_succ, List.map_cons, List.map_nil, List.length_cons, List.length_nil, List.cons_append, List.nil_append, List.replicate_succ, List.replicate_zero, Nat.reduceAdd, Nat.reduceSub, Nat.reduceEqDiff, if_true, Option.bind_some, wipeD, WP_ok]
          refine ⟨us ++ [l], by simp, by simp [hl], fun s hs' => ?_, fun s hs' => ?_, hf.trans g3, g4.mono (by omega)⟩
          · rcases List.mem_append.mp hs' with z | z
            · exact hs s z
            · rw [List.mem_singleton.mp z]; exact g2
          · rcases List.mem_append.mp hs' with z | z
            · exact hm s z
            · rw [List.mem_singleton.mp z]; exact g1
        · rintro acc S3 ⟨us, rfl, hl, hs, hm, hf, hd⟩
          rw [List.length_map, hts.num] at hl hd
          have := hts.t3
          exact ⟨dep_nil, us, rfl, ⟨hs, hm, hts.m1, hts.m5, by omega, hts.t1, hts.t3⟩, hf, hd.mono (by omega)⟩
        · rintro ys S3 ⟨us, rfl, hus, hf, hd⟩
          simp only [run_eq, ss_nil, ss_cons, s_nm, s_asg, s_par, par2, par3, s_aug, augD_add, augD_sub, s_augIx, augX_add, augX_sub, s_expr, s_ret, s_retN, s_pass, s_brk, s_cont, s_ite, s_for, s_while, seqF_nx, seqF_rt, seqF_bk, seqF_ct, fnD_rt, fnD_nx, g_nm, g_tp, g_ix, gs_nil, gs_cons, e_int, e_bl, e_non, e_str, e_var, getV_0, getV_s, e_gl, opt_some, e_bin, e_neg, negD_int, e_not, notD_bl, e_and, e_or, bE_app, bolD_bl, okM_app, e_cmp, e_chain, chE_app, e_ite, e_tup, e_lst, e_ix, e_rev, e_slA, e_slL, e_slH, e_slLH, sl1_L, sl1_H, sl2_LH, e_call, e_bi, e_mt, e_comp, es_nil, es_cons, ifD_bl, ifD_t, ifD_f, b_ok, b_assoc, fTurn_eq, turn_eq, inT_some, inC_some, soE_app, evT_nil, evT_one, t_nm, t_tp, ts_nil, ts_cons, mkL_f, mkL_t, o_add, o_sub, c_lt, c_le, c_gt, c_ge, c_eqI, c_neI, b_int, b_intB, b_abs, b_max2, b_min2, b_gcd, b_lenT, b_lenL, b_lenS, b_tupT, b_tupL, b_lstT, b_lstL, b_isiT, b_isiI, b_isiB, revT, revL, ixT0, ixT1, ixT2, ixL0, ixL1, isI, q_vlT, q_vlL, q_vlS, q_enT, q_enL, q_zpTT, q_zpTL, q_zpLT, q_zpLL, forD_some, List.set_cons_zero, List.set_cons_succ, List.map_cons, List.map_nil, List.length_cons, List.length_nil, List.cons_append, List.nil_append, List.replicate_succ, List.replicate_zero, Nat.reduceAdd, Nat.reduceSub, Nat.reduceEqDiff, if_true, Option.bind_some, wipeD]
          refine WP_call (hc2 S3 us m hus.sg hus.len hus.m1 hus.pow) ?_
          rintro d S4 ⟨k', rfl, g1, g2, g3⟩
          simp only [run_eq, ss_nil, ss_cons, s_nm, s_asg, s_par, par2, par3, s_aug, augD_add, augD_sub, s_augIx, augX_add, augX_sub, s_expr, s_ret, s_retN, s_pass, s_brk, s_cont, s_ite, s_for, s_while, seqF_nx, seqF_rt, seqF_bk, seqF_ct, fnD_rt, fnD_nx, g_nm, g_tp, g_ix, gs_nil, gs_cons, e_int, e_bl, e_non, e_str, e_var, getV_0, getV_s, e_gl, opt_some, e_bin, e_neg, negD_int, e_not, notD_bl, e_and, e_or, bE_app, bolD_bl, okM_app, e_cmp, e_chain, chE_app, e_ite, e_tup, e_lst, e_ix, e_rev, e_slA, e_slL, e_slH, e_slLH, sl1_L, sl1_H, sl2_LH, e_call, e_bi, e_mt, e_comp, es_nil, es_cons, ifD_bl, ifD_t, ifD_f, b_ok, b_assoc, fTurn_eq, turn_eq, inT_some, inC_some, soE_app, evT_nil, evT_one, t_nm, t_tp, ts_nil, ts_cons, mkL_f, mkL_t, o_add, o_sub, c_lt, c_le, c_gt, c_ge, c_eqI, c_neI, b_int, b_intB, b_abs, b_max2, b_min2, b_gcd, b_lenT, b_lenL, b_lenS, b_tupT, b_tupL, b_lstT, b_lstL, b_isiT, b_isiI, b_isiB, revT, revL, ixT0, ixT1, ixT2, ixL0, ixL1, isI, q_vlT, q_vlL, q_vlS, q_enT, q_enL, q_zpTT, q_zpTL, q_zpLT, q_zpLL, forD_some, List.set_cons_zero, List.set_cons_succ, List.map_cons, List.map_nil, List.length_cons, List.length_nil, List.cons_append, List.nil_append, List.replicate_succ, List.replicate_zero, Nat.reduceAdd, Nat.reduceSub, Nat.reduceEqDiff, if_true, Option.bind_some, wipeD, WP_ok]
          exact ⟨k', cps us, _, _, _, _, by rw [h1], g1, by have := hf.1; omega, hus.cl, cps_sg hus.sg, hf.trans (al_fr g3), (al_di g3 hd).mono (by omega)⟩
      · simp only [run_eq, ss_nil, ss_cons, s_nm, s_asg, s_par, par2, par3, s_aug, augD_add, augD_sub, s_augIx, augX_add, augX_sub, s_expr, s_ret, s_retN, s_pass, s_brk, s_cont, s_ite, s_for, s_while, seqF_nx, seqF_rt, seqF_bk, seqF_ct, fnD_rt, fnD_nx, g_nm, g_tp, g_ix, gs_nil, gs_cons, e_int, e_bl, e_non, e_str, e_var, getV_0, getV_s, e_gl, opt_some, e_bin, e_neg, negD_int, e_not, notD_bl, e_and, e_or, bE_app, bolD_bl, okM_app, e_cmp, e_chain, chE_app, e_ite, e_tup, e_lst, e_ix, e_rev, e_slA, e_slL, e_slH, e_slLH, sl1_L, sl1_H, sl2_LH, e_call, e_bi, e_mt, e_comp, es_nil, es_cons, ifD_bl, ifD_t, ifD_f, b_ok, b_assoc, fTurn_eq, turn_eq, inT_some, inC_some, soE_app, evT_nil, evT_one, t_nm, t_tp, ts_nil, ts_cons, mkL_f, mkL_t, o_add, o_sub, c_lt, c_le, c_gt, c_ge, c_eqI, c_neI, b_int, b_intB, b_abs, b_max2, b_min2, b_gcd, b_lenT, b_lenL, b_lenS, b_tupT, b_tupL, b_lstT, b_lstL, b_isiT, b_isiI, b_isiB, revT, revL, ixT0, ixT1, ixT2, ixL0, ixL1, isI, q_vlT, q_vlL, q_vlS, q_enT, q_enL, q_zpTT, q_zpTL, q_zpLT, q_zpLL, forD_some, List.set_cons_zero, List.set_cons_succ, List.map_cons, List.map_nil, List.length_cons, List.length_nil, List.cons_append, List.nil_append, List.replicate_succ, List.replicate_zero, Nat.reduceAdd, Nat.reduceSub, Nat.reduceEqDiff, if_true, Option.bind_some, wipeD, h1, decide_false, Bool.false_eq_true, if_false]
        by_cases h2 : way = 2
        · simp only [run_eq, ss_nil, ss_cons, s_nm, s_asg, s_par, par2, par3, s_aug, augD_add, augD_sub, s_augIx, augX_add, augX_sub, s_expr, s_ret, s_retN, s_pass, s_brk, s_cont, s_ite, s_for, s_while, seqF_nx, seqF_rt, seqF_bk, seqF_ct, fnD_rt, fnD_nx, g_nm, g_tp, g_ix, gs_nil, gs_cons, e_int, e_bl, e_non, e_str, e_var, getV_0, getV_s, e_gl, opt_some, e_bin, e_neg, negD_int, e_not, notD_bl, e_and, e_or, bE_app, bolD_bl, okM_app, e_cmp, e_chain, chE_app, e_ite, e_tup, e_lst, e_ix, e_rev, e_slA, e_slL, e_slH, e_slLH, sl1_L, sl1_H, sl2_LH, e_call, e_bi, e_mt, e_comp, es_nil, es_cons, ifD_bl, ifD_t, ifD_f, b_ok, b_assoc, fTurn_eq, turn_eq, inT_some, inC_some, soE_app, evT_nil, evT_one, t_nm, t_tp, ts_nil, ts_cons, mkL_f, mkL_t, o_add, o_sub, c_lt, c_le, c_gt, c_ge, c_eqI, c_neI, b_int, b_intB, b_abs, b_max2, b_min2, b_gcd, b_lenT, b_lenL, b_lenS, b_tupT, b_tupL, b_lstT, b_lstL, b_isiT, b_isiI, b_isiB, revT, revL, ixT0, ixT1, ixT2, ixL0, ixL1, isI, q_vlT, q_vlL, q_vlS, q_enT, q_enL, q_zpTT, q_zpTL, q_zpLT, q_zpLL, forD_some, List.set_cons_zero, List.set_cons_succ, List.map_cons, List.map_nil, List.length_cons, List.length_nil, List.cons_append, List.nil_append, List.replicate_succ, List.replicate_zero, Nat.reduceAdd, Nat.reduceSub, Nat.reduceEqDiff, if_true, Option.bind_some, wipeD, h2, decide_true]
          refine WP_call (ht S2 n _ m mi hmi.symm d2 (by omega) (by omega)) ?_
          rintro d S3 ⟨l, rfl, g1, g2, g3, g4⟩
          have hk3 : S3[k]? = some (.lst ((cps ts).map .int)) := by rw [g3.2 k (by have := f2.1; omega) hkn]; exact hk2
          have hlen3 : ∀ mm, doBi .len mm [.ref k] S3 = .ok (.int Li) S3 := fun mm => by rw [b_lenR hk3, List.length_map, hcl, hLi]
          simp only [run_eq, ss_nil, ss_cons, s_nm, s_asg, s_par, par2, par3, s_aug, augD_add, augD_sub, s_augIx, augX_add, augX_sub, s_expr, s_ret, s_retN, s_pass, s_brk, s_cont, s_ite, s_for, s_while, seqF_nx, seqF_rt, seqF_bk, seqF_ct, fnD_rt, fnD_nx, g_nm, g_tp, g_ix, gs_nil, gs_cons, e_int, e_bl, e_non, e_str, e_var, getV_0, getV_s, e_gl, opt_some, e_bin, e_neg, negD_int, e_not, notD_bl, e_and, e_or, bE_app, bolD_bl, okM_app, e_cmp, e_chain, chE_app, e_ite, e_tup, e_lst, e_ix, e_rev, e_slA, e_slL, e_slH, e_slLH, sl1_L, sl1_H, sl2_LH, e_call, e_bi, e_mt, e_comp, es_nil, es_cons, ifD_bl, ifD_t, ifD_f, b_ok, b_assoc, fTurn_eq, turn_eq, inT_some, inC_some, soE_app, evT_nil, evT_one, t_nm, t_tp, ts_nil, ts_cons, mkL_f, mkL_t, o_add, o_sub, c_lt, c_le, c_gt, c_ge, c_eqI, c_neI, b_int, b_intB, b_abs, b_max2, b_min2, b_gcd, b_lenT, b_lenL, b_lenS, b_tupT, b_tupL, b_lstT, b_lstL, b_isiT, b_isiI, b_isiB, revT, revL, ixT0, ixT1, ixT2, ixL0, ixL1, isI, q_vlT, q_vlL, q_vlS, q_enT, q_enL, q_zpTT, q_zpTL, q_zpLT, q_zpLL, forD_some, List.set_cons_zero, List.set_cons_succ, List.map_cons, List.map_nil, List.length_cons, List.length_nil, List.cons_append, List.nil_append, List.replicate_succ, List.replicate_zero, Nat.reduceAdd, Nat.reduceSub, Nat.reduceEqDiff, if_true, Option.bind_some, wipeD, hlen3, hq, compD_some (show (natsD (m ^ t)).length ≤ LIM by rw [natsD_len]; omega)]
          rw [comp_nat (fun j => .int ((l.getD (j % m) 0) * (1 - 2 * ((j / m % 2 : Nat) : Int)))) dep_nil fun j hj => by
            generalize hji : (j : Int) = ji
            have hmod : ji % mi = ((j % m : Nat) : Int) := by rw [← hji, ← hmi]; simp
            have hdv : ji / mi % 2 = ((j / m % 2 : Nat) : Int) := by rw [← hji, ← hmi]; simp
            have hjm : j % m < l.length := by rw [g1]; exact Nat.mod_lt _ hts.m1
            have hix : ∀ S, doIx (tI l) (.int (ji % mi)) S = .ok (.int (l.getD (j % m) 0)) S := fun S => by
              refine ixT' hmod ?_
              rw [List.getElem?_map, List.getD_eq_getElem?_getD, List.getElem?_eq_getElem hjm]; rfl
            have hsm : (l.getD (j % m) 0).natAbs < 2 ^ 1000 := by
              rw [List.getD_eq_getElem?_getD, List.getElem?_eq_getElem hjm]
              exact sg_small g2 (List.getElem_mem hjm)
            have h2m : 0 ≤ ji / mi % 2 ∧ ji / mi % 2 < 2 := ⟨Int.emod_nonneg _ (by decide), Int.emod_lt_of_pos _ (by decide)⟩
            simp only [run_eq, ss_nil, ss_cons, s_nm, s_asg, s_par, par2, par3, s_aug, augD_add, augD_sub, s_augIx, augX_add, augX_sub, s_expr, s_ret, s_retN, s_pass, s_brk, s_cont, s_ite, s_for, s_while, seqF_nx, seqF_rt, seqF_bk, seqF_ct, fnD_rt, fnD_nx, g_nm, g_tp, g_ix, gs_nil, gs_cons, e_int, e_bl, e_non, e_str, e_var, getV_0, getV_s, e_gl, opt_some, e_bin, e_neg, negD_int, e_not, notD_bl, e_and, e_or, bE_app, bolD_bl, okM_app, e_cmp, e_chain, chE_app, e_ite, e_tup, e_lst, e_ix, e_rev, e_slA, e_slL, e_slH, e_slLH, sl1_L, sl1_H, sl2_LH, e_call, e_bi, e_mt, e_comp, es_nil, es_cons, ifD_bl, ifD_t, ifD_f, b_ok, b_assoc, fTurn_eq, turn_eq, inT_some, inC_some, soE_app, evT_nil, evT_one, t_nm, t_tp, ts_nil, ts_cons, mkL_f, mkL_t, o_add, o_sub, c_lt, c_le, c_gt, c_ge, c_eqI, c_neI, b_int, b_intB, b_abs, b_max2, b_min2, b_gcd, b_lenT, b_lenL, b_lenS, b_tupT, b_tupL, b_lstT, b_lstL, b_isiT, b_isiI, b_isiB, revT, revL, ixT0, ixT1, ixT2, ixL0, ixL1, isI, q_vlT, q_vlL, q_vlS, q_enT, q_enL, q_zpTT, q_zpTL, q_zpLT, q_zpLL, forD_some, List.set_cons_zero, List.set_cons_succ, List.map_cons, List.map_nil, List.length_cons, List.length_nil, List.cons_append, List.nil_append, List.replicate_succ, List.replicate_zero, Nat.reduceAdd, Nat.reduceSub, Nat.reduceEqDiff, if_true, Option.bind_some, wipeD, o_mod hmp, hix, o_fdiv hdm hmp, o_mod (show (0 : Int) < 2 by decide)]
            rw [← hdv]
            generalize ji / mi % 2 = z at h2m
            simp only [run_eq, ss_nil, ss_cons, s_nm, s_asg, s_par, par2, par3, s_aug, augD_add, augD_sub, s_augIx, augX_add, augX_sub, s_expr, s_ret, s_retN, s_pass, s_brk, s_cont, s_ite, s_for, s_while, seqF_nx, seqF_rt, seqF_bk, seqF_ct, fnD_rt, fnD_nx, g_nm, g_tp, g_ix, gs_nil, gs_cons, e_int, e_bl, e_non, e_str, e_var, getV_0, getV_s, e_gl, opt_some, e_bin, e_neg, negD_int, e_not, notD_bl, e_and, e_or, bE_app, bolD_bl, okM_app, e_cmp, e_chain, chE_app, e_ite, e_tup, e_lst, e_ix, e_rev, e_slA, e_slL, e_slH, e_slLH, sl1_L, sl1_H, sl2_LH, e_call, e_bi, e_mt, e_comp, es_nil, es_cons, ifD_bl, ifD_t, ifD_f, b_ok, b_assoc, fTurn_eq, turn_eq, inT_some, inC_some, soE_app, evT_nil, evT_one, t_nm, t_tp, ts_nil, ts_cons, mkL_f, mkL_t, o_add, o_sub, c_lt, c_le, c_gt, c_ge, c_eqI, c_neI, b_int, b_intB, b_abs, b_max2, b_min2, b_gcd, b_lenT, b_lenL, b_lenS, b_tupT, b_tupL, b_lstT, b_lstL, b_isiT, b_isiI, b_isiB, revT, revL, ixT0, ixT1, ixT2, ixL0, ixL1, isI, q_vlT, q_vlL, q_vlS, q_enT, q_enL, q_zpTT, q_zpTL, q_zpLT, q_zpLL, forD_some, List.set_cons_zero, List.set_cons_succ, List.map_cons, List.map_nil, List.length_cons, List.length_nil, List.cons_append, List.nil_append, List.replicate_succ, List.replicate_zero, Nat.reduceAdd, Nat.reduceSub, Nat.reduceEqDiff, if_true, Option.bind_some, wipeD, o_mul (mulOk (a := 2) (b := z) (by decide +kernel) (by omega)), o_mul (mulOk (b := 1 - 2 * z) hsm (by omega))]]
          simp only [run_eq, ss_nil, ss_cons, s_nm, s_asg, s_par, par2, par3, s_aug, augD_add, augD_sub, s_augIx, augX_add, augX_sub, s_expr, s_ret, s_retN, s_pass, s_brk, s_cont, s_ite, s_for, s_while, seqF_nx, seqF_rt, seqF_bk, seqF_ct, fnD_rt, fnD_nx, g_nm, g_tp, g_ix, gs_nil, gs_cons, e_int, e_bl, e_non, e_str, e_var, getV_0, getV_s, e_gl, opt_some, e_bin, e_neg, negD_int, e_not, notD_bl, e_and, e_or, bE_app, bolD_bl, okM_app, e_cmp, e_chain, chE_app, e_ite, e_tup, e_lst, e_ix, e_rev, e_slA, e_slL, e_slH, e_slLH, sl1_L, sl1_H, sl2_LH, e_call, e_bi, e_mt, e_comp, es_nil, es_cons, ifD_bl, ifD_t, ifD_f, b_ok, b_assoc, fTurn_eq, turn_eq, inT_some, inC_some, soE_app, evT_nil, evT_one, t_nm, t_tp, ts_nil, ts_cons, mkL_f, mkL_t, o_add, o_sub, c_lt, c_le, c_gt, c_ge, c_eqI, c_neI, b_int, b_intB, b_abs, b_max2, b_min2, b_gcd, b_lenT, b_lenL, b_lenS, b_tupT, b_tupL, b_lstT, b_lstL, b_isiT, b_isiI, b_isiB, revT, revL, ixT0, ixT1, ixT2, ixL0, ixL1, isI, q_vlT, q_vlL, q_vlS, q_enT, q_enL, q_zpTT, q_zpTL, q_zpLT, q_zpLL, forD_some, List.set_cons_zero, List.set_cons_succ, List.map_cons, List.map_nil, List.length_cons, List.length_nil, List.cons_append, List.nil_append, List.replicate_succ, List.replicate_zero, Nat.reduceAdd, Nat.reduceSub, Nat.reduceEqDiff, if_true, Option.bind_some, wipeD, WP_ok]
          refine ⟨S3.length, (List.range (m ^ t)).map fun j => (l.getD (j % m) 0) * (1 - 2 * ((j / m % 2 : Nat) : Int)), _, _, _, _, by rw [h2], ?_, by have := (f02.trans g3).1; omega, by simp, fun x hx => ?_, (f02.trans g3).trans (al_fr Al.one), (al_di Al.one g4).mono (by omega)⟩
          · rw [get_new, List.map_map]; rfl
          · obtain ⟨j, hj, rfl⟩ := List.mem_map.mp hx
            have hjm : j % m < l.length := by rw [g1]; exact Nat.mod_lt _ hts.m1
            have e1 : l.getD (j % m) 0 = l[j % m] := by rw [List.getD_eq_getElem?_getD, List.getElem?_eq_getElem hjm]; rfl
            rw [e1]
            have h1 := g2 l[j % m] (List.getElem_mem hjm)
            have h2' : j / m % 2 = 0 ∨ j / m % 2 = 1 := by omega
            rcases h1 with h1 | h1 <;> rcases h2' with h2' | h2' <;> rw [h1, h2'] <;> decide
        · simp only [run_eq, ss_nil, ss_cons, s_nm, s_asg, s_par, par2, par3, s_aug, augD_add, augD_sub, s_augIx, augX_add, augX_sub, s_expr, s_ret, s_retN, s_pass, s_brk, s_cont, s_ite, s_for, s_while, seqF_nx, seqF_rt, seqF_bk, seqF_ct, fnD_rt, fnD_nx, g_nm, g_tp, g_ix, gs_nil, gs_cons, e_int, e_bl, e_non, e_str, e_var, getV_0, getV_s, e_gl, opt_some, e_bin, e_neg, negD_int, e_not, notD_bl, e_and, e_or, bE_app, bolD_bl, okM_app, e_cmp, e_chain, chE_app, e_ite, e_tup, e_lst, e_ix, e_rev, e_slA, e_slL, e_slH, e_slLH, sl1_L, sl1_H, sl2_LH, e_call, e_bi, e_mt, e_comp, es_nil, es_cons, ifD_bl, ifD_t, ifD_f, b_ok, b_assoc, fTurn_eq, turn_eq, inT_some, inC_some, soE_app, evT_nil, evT_one, t_nm, t_tp, ts_nil, ts_cons, mkL_f, mkL_t, o_add, o_sub, c_lt, c_le, c_gt, c_ge, c_eqI, c_neI, b_int, b_intB, b_abs, b_max2, b_min2, b_gcd, b_lenT, b_lenL, b_lenS, b_tupT, b_tupL, b_lstT, b_lstL, b_isiT, b_isiI, b_isiB, revT, revL, ixT0, ixT1, ixT2, ixL0, ixL1, isI, q_vlT, q_vlL, q_vlS, q_enT, q_enL, q_zpTT, q_zpTL, q_zpLT, q_zpLL, forD_some, List.set_cons_zero, List.set_cons_succ, List.map_cons, List.map_nil, List.length_cons, List.length_nil, List.cons_append, List.nil_append, List.replicate_succ, List.replicate_zero, Nat.reduceAdd, Nat.reduceSub, Nat.reduceEqDiff, if_true, Option.bind_some, wipeD, h2, decide_false, Bool.false_eq_true, if_false, hlen, hq, compD_some (show (natsD (m ^ t)).length ≤ LIM by rw [natsD_len]; omega)]
          refine WP_call (comp_draw (R := fun x => x = 1 ∨ x = -1) d2 (by omega) fun i S' M hi hd hM => ?_) ?_
          · simp only [run_eq, ss_nil, ss_cons, s_nm, s_asg, s_par, par2, par3, s_aug, augD_add, augD_sub, s_augIx, augX_add, augX_sub, s_expr, s_ret, s_retN, s_pass, s_brk, s_cont, s_ite, s_for, s_while, seqF_nx, seqF_rt, seqF_bk, seqF_ct, fnD_rt, fnD_nx, g_nm, g_tp, g_ix, gs_nil, gs_cons, e_int, e_bl, e_non, e_str, e_var, getV_0, getV_s, e_gl, opt_some, e_bin, e_neg, negD_int, e_not, notD_bl, e_and, e_or, bE_app, bolD_bl, okM_app, e_cmp, e_chain, chE_app, e_ite, e_tup, e_lst, e_ix, e_rev, e_slA, e_slL, e_slH, e_slLH, sl1_L, sl1_H, sl2_LH, e_call, e_bi, e_mt, e_comp, es_nil, es_cons, ifD_bl, ifD_t, ifD_f, b_ok, b_assoc, fTurn_eq, turn_eq, inT_some, inC_some, soE_app, evT_nil, evT_one, t_nm, t_tp, ts_nil, ts_cons, mkL_f, mkL_t, o_add, o_sub, c_lt, c_le, c_gt, c_ge, c_eqI, c_neI, b_int, b_intB, b_abs, b_max2, b_min2, b_gcd, b_lenT, b_lenL, b_lenS, b_tupT, b_tupL, b_lstT, b_lstL, b_isiT, b_isiI, b_isiB, revT, revL, ixT0, ixT1, ixT2, ixL0, ixL1, isI, q_vlT, q_vlL, q_vlS, q_enT, q_enL, q_zpTT, q_zpTL, q_zpLT, q_zpLL, forD_some, List.set_cons_zero, List.set_cons_succ, List.map_cons, List.map_nil, List.length_cons, List.length_nil, List.cons_append, List.nil_append, List.replicate_succ, List.replicate_zero, Nat.reduceAdd, Nat.reduceSub, Nat.reduceEqDiff, if_true, Option.bind_some, wipeD]
            refine WP_call (hu S' n M _ hd (by decide) (by decide) hM) ?_
            rintro d S5 ⟨r, rfl, g1, g2, g3, g4⟩
            simp only [run_eq, ss_nil, ss_cons, s_nm, s_asg, s_par, par2, par3, s_aug, augD_add, augD_sub, s_augIx, augX_add, augX_sub, s_expr, s_ret, s_retN, s_pass, s_brk, s_cont, s_ite, s_for, s_while, seqF_nx, seqF_rt, seqF_bk, seqF_ct, fnD_rt, fnD_nx, g_nm, g_tp, g_ix, gs_nil, gs_cons, e_int, e_bl, e_non, e_str, e_var, getV_0, getV_s, e_gl, opt_some, e_bin, e_neg, negD_int, e_not, notD_bl, e_and, e_or, bE_app, bolD_bl, okM_app, e_cmp, e_chain, chE_app, e_ite, e_tup, e_lst, e_ix, e_rev, e_slA, e_slL, e_slH, e_slLH, sl1_L, sl1_H, sl2_LH, e_call, e_bi, e_mt, e_comp, es_nil, es_cons, ifD_bl, ifD_t, ifD_f, b_ok, b_assoc, fTurn_eq, turn_eq, inT_some, inC_some, soE_app, evT_nil, evT_one, t_nm, t_tp, ts_nil, ts_cons, mkL_f, mkL_t, o_add, o_sub, c_lt, c_le, c_gt, c_ge, c_eqI, c_neI, b_int, b_intB, b_abs, b_max2, b_min2, b_gcd, b_lenT, b_lenL, b_lenS, b_tupT, b_tupL, b_lstT, b_lstL, b_isiT, b_isiI, b_isiB, revT, revL, ixT0, ixT1, ixT2, ixL0, ixL1, isI, q_vlT, q_vlL, q_vlS, q_enT, q_enL, q_zpTT, q_zpTL, q_zpLT, q_zpLL, forD_some, List.set_cons_zero, List.set_cons_succ, List.map_cons, List.map_nil, List.length_cons, List.length_nil, List.cons_append, List.nil_append, List.replicate_succ, List.replicate_zero, Nat.reduceAdd, Nat.reduceSub, Nat.reduceEqDiff, if_true, Option.bind_some, wipeD, o_mul (mulOk (a := 2) (b := r) (by decide +kernel) (by omega)), WP_ok]
            exact ⟨1 - 2 * r, rfl, by omega, g3, g4⟩
          · rintro ys S4 ⟨l, rfl, g1, g2, g3, g4⟩
            simp only [run_eq, ss_nil, ss_cons, s_nm, s_asg, s_par, par2, par3, s_aug, augD_add, augD_sub, s_augIx, augX_add, augX_sub, s_expr, s_ret, s_retN, s_pass, s_brk, s_cont, s_ite, s_for, s_while, seqF_nx, seqF_rt, seqF_bk, seqF_ct, fnD_rt, fnD_nx, g_nm, g_tp, g_ix, gs_nil, gs_cons, e_int, e_bl, e_non, e_str, e_var, getV_0, getV_s, e_gl, opt_some, e_bin, e_neg, negD_int, e_not, notD_bl, e_and, e_or, bE_app, bolD_bl, okM_app, e_cmp, e_chain, chE_app, e_ite, e_tup, e_lst, e_ix, e_rev, e_slA, e_slL, e_slH, e_slLH, sl1_L, sl1_H, sl2_LH, e_call, e_bi, e_mt, e_comp, es_nil, es_cons, ifD_bl, ifD_t, ifD_f, b_ok, b_assoc, fTurn_eq, turn_eq, inT_some, inC_some, soE_app, evT_nil, evT_one, t_nm, t_tp, ts_nil, ts_cons, mkL_f, mkL_t, o_add, o_sub, c_lt, c_le, c_gt, c_ge, c_eqI, c_neI, b_int, b_intB, b_abs, b_max2, b_min2, b_gcd, b_lenT, b_lenL, b_lenS, b_tupT, b_tupL, b_lstT, b_lstL, b_isiT, b_isiI, b_isiB, revT, revL, ixT0, ixT1, ixT2, ixL0, ixL1, isI, q_vlT, q_vlL, q_vlS, q_enT, q_enL, q_zpTT, q_zpTL, q_zpLT, q_zpLL, forD_some, List.set_cons_zero, List.set_cons_succ, List.map_cons, List.map_nil, List.length_cons, List.length_nil, List.cons_append, List.nil_append, List.replicate_succ, List.replicate_zero, Nat.reduceAdd, Nat.reduceSub, Nat.reduceEqDiff, if_true, Option.bind_some, wipeD, WP_ok]
            exact ⟨S4.length, l, _, _, _, _, rfl, get_new, by have := (f02.trans g3).1; omega, g1, g2, (f02.trans g3).trans (al_fr Al.one), (al_di Al.one g4).mono (by omega)⟩
  · rintro f S3 ⟨k', l, e6, e7, e8, e9, rfl, hk', hge, hl, hs, hf, hd⟩
    simp only [run_eq, ss_nil, ss_cons, s_nm, s_asg, s_par, par2, par3, s_aug, augD_add, augD_sub, s_augIx, augX_add, augX_sub, s_expr, s_ret, s_retN, s_pass, s_brk, s_cont, s_ite, s_for, s_while, seqF_nx, seqF_rt, seqF_bk, seqF_ct, fnD_rt, fnD_nx, g_nm, g_tp, g_ix, gs_nil, gs_cons, e_int, e_bl, e_non, e_str, e_var, getV_0, getV_s, e_gl, opt_some, e_bin, e_neg, negD_int, e_not, notD_bl, e_and, e_or, bE_app, bolD_bl, okM_app, e_cmp, e_chain, chE_app, e_ite, e_tup, e_lst, e_ix, e_rev, e_slA, e_slL, e_slH, e_slLH, sl1_L, sl1_H, sl2_LH, e_call, e_bi, e_mt, e_comp, es_nil, es_cons, ifD_bl, ifD_t, ifD_f, b_ok, b_assoc, fTurn_eq, turn_eq, inT_some, inC_some, soE_app, evT_nil, evT_one, t_nm, t_tp, ts_nil, ts_cons, mkL_f, mkL_t, o_add, o_sub, c_lt, c_le, c_gt, c_ge, c_eqI, c_neI, b_int, b_intB, b_abs, b_max2, b_min2, b_gcd, b_lenT, b_lenL, b_lenS, b_tupT, b_tupL, b_lstT, b_lstL, b_isiT, b_isiI, b_isiB, revT, revL, ixT0, ixT1, ixT2, ixL0, ixL1, isI, q_vlT, q_vlL, q_vlS, q_enT, q_enL, q_zpTT, q_zpTL, q_zpLT, q_zpLL, forD_some, List.set_cons_zero, List.set_cons_succ, List.map_cons, List.map_nil, List.length_cons, List.length_nil, List.cons_append, List.nil_append, List.replicate_succ, List.replicate_zero, Nat.reduceAdd, Nat.reduceSub, Nat.reduceEqDiff, if_true, Option.bind_some, wipeD]
    refine WP_call (hu S3 n _ _ hd (by decide) (by decide) (by omega)) ?_
    rintro d S4 ⟨r, rfl, r1, r2, f4, d4⟩
    have hkn' : k' ≠ n := by have := h.lt; omega
    have hk4 : S4[k']? = some (.lst (l.map .int)) := by rw [f4.2 k' (List.getElem?_eq_some_iff.mp hk').1 hkn']; exact hk'
    have hr : r = ((r.toNat : Nat) : Int) := by omega
    simp only [run_eq, ss_nil, ss_cons, s_nm, s_asg, s_par, par2, par3, s_aug, augD_add, augD_sub, s_augIx, augX_add, augX_sub, s_expr, s_ret, s_retN, s_pass, s_brk, s_cont, s_ite, s_for, s_while, seqF_nx, seqF_rt, seqF_bk, seqF_ct, fnD_rt, fnD_nx, g_nm, g_tp, g_ix, gs_nil, gs_cons, e_int, e_bl, e_non, e_str, e_var, getV_0, getV_s, e_gl, opt_some, e_bin, e_neg, negD_int, e_not, notD_bl, e_and, e_or, bE_app, bolD_bl, okM_app, e_cmp, e_chain, chE_app, e_ite, e_tup, e_lst, e_ix, e_rev, e_slA, e_slL, e_slH, e_slLH, sl1_L, sl1_H, sl2_LH, e_call, e_bi, e_mt, e_comp, es_nil, es_cons, ifD_bl, ifD_t, ifD_f, b_ok, b_assoc, fTurn_eq, turn_eq, inT_some, inC_some, soE_app, evT_nil, evT_one, t_nm, t_tp, ts_nil, ts_cons, mkL_f, mkL_t, o_add, o_sub, c_lt, c_le, c_gt, c_ge, c_eqI, c_neI, b_int, b_intB, b_abs, b_max2, b_min2, b_gcd, b_lenT, b_lenL, b_lenS, b_tupT, b_tupL, b_lstT, b_lstL, b_isiT, b_isiI, b_isiB, revT, revL, ixT0, ixT1, ixT2, ixL0, ixL1, isI, q_vlT, q_vlL, q_vlS, q_enT, q_enL, q_zpTT, q_zpTL, q_zpLT, q_zpLL, forD_some, List.set_cons_zero, List.set_cons_succ, List.map_cons, List.map_nil, List.length_cons, List.length_nil, List.cons_append, List.nil_append, List.replicate_succ, List.replicate_zero, Nat.reduceAdd, Nat.reduceSub, Nat.reduceEqDiff, if_true, Option.bind_some, wipeD, q_rg1' hr (show r.toNat ≤ LIM by omega)]
    refine WP_call (for_inv (P := fun f S' => ∃ l e6 e7 e8 e9, f = Fl.nx [some (.ref n), some (tsD ts), some (.ref k), some (.int mi), some (.int way), some (.ref k'), e6, e7, e8, e9] ∧ S'[k']? = some (.lst (l.map .int)) ∧ l.length = m ^ t ∧ SgL l ∧ Fr n S S' ∧ Di n (N + 500) S')
      (fun i env S' => ∃ l e6 e7 e8 e9, env = [some (.ref n), some (tsD ts), some (.ref k), some (.int mi), some (.int way), some (.ref k'), e6, e7, e8, e9] ∧ S'[k']? = some (.lst (l.map .int)) ∧ l.length = m ^ t ∧ SgL l ∧ Fr n S S' ∧ Di n (N + 201 + i) S') 0
      ⟨l, _, _, _, _, rfl, hk4, hl, hs, hf.trans f4, d4⟩ ?_ ?_) ?_
    · rintro i env S5 x ⟨l, e6, e7, e8, e9, rfl, hk5, hl, hs, hf5, hd5⟩ hi _ hx
      obtain ⟨rfl, hi2⟩ := natsD_get hx
      refine ⟨dep_nil, ?_⟩
      have hlen5 : ∀ mm, doBi .len mm [.ref k'] S5 = .ok (.int ((l.map D.int).length : Int)) S5 := fun mm => b_lenR hk5
      generalize hlL : (((l.map D.int).length : Nat) : Int) = lL at hlen5
      rw [List.length_map, hl] at hlL
      simp only [run_eq, ss_nil, ss_cons, s_nm, s_asg, s_par, par2, par3, s_aug, augD_add, augD_sub, s_augIx, augX_add, augX_sub, s_expr, s_ret, s_retN, s_pass, s_brk, s_cont, s_ite, s_for, s_while, seqF_nx, seqF_rt, seqF_bk, seqF_ct, fnD_rt, fnD_nx, g_nm, g_tp, g_ix, gs_nil, gs_cons, e_int, e_bl, e_non, e_str, e_var, getV_0, getV_s, e_gl, opt_some, e_bin, e_neg, negD_int, e_not, notD_bl, e_and, e_or, bE_app, bolD_bl, okM_app, e_cmp, e_chain, chE_app, e_ite, e_tup, e_lst, e_ix, e_rev, e_slA, e_slL, e_slH, e_slLH, sl1_L, sl1_H, sl2_LH, e_call, e_bi, e_mt, e_comp, es_nil, es_cons, ifD_bl, ifD_t, ifD_f, b_ok, b_assoc, fTurn_eq, turn_eq, inT_some, inC_some, soE_app, evT_nil, evT_one, t_nm, t_tp, ts_nil, ts_cons, mkL_f, mkL_t, o_add, o_sub, c_lt, c_le, c_gt, c_ge, c_eqI, c_neI, b_int, b_intB, b_abs, b_max2, b_min2, b_gcd, b_lenT, b_lenL, b_lenS, b_tupT, b_tupL, b_lstT, b_lstL, b_isiT, b_isiI, b_isiB, revT, revL, ixT0, ixT1, ixT2, ixL0, ixL1, isI, q_vlT, q_vlL, q_vlS, q_enT, q_enL, q_zpTT, q_zpTL, q_zpLT, q_zpLL, forD_some, List.set_cons_zero, List.set_cons_succ, List.map_cons, List.map_nil, List.length_cons, List.length_nil, List.cons_append, List.nil_append, List.replicate_succ, List.replicate_zero, Nat.reduceAdd, Nat.reduceSub, Nat.reduceEqDiff, if_true, Option.bind_some, wipeD, hlen5]
      refine WP_call (hu S5 n _ _ hd5 (by omega) (by omega) (by omega)) ?_
      rintro d S6 ⟨q, rfl, q1, q2, f6, d6⟩
      have hk6 : S6[k']? = some (.lst (l.map .int)) := by rw [f6.2 k' (List.getElem?_eq_some_iff.mp hk5).1 hkn']; exact hk5
      have hq' : q = ((q.toNat : Nat) : Int) := by omega
      have hql : q.toNat < l.length := by omega
      have hix : doIx (.ref k') (.int q) S6 = .ok (.int l[q.toNat]) S6 := ixR' hq' hk6 (by rw [List.getElem?_map, List.getElem?_eq_getElem hql]; rfl)
      have hset : ∀ d, setIx (.ref k') (.int q) d S6 = .ok () (S6.set k' (.lst ((l.map D.int).set q.toNat d))) := fun d => setR' hq' hk6 (by simpa using hql)
      simp only [run_eq, ss_nil, ss_cons, s_nm, s_asg, s_par, par2, par3, s_aug, augD_add, augD_sub, s_augIx, augX_add, augX_sub, s_expr, s_ret, s_retN, s_pass, s_brk, s_cont, s_ite, s_for, s_while, seqF_nx, seqF_rt, seqF_bk, seqF_ct, fnD_rt, fnD_nx, g_nm, g_tp, g_ix, gs_nil, gs_cons, e_int, e_bl, e_non, e_str, e_var, getV_0, getV_s, e_gl, opt_some, e_bin, e_neg, negD_int, e_not, notD_bl, e_and, e_or, bE_app, bolD_bl, okM_app, e_cmp, e_chain, chE_app, e_ite, e_tup, e_lst, e_ix, e_rev, e_slA, e_slL, e_slH, e_slLH, sl1_L, sl1_H, sl2_LH, e_call, e_bi, e_mt, e_comp, es_nil, es_cons, ifD_bl, ifD_t, ifD_f, b_ok, b_assoc, fTurn_eq, turn_eq, inT_some, inC_some, soE_app, evT_nil, evT_one, t_nm, t_tp, ts_nil, ts_cons, mkL_f, mkL_t, o_add, o_sub, c_lt, c_le, c_gt, c_ge, c_eqI, c_neI, b_int, b_intB, b_abs, b_max2, b_min2, b_gcd, b_lenT, b_lenL, b_lenS, b_tupT, b_tupL, b_lstT, b_lstL, b_isiT, b_isiI, b_isiB, revT, revL, ixT0, ixT1, ixT2, ixL0, ixL1, isI, q_vlT, q_vlL, q_vlS, q_enT, q_enL, q_zpTT, q_zpTL, q_zpLT, q_zpLL, forD_some, List.set_cons_zero, List.set_cons_succ, List.map_cons, List.map_nil, List.length_cons, List.length_nil, List.cons_append, List.nil_append, List.replicate_succ, List.replicate_zero, Nat.reduceAdd, Nat.reduceSub, Nat.reduceEqDiff, if_true, Option.bind_some, wipeD, hix, hset, WP_ok]
      refine ⟨l.set q.toNat (0 - l[q.toNat]), _, _, _, _, rfl, ?_, by simp [hl], fun x hx => ?_, fr_set (hf5.trans f6) (by omega), (di_set d6 hkn').mono (by omega)⟩
      · rw [List.getElem?_set_self (List.getElem?_eq_some_iff.mp hk6).1, List.map_set]
      · rcases List.mem_or_eq_of_mem_set hx with z | z
        · exact hs x z
        · have := hs l[q.toNat] (List.getElem_mem hql)
          omega
    · rintro env S5 ⟨l, e6, e7, e8, e9, rfl, hk5, hl, hs, hf5, hd5⟩
      rw [natsD_len] at hd5
      exact ⟨dep_nil, l, _, _, _, _, rfl, hk5, hl, hs, hf5, hd5.mono (by omega)⟩
    · rintro f S5 ⟨l, e6, e7, e8, e9, rfl, hk5, hl, hs, hf5, hd5⟩
      simp only [run_eq, ss_nil, ss_cons, s_nm, s_asg, s_par, par2, par3, s_aug, augD_add, augD_sub, s_augIx, augX_add, augX_sub, s_expr, s_ret, s_retN, s_pass, s_brk, s_cont, s_ite, s_for, s_while, seqF_nx, seqF_rt, seqF_bk, seqF_ct, fnD_rt, fnD_nx, g_nm, g_tp, g_ix, gs_nil, gs_cons, e_int, e_bl, e_non, e_str, e_var, getV_0, getV_s, e_gl, opt_some, e_bin, e_neg, negD_int, e_not, notD_bl, e_and, e_or, bE_app, bolD_bl, okM_app, e_cmp, e_chain, chE_app, e_ite, e_tup, e_lst, e_ix, e_rev, e_slA, e_slL, e_slH, e_slLH, sl1_L, sl1_H, sl2_LH, e_call, e_bi, e_mt, e_comp, es_nil, es_cons, ifD_bl, ifD_t, ifD_f, b_ok, b_assoc, fTurn_eq, turn_eq, inT_some, inC_some, soE_app, evT_nil, evT_one, t_nm, t_tp, ts_nil, ts_cons, mkL_f, mkL_t, o_add, o_sub, c_lt, c_le, c_gt, c_ge, c_eqI, c_neI, b_int, b_intB, b_abs, b_max2, b_min2, b_gcd, b_lenT, b_lenL, b_lenS, b_tupT, b_tupL, b_lstT, b_lstL, b_isiT, b_isiI, b_isiB, revT, revL, ixT0, ixT1, ixT2, ixL0, ixL1, isI, q_vlT, q_vlL, q_vlS, q_enT, q_enL, q_zpTT, q_zpTL, q_zpLT, q_zpLL, forD_some, List.set_cons_zero, List.set_cons_succ, List.map_cons, List.map_nil, List.length_cons, List.length_nil, List.cons_append, List.nil_append, List.replicate_succ, List.replicate_zero, Nat.reduceAdd, Nat.reduceSub, Nat.reduceEqDiff, if_true, Option.bind_some, wipeD, b_tupR hk5, WP_ok]
      exact ⟨l, rfl, hl, hs, hf5, hd5⟩
end LW
namespace LW
open PySem L2 Ev
/-! ### sums and products -/
def sz : Nat → (Nat → Int) → Int
  | 0, _ => 0
  | n + 1, f => sz n f + f n
def pz : Nat → (Nat → Int) → Int
  | 0, _ => 1
  | n + 1, f => pz n f * f n
theorem sz_congr {f g : Nat → Int} : ∀ {n : Nat}, (∀ i, i < n → f i = g i) → sz n f = sz n g
  | 0, _ => rfl
  | n + 1, h => by rw [sz, sz, sz_congr fun i hi => h i (by omega), h n (by omega)]
theorem pz_congr {f g : Nat → Int} : ∀ {n : Nat}, (∀ i, i < n → f i = g i) → pz n f = pz n g
  | 0, _ => rfl
  | n + 1, h => by rw [pz, pz, pz_congr fun i hi => h i (by omega), h n (by omega)]
theorem sz_mulL (c : Int) (f : Nat → Int) : ∀ n : Nat, c * sz n f = sz n fun i => c * f i
  | 0 => by simp [sz]
  | n + 1 => by rw [sz, sz, ← sz_mulL c f n]; grind
theorem sz_mulR (c : Int) (f : Nat → Int) (n : Nat) : sz n f * c = sz n fun i => f i * c := by
  rw [Int.mul_comm, sz_mulL]; exact sz_congr fun i _ => Int.mul_comm _ _
theorem sz_add (f g : Nat → Int) : ∀ n : Nat, sz n f + sz n g = sz n fun i => f i + g i
  | 0 => rfl
  | n + 1 => by simp only [sz]; rw [← sz_add f g n]; omega
theorem sz_zero : ∀ n : Nat, sz n (fun _ => 0) = 0
  | 0 => rfl
  | n + 1 => by rw [sz, sz_zero n]; rfl
theorem sz_swap (f : Nat → Nat → Int) (m : Nat) : ∀ n : Nat, sz n (fun i => sz m fun j => f i j) = sz m fun j => sz n fun i => f i j
  | 0 => by simp only [sz]; exact (sz_zero m).symm
  | n + 1 => by simp only [sz]; rw [sz_swap f m n, sz_add]
theorem sz_split (n : Nat) (f : Nat → Int) : ∀ m : Nat, sz (m * n) f = sz m fun a => sz n fun q => f (a * n + q)
  | 0 => by simp [sz]
  | m + 1 => by
    have app : ∀ (a b : Nat), sz (a + b) f = sz a f + sz b fun q => f (a + q) := fun a b => by
      induction b with
      | zero => simp [sz]
      | succ b ih => rw [← Nat.add_assoc, sz, sz, ih]; omega
    rw [Nat.succ_mul, app, sz_split n f m, sz]
theorem pz_mul (f g : Nat → Int) : ∀ n : Nat, pz n (fun i => f i * g i) = pz n f * pz n g
  | 0 => rfl
  | n + 1 => by simp only [pz]; rw [pz_mul f g n]; grind
theorem pz_front (f : Nat → Int) : ∀ n : Nat, pz (n + 1) f = f 0 * pz n fun i => f (i + 1)
  | 0 => by simp [pz]
  | n + 1 => by rw [pz, pz_front f n, pz]; grind
theorem pz_rev (f : Nat → Int) : ∀ n : Nat, (pz n fun u => f (n - 1 - u)) = pz n f
  | 0 => rfl
  | n + 1 => by
    rw [pz_front]
    have e : (pz n fun i => f (n + 1 - 1 - (i + 1))) = pz n f := by
      rw [← pz_rev f n]
      exact pz_congr fun i hi => by congr 1; omega
    rw [e, pz, Int.mul_comm]; rfl
theorem pz_pos {f : Nat → Int} : ∀ {n : Nat}, (∀ i, i < n → 0 < f i) → 0 < pz n f
  | 0, _ => by simp [pz]
  | n + 1, h => Int.mul_pos (pz_pos fun i hi => h i (by omega)) (h n (by omega))
theorem pz_nn {f : Nat → Int} : ∀ {n : Nat}, (∀ i, i < n → 0 ≤ f i) → 0 ≤ pz n f
  | 0, _ => by simp [pz]
  | n + 1, h => Int.mul_nonneg (pz_nn fun i hi => h i (by omega)) (h n (by omega))
theorem pz_le {f g : Nat → Int} : ∀ {n : Nat}, (∀ i, i < n → 0 ≤ f i ∧ f i ≤ g i) → pz n f ≤ pz n g
  | 0, _ => Int.le_refl _
  | n + 1, h => Int.mul_le_mul (pz_le fun i hi => h i (by omega)) (h n (by omega)).2 (h n (by omega)).1 (pz_nn fun i hi => Int.le_trans (h i (by omega)).1 (h i (by omega)).2)
theorem pz_const_le {f : Nat → Int} {c : Int} (hc : 1 ≤ c) : ∀ {n k : Nat}, n ≤ k → (∀ i, i < n → 0 ≤ f i ∧ f i ≤ c) → pz n f ≤ c ^ k
  | 0, k, _, _ => by
    show (1 : Int) ≤ c ^ k
    have : 0 < c ^ k := Int.pow_pos (by omega)
    omega
  | n + 1, k, hk, h => by
    obtain ⟨j, rfl⟩ : ∃ j, k = j + 1 := ⟨k - 1, by omega⟩
    rw [pz, Int.pow_succ]
    exact Int.mul_le_mul (pz_const_le hc (by omega) fun i hi => h i (by omega)) (h n (by omega)).2 (h n (by omega)).1 (Int.le_of_lt (Int.pow_pos (by omega)))
theorem sz_abs {f : Nat → Int} {c : Int} : ∀ {n : Nat}, (∀ i, i < n → f i ≤ c ∧ -c ≤ f i) → sz n f ≤ n * c ∧ -(n * c) ≤ sz n f
  | 0, _ => by simp [sz]
  | n + 1, h => by
    have ih := sz_abs (f := f) (c := c) (n := n) fun i hi => h i (by omega)
    have := h n (by omega)
    rw [sz]
    push_cast
    rw [Int.add_mul]
    omega
/-! ### the telescope -/
def gt (a b : Nat → Int) (place s : Nat) : Int := if s < place then b s - a s else if s = place then a s else b s
theorem tele (a b : Nat → Int) : ∀ t : Nat, (sz (t + 1) fun place => pz t (gt a b place)) = pz t b
  | 0 => rfl
  | t + 1 => by
    have h1 : (sz t fun place => pz (t + 1) (gt a b place)) = (sz t fun place => pz t (gt a b place)) * b t := by
      rw [sz_mulR]
      exact sz_congr fun p hp => by
        rw [pz]; congr 1
        unfold gt; rw [if_neg (by omega), if_neg (by omega)]
    have h2 : pz t (gt a b (t + 1)) = pz t (gt a b t) := pz_congr fun s hs => by unfold gt; rw [if_pos (by omega), if_pos (by omega)]
    have h3 : gt a b t t = a t := by unfold gt; rw [if_neg (by omega), if_pos rfl]
    have h4 : gt a b (t + 1) t = b t - a t := by unfold gt; rw [if_pos (by omega)]
    have ih := tele a b t
    rw [sz] at ih
    rw [sz, sz, h1]
    simp only [pz]
    rw [h2, h3, h4, ← ih]
    grind
/-! ### a sum over all places, last letter first -/
def wA (m t : Nat) (row : Nat → Nat → Int) (test : Nat → Int) : Nat → Nat → Int
  | 0, j => test j
  | i + 1, j => sz m fun a => row (t - 1 - i) a * wA m t row test i (m * j + a)
theorem wA_eq (m t : Nat) (hm : 0 < m) (row : Nat → Nat → Int) (test : Nat → Int) : ∀ i j : Nat, wA m t row test i j = sz (m ^ i) fun q => test (j * m ^ i + q) * pz i fun u => row (t - 1 - u) (q / m ^ u % m)
  | 0, j => by simp [wA, sz, pz]
  | i + 1, j => by
    rw [wA, Nat.pow_succ, Nat.mul_comm (m ^ i) m, sz_split]
    refine sz_congr fun a ha => ?_
    rw [wA_eq m t hm row test i, sz_mulL]
    refine sz_congr fun q hq => ?_
    have hp : 0 < m ^ i := Nat.pow_pos hm
    have e1 : (m * j + a) * m ^ i + q = j * (m * m ^ i) + (a * m ^ i + q) := by
      rw [Nat.add_mul, Nat.mul_assoc, Nat.add_assoc, Nat.mul_left_comm]
    have e2 : (a * m ^ i + q) / m ^ i % m = a := by
      rw [Nat.add_comm, Nat.add_mul_div_right _ _ hp, Nat.div_eq_of_lt hq, Nat.zero_add, Nat.mod_eq_of_lt ha]
    have e3 : (pz i fun u => row (t - 1 - u) ((a * m ^ i + q) / m ^ u % m)) = pz i fun u => row (t - 1 - u) (q / m ^ u % m) := pz_congr fun u hu => by
      congr 1
      obtain ⟨d, hd⟩ : ∃ d, i = u + (d + 1) := ⟨i - u - 1, by omega⟩
      have e4 : a * m ^ i = m ^ u * (m * (a * m ^ d)) := by
        rw [hd, Nat.pow_add, Nat.pow_succ]
        rw [Nat.mul_left_comm a, Nat.mul_left_comm m, Nat.mul_comm (m ^ d) m, Nat.mul_left_comm a m]
      rw [e4, Nat.add_comm, Nat.add_mul_div_left _ _ (Nat.pow_pos hm), Nat.add_mul_mod_self_left]
    rw [e1, pz, e2, e3]
    grind
def dgt (m t s p : Nat) : Nat := p / m ^ (t - 1 - s) % m
theorem wA_top (m t : Nat) (hm : 0 < m) (row : Nat → Nat → Int) (test : Nat → Int) : wA m t row test t 0 = sz (m ^ t) fun p => test p * pz t fun s => row s (dgt m t s p) := by
  rw [wA_eq m t hm]
  refine sz_congr fun q hq => ?_
  rw [Nat.zero_mul, Nat.zero_add]
  congr 1
  rw [← pz_rev (fun s => row s (dgt m t s q)) t]
  refine pz_congr fun u hu => ?_
  unfold dgt
  rw [show t - 1 - (t - 1 - u) = u by omega]
theorem wA_abs {m t : Nat} {row : Nat → Nat → Int} {test : Nat → Int} {c : Int} (hc : 1 ≤ c) (hr : ∀ s a, row s a ≤ c ∧ -c ≤ row s a) (ht : ∀ j, test j ≤ 1 ∧ -1 ≤ test j) : ∀ i j : Nat, wA m t row test i j ≤ (m * c) ^ i ∧ -((m * c) ^ i) ≤ wA m t row test i j
  | 0, j => by simpa [wA] using ht j
  | i + 1, j => by
    have h := sz_abs (n := m) (c := c * ((m : Int) * c) ^ i) (f := fun a => row (t - 1 - i) a * wA m t row test i (m * j + a)) fun a ha => by
      have h1 := hr (t - 1 - i) a
      have h2 := wA_abs (m := m) (t := t) (row := row) (test := test) hc hr ht i (m * j + a)
      generalize row (t - 1 - i) a = x at h1
      generalize wA m t row test i (m * j + a) = y at h2
      generalize ((m : Int) * c) ^ i = z at h2
      have hxa : (x.natAbs : Int) ≤ c := by omega
      have hya : (y.natAbs : Int) ≤ z := by omega
      have hm : ((x * y).natAbs : Int) ≤ c * z := by
        rw [Int.natAbs_mul]; push_cast
        exact Int.mul_le_mul hxa hya (by omega) (by omega)
      omega
    rw [wA, Int.pow_succ]
    have e : (m : Int) * (c * ((m : Int) * c) ^ i) = ((m : Int) * c) ^ i * (m * c) := by grind
    rw [e] at h
    exact h
/-! ### signs by places -/
def gI (ts : List (List Int)) (s d : Nat) : Int := (ts.getD s []).getD d 0
theorem cpsF_get {f t : List Int} {m p : Nat} (ht : t.length = m) (hm : 0 < m) (hp : p < f.length * m) : (cpsF f t).getD p 0 = f.getD (p / m) 0 * t.getD (p % m) 0 := by
  induction f generalizing p with
  | nil => simp at hp
  | cons o r ih =>
    have e : cpsF (o :: r) t = t.map (o * ·) ++ cpsF r t := by simp [cpsF]
    rw [e, List.getD_eq_getElem?_getD]
    by_cases h : p < m
    · rw [List.getElem?_append_left (by rw [List.length_map, ht]; exact h), Nat.div_eq_of_lt h, Nat.mod_eq_of_lt h, List.getElem?_map, List.getElem?_eq_getElem (by omega)]
      simp [List.getD_eq_getElem?_getD, List.getElem?_eq_getElem (show p < t.length by omega)]
    · rw [List.getElem?_append_right (by rw [List.length_map, ht]; omega), List.length_map, ht, ← List.getD_eq_getElem?_getD]
      have e1 : p / m = (p - m) / m + 1 := by rw [← Nat.sub_add_cancel (show m ≤ p by omega)]; rw [Nat.add_div_right _ hm]; simp
      have e2 : p % m = (p - m) % m := by rw [← Nat.mod_eq_sub_mod (by omega)]
      rw [ih (by rw [List.length_cons, Nat.succ_mul] at hp; omega), e1, e2]
      rfl
theorem cps_get {m : Nat} (hm : 0 < m) : ∀ {ts : List (List Int)} {p : Nat}, (∀ s, s ∈ ts → s.length = m) → p < m ^ ts.length → (cps ts).getD p 0 = pz ts.length fun s => gI ts s (dgt m ts.length s p) := by
  intro ts
  induction ts using snoc_ind with
  | h0 => intro p _ hp; have : p = 0 := by simpa using hp
          subst this; rfl
  | h1 ts t ih =>
    intro p hl hp
    rw [List.length_append, List.length_singleton, Nat.pow_succ] at hp
    have hl' : ∀ s, s ∈ ts → s.length = m := fun s hs => hl s (List.mem_append_left _ hs)
    rw [cps_snoc, cpsF_get (hl t (by simp)) hm (by rw [cps_len hl']; exact hp), ih hl' (Nat.div_lt_of_lt_mul (by rw [Nat.mul_comm]; exact hp)), List.length_append, List.length_singleton, pz]
    congr 1
    · refine pz_congr fun s hs => ?_
      unfold gI dgt
      rw [List.getD_eq_getElem?_getD (l := ts ++ [t]), List.getElem?_append_left hs, ← List.getD_eq_getElem?_getD]
      congr 1
      rw [Nat.div_div_eq_div_mul]
      congr 2
      rw [← Nat.pow_succ', show (ts.length - 1 - s).succ = ts.length + 1 - 1 - s by omega]
    · unfold gI dgt
      rw [List.getD_eq_getElem?_getD (l := ts ++ [t]), List.getElem?_append_right (Nat.le_refl _)]
      simp
end LW
namespace LW
open PySem L2 Ev
def fq (z b : Int) : Rat := (z : Rat) / (b : Rat)
theorem ne0 {b : Int} (h : 0 < b) : (b : Rat) ≠ 0 := by rw [Ne, ← Rat.intCast_zero, Rat.intCast_inj]; omega
theorem fq_mul {a b c d : Int} (hb : 0 < b) (hd : 0 < d) : fq a b * fq c d = fq (a * c) (b * d) := by
  have h1 := ne0 hb; have h2 := ne0 hd
  unfold fq; rw [Rat.intCast_mul, Rat.intCast_mul]; grind
theorem fq_less {w b : Int} (hb : 0 < b) : fq 1 1 - fq w b = fq (b - w) b := by
  have h1 := ne0 hb
  unfold fq; rw [Rat.intCast_sub]
  have : ((1 : Int) : Rat) = 1 := rfl
  rw [this]; grind
theorem fq_add {a c b : Int} (hb : 0 < b) : fq a b + fq c b = fq (a + c) b := by
  have h1 := ne0 hb
  unfold fq; rw [Rat.intCast_add]; grind
theorem fq_scale {a b c : Int} (hb : 0 < b) (hc : 0 < c) : fq a b = fq (a * c) (b * c) := by
  have h1 := ne0 hb; have h2 := ne0 hc
  unfold fq; rw [Rat.intCast_mul, Rat.intCast_mul]; grind
theorem frD_fq (z b : Int) (h : 0 < b) : frD (fq z b) = .tup [.int (z / (Int.gcd z b : Int)), .int (b / (Int.gcd z b : Int))] := (frD_mk z b h).symm
theorem frD_one (x : Int) : D.tup [.int x, .int 1] = frD (fq x 1) := by rw [frD_fq x 1 (by decide)]; simp
theorem sm_fq {z b : Int} (hb : 0 < b) (h1 : z.natAbs < 2 ^ 1000) (h2 : b.natAbs < 2 ^ 1000) : Sm 1000 (fq z b) := by
  have hg := gcd_pos z b hb
  have e1 : (fq z b).num = z / (Int.gcd z b : Int) := num_eq z b hb
  have e2 : ((fq z b).den : Int) = b / (Int.gcd z b : Int) := den_eq z b hb
  constructor
  · rw [e1]
    refine Nat.lt_of_le_of_lt ?_ h1
    rw [Int.natAbs_ediv_of_dvd (Int.gcd_dvd_left z b)]
    exact Nat.div_le_self _ _
  · have : (fq z b).den ≤ b.natAbs := by
      have h3 : b / (Int.gcd z b : Int) ≤ b := Int.ediv_le_self _ (by omega)
      omega
    omega
/-! ### measures -/
def mB (ms : List (Int × List Int)) (s : Nat) : Int := (ms.getD s (1, [])).1
def mW (ms : List (Int × List Int)) (s d : Nat) : Int := (ms.getD s (1, [])).2.getD d 0
structure Mss (ms : List (Int × List Int)) (m t : Nat) : Prop where
  each : ∀ p, p ∈ ms → Ms p.1 p.2 m
  num : ms.length = t
theorem Mss.get {ms : List (Int × List Int)} {m t s : Nat} (h : Mss ms m t) (hs : s < t) : ∃ p, ms[s]? = some p ∧ Ms p.1 p.2 m ∧ mB ms s = p.1 ∧ ∀ d, mW ms s d = p.2.getD d 0 := by
  have hl : s < ms.length := by rw [h.num]; exact hs
  refine ⟨ms[s], List.getElem?_eq_getElem hl, h.each _ (List.getElem_mem hl), ?_, fun d => ?_⟩
  · unfold mB; rw [List.getD_eq_getElem?_getD, List.getElem?_eq_getElem hl]; rfl
  · unfold mW; rw [List.getD_eq_getElem?_getD (l := ms), List.getElem?_eq_getElem hl]; rfl
def Cb : Int := 50000000000000000000000000
theorem Mss.B {ms : List (Int × List Int)} {m t s : Nat} (h : Mss ms m t) (hs : s < t) : 1 ≤ mB ms s ∧ mB ms s ≤ Cb := by
  obtain ⟨p, _, h1, h2, _⟩ := h.get hs
  rw [h2]; exact ⟨h1.pos, h1.bd⟩
theorem Mss.W {ms : List (Int × List Int)} {m t s d : Nat} (h : Mss ms m t) (hs : s < t) : 0 ≤ mW ms s d ∧ mW ms s d ≤ mB ms s := by
  obtain ⟨p, _, h1, h2, h3⟩ := h.get hs
  rw [h2, h3, List.getD_eq_getElem?_getD]
  cases e : p.2[d]? with
  | none => have := h1.pos; exact ⟨Int.le_refl _, by show 0 ≤ _; omega⟩
  | some w => exact h1.rng w (List.mem_of_getElem? e)
def zn (ms : List (Int × List Int)) (place s d : Nat) : Int := if s < place then mB ms s - mW ms s d else if s = place then mW ms s d else 1
def bn (ms : List (Int × List Int)) (place s : Nat) : Int := if s ≤ place then mB ms s else 1
theorem bn_bd {ms : List (Int × List Int)} {m t place s : Nat} (h : Mss ms m t) (hs : s < t) : 1 ≤ bn ms place s ∧ bn ms place s ≤ Cb := by
  have := h.B hs
  unfold bn; split
  · exact this
  · exact ⟨Int.le_refl _, by decide⟩
theorem zn_bd {ms : List (Int × List Int)} {m t place s d : Nat} (h : Mss ms m t) (hs : s < t) : 0 ≤ zn ms place s d ∧ zn ms place s d ≤ Cb := by
  have h1 := h.B hs
  have h2 := h.W (d := d) hs
  unfold zn; split
  · omega
  · split
    · omega
    · exact ⟨by decide, by decide⟩
def dotZ (ms : List (Int × List Int)) (m t place p n : Nat) : Int := pz n fun s => zn ms place s (dgt m t s p)
def Dn (ms : List (Int × List Int)) (place n : Nat) : Int := pz n (bn ms place)
theorem dotZ_bd {ms : List (Int × List Int)} {m t place p n : Nat} (h : Mss ms m t) (hn : n ≤ t) (ht : t ≤ 3) : 0 ≤ dotZ ms m t place p n ∧ dotZ ms m t place p n ≤ Cb ^ 3 :=
  ⟨pz_nn fun s hs => (zn_bd h (by omega)).1, pz_const_le (by decide) (by omega) fun s hs => zn_bd h (by omega)⟩
theorem Dn_bd {ms : List (Int × List Int)} {m t place n : Nat} (h : Mss ms m t) (hn : n ≤ t) (ht : t ≤ 3) : 0 < Dn ms place n ∧ Dn ms place n ≤ Cb ^ 3 :=
  ⟨pz_pos fun s hs => by have := (bn_bd (place := place) h (show s < t by omega)).1; omega, pz_const_le (by decide) (by omega) fun s hs => by have := bn_bd (place := place) h (show s < t by omega); omega⟩
theorem cb3 : Cb ^ 3 < 2 ^ 300 := by decide +kernel
/-- the sum of a part, over the first n places -/
def SZ (ts : List (List Int)) (test : List Int) (ms : List (Int × List Int)) (m t place n : Nat) : Int := sz n fun p => (cps ts).getD p 0 * test.getD p 0 * dotZ ms m t place p t
theorem sg_getD {l : List Int} (h : SgL l) (p : Nat) : l.getD p 0 ≤ 1 ∧ -1 ≤ l.getD p 0 := by
  rw [List.getD_eq_getElem?_getD]
  cases e : l[p]? with
  | none => exact ⟨by decide, by decide⟩
  | some x => rcases h x (List.mem_of_getElem? e) with rfl | rfl <;> exact ⟨by decide, by decide⟩
theorem sg_prod {x y : Int} (h1 : x ≤ 1 ∧ -1 ≤ x) (h2 : y ≤ 1 ∧ -1 ≤ y) : x * y ≤ 1 ∧ -1 ≤ x * y := by
  have hx : x = -1 ∨ x = 0 ∨ x = 1 := by omega
  rcases hx with rfl | rfl | rfl <;> omega
theorem abs_mul_le {x y c : Int} (h1 : x ≤ 1 ∧ -1 ≤ x) (h2 : 0 ≤ y ∧ y ≤ c) : x * y ≤ c ∧ -c ≤ x * y := by
  have hx : x = -1 ∨ x = 0 ∨ x = 1 := by omega
  rcases hx with rfl | rfl | rfl <;> omega
theorem SZ_bd {ts : List (List Int)} {test : List Int} {ms : List (Int × List Int)} {m t place n : Nat} (hs : SgL (cps ts)) (ht : SgL test) (h : Mss ms m t) (ht3 : t ≤ 3) (hn : n ≤ 125) : SZ ts test ms m t place n ≤ 125 * Cb ^ 3 ∧ -(125 * Cb ^ 3) ≤ SZ ts test ms m t place n := by
  have q := sz_abs (n := n) (c := Cb ^ 3) (f := fun p => (cps ts).getD p 0 * test.getD p 0 * dotZ ms m t place p t) fun p hp => abs_mul_le (sg_prod (sg_getD hs p) (sg_getD ht p)) (dotZ_bd h (Nat.le_refl _) ht3)
  have hc : 0 < Cb ^ 3 := by decide +kernel
  have e : (n : Int) * Cb ^ 3 ≤ 125 * Cb ^ 3 := Int.mul_le_mul_of_nonneg_right (by omega) (by omega)
  unfold SZ
  omega
end LW
namespace LW
open PySem L2 Ev
theorem enumD_get : ∀ {xs : List D} {n i : Nat} {x : D}, (enumD xs n)[i]? = some x → ∃ y, xs[i]? = some y ∧ x = .tup [.int ((n + i : Nat) : Int), y]
  | [], n, i, x, h => by simp [enumD] at h
  | y :: r, n, 0, x, h => by
    simp only [enumD, natK_eq, List.getElem?_cons_zero, Option.some.injEq] at h
    exact ⟨y, rfl, h.symm⟩
  | y :: r, n, i + 1, x, h => by
    simp only [enumD, natK_eq, List.getElem?_cons_succ] at h
    obtain ⟨z, h1, h2⟩ := enumD_get h
    exact ⟨z, by simpa using h1, by rw [h2, show n + 1 + i = n + (i + 1) by omega]⟩
theorem enumD_len : ∀ (xs : List D) (n : Nat), (enumD xs n).length = xs.length
  | [], _ => rfl
  | y :: r, n => by simp only [enumD, natK_eq, List.length_cons, enumD_len r (n + 1)]
theorem q_enR {S : Store} {xs : List D} {n : Nat} (hS : S[n]? = some (.lst xs)) : srcOf .en [.ref n] S = some (enumD xs 0, [(n, xs)]) := by simp [srcOf, seqD, seqOf, hS]
def PlOk (cl : Nat → List D → M D) : Prop := ∀ (S : Store) (m t p : Nat) (mi ti pi : Int), mi = (m : Int) → ti = (t : Int) → pi = (p : Int) → 1 ≤ m → m ≤ 100 → t ≤ 100 → WP (cl 32 [.int mi, .int ti, .int pi] S) fun d S' => d = .lst ((dg m t p).map fun (k : Nat) => D.int (k : Int)) ∧ Al S S'
def QOk (cl : Nat → List D → M D) (g : Nat) (op : Rat → Rat → Rat) : Prop := ∀ (S : Store) (p q : Rat), Sm 1000 p → Sm 1000 q → cl g [frD p, frD q] S = .ok (frD (op p q)) S
theorem dg_len (m t p : Nat) : (dg m t p).length = t := by simp [dg]
theorem dg_get {m t p s : Nat} (hs : s < t) : (dg m t p)[s]? = some (dgt m t s p) := by
  unfold dg dgt
  rw [List.getElem?_reverse (by simpa using hs), List.length_map, List.length_range, List.getElem?_map, List.getElem?_range (by omega)]
  rfl
def mssD (ms : List (Int × List Int)) : D := .tup (ms.map msD)
theorem nat_abs_lt {x c : Int} (h : x ≤ c ∧ -c ≤ x) (hc : c < 2 ^ 400) : x.natAbs < 2 ^ 1000 := by
  have h2 : (2 : Nat) ^ 400 < 2 ^ 1000 := Nat.pow_lt_pow_right (by decide) (by decide)
  have h3 : x.natAbs < 2 ^ 400 := by
    have : (x.natAbs : Int) < 2 ^ 400 := by omega
    exact_mod_cast this
  exact Nat.lt_trans h3 h2
theorem cb_400 : 125 * Cb ^ 3 < 2 ^ 400 ∧ Cb ^ 3 < 2 ^ 400 ∧ Cb < 2 ^ 400 ∧ 0 < Cb ^ 3 := by decide +kernel
theorem part_spec {C : Ev.Ctx} {S : Store} {m t place : Nat} {pl : Int} {ts : List (List Int)} {test : List Int} {ms : List (Int × List Int)} (hc : CpOk C.cl) (hp : PlOk C.cl) (hf : FrOk C.cl 26) (hadd : QOk C.cl 27 (· + ·)) (hless : QOk C.cl 28 (· - ·)) (hmul : QOk C.cl 29 (· * ·))
    (hts : Ts ts m t) (htl : test.length = m ^ t) (hsg : SgL test) (hms : Mss ms m t) (hpl : pl = (place : Int)) (hplt : place ≤ t) :
    WP (runF C fd_law_hx_part [tsD ts, tI test, mssD ms, .int pl] S) fun d S' => d = frD (fq (SZ ts test ms m t place (m ^ t)) (Dn ms place t)) ∧ Al S S' := by
  have lg := lim_ge
  have c4 := cb_400
  obtain ⟨t0, rest, e0, ht0⟩ := hts.hd
  have hpw := hts.pow'
  have hcl := hts.cl
  have hcs := cps_sg hts.sg
  have hm1 := hts.m1
  have hm5 := hts.m5
  have ht3 := hts.t3
  have i0 : ∀ S, doIx (tsD ts) (.int 0) S = .ok (tI t0) S := fun S => by rw [e0]; exact ixT0
  have ln : ∀ S m, doBi .len m [tI t0] S = .ok (.int t0.length) S := fun S m => by unfold tI; rw [b_lenT, List.length_map]
  generalize hmi : (t0.length : Int) = mi at ln
  rw [ht0] at hmi
  have lt : ∀ S m, doBi .len m [tsD ts] S = .ok (.int ts.length) S := fun S m => by unfold tsD; rw [b_lenT, List.length_map]
  generalize hti : (ts.length : Int) = ti at lt
  rw [hts.num] at hti
  simp only [run_eq, ss_nil, ss_cons, s_nm, s_asg, s_par, par2, par3, s_aug, augD_add, augD_sub, s_augIx, augX_add, augX_sub, s_expr, s_ret, s_retN, s_pass, s_brk, s_cont, s_ite, s_for, s_while, seqF_nx, seqF_rt, seqF_bk, seqF_ct, fnD_rt, fnD_nx, g_nm, g_tp, g_ix, gs_nil, gs_cons, e_int, e_bl, e_non, e_str, e_var, getV_0, getV_s, e_gl, opt_some, e_bin, e_neg, negD_int, e_not, notD_bl, e_and, e_or, bE_app, bolD_bl, okM_app, e_cmp, e_chain, chE_app, e_ite, e_tup, e_lst, e_ix, e_rev, e_slA, e_slL, e_slH, e_slLH, sl1_L, sl1_H, sl2_LH, e_call, e_bi, e_mt, e_comp, es_nil, es_cons, ifD_bl, ifD_t, ifD_f, b_ok, b_assoc, fTurn_eq, turn_eq, inT_some, inC_some, soE_app, evT_nil, evT_one, t_nm, t_tp, ts_nil, ts_cons, mkL_f, mkL_t, o_add, o_sub, c_lt, c_le, c_gt, c_ge, c_eqI, c_neI, b_int, b_intB, b_abs, b_max2, b_min2, b_gcd, b_lenT, b_lenL, b_lenS, b_tupT, b_tupL, b_lstT, b_lstL, b_isiT, b_isiI, b_isiB, revT, revL, ixT0, ixT1, ixT2, ixL0, ixL1, isI, q_vlT, q_vlL, q_vlS, q_enT, q_enL, q_zpTT, q_zpTL, q_zpLT, q_zpLL, forD_some, List.set_cons_zero, List.set_cons_succ, List.map_cons, List.map_nil, List.length_cons, List.length_nil, List.cons_append, List.nil_append, List.replicate_succ, List.replicate_zero, Nat.reduceAdd, Nat.reduceSub, Nat.reduceEqDiff, if_true, Option.bind_some, wipeD, fd_law_hx_part, i0, ln, lt]
  refine WP_call (hc S ts m hts.sg hts.len hts.m1 hts.pow) ?_
  rintro d S1 ⟨k, rfl, hk, hle, hal⟩
  simp only [run_eq, ss_nil, ss_cons, s_nm, s_asg, s_par, par2, par3, s_aug, augD_add, augD_sub, s_augIx, augX_add, augX_sub, s_expr, s_ret, s_retN, s_pass, s_brk, s_cont, s_ite, s_for, s_while, seqF_nx, seqF_rt, seqF_bk, seqF_ct, fnD_rt, fnD_nx, g_nm, g_tp, g_ix, gs_nil, gs_cons, e_int, e_bl, e_non, e_str, e_var, getV_0, getV_s, e_gl, opt_some, e_bin, e_neg, negD_int, e_not, notD_bl, e_and, e_or, bE_app, bolD_bl, okM_app, e_cmp, e_chain, chE_app, e_ite, e_tup, e_lst, e_ix, e_rev, e_slA, e_slL, e_slH, e_slLH, sl1_L, sl1_H, sl2_LH, e_call, e_bi, e_mt, e_comp, es_nil, es_cons, ifD_bl, ifD_t, ifD_f, b_ok, b_assoc, fTurn_eq, turn_eq, inT_some, inC_some, soE_app, evT_nil, evT_one, t_nm, t_tp, ts_nil, ts_cons, mkL_f, mkL_t, o_add, o_sub, c_lt, c_le, c_gt, c_ge, c_eqI, c_neI, b_int, b_intB, b_abs, b_max2, b_min2, b_gcd, b_lenT, b_lenL, b_lenS, b_tupT, b_tupL, b_lstT, b_lstL, b_isiT, b_isiI, b_isiB, revT, revL, ixT0, ixT1, ixT2, ixL0, ixL1, isI, q_vlT, q_vlL, q_vlS, q_enT, q_enL, q_zpTT, q_zpTL, q_zpLT, q_zpLL, forD_some, List.set_cons_zero, List.set_cons_succ, List.map_cons, List.map_nil, List.length_cons, List.length_nil, List.cons_append, List.nil_append, List.replicate_succ, List.replicate_zero, Nat.reduceAdd, Nat.reduceSub, Nat.reduceEqDiff, if_true, Option.bind_some, wipeD, q_enR hk]
  have hz0 : D.tup [.int 0, .int 1] = frD (fq (SZ ts test ms m t place 0) (Dn ms place t)) := by
    have hD := (Dn_bd (place := place) hms (Nat.le_refl t) ht3).1
    have : fq (SZ ts test ms m t place 0) (Dn ms place t) = fq 0 1 := by
      show fq 0 _ = _
      unfold fq
      have e1 : ((0 : Int) : Rat) = 0 := rfl
      rw [e1, Rat.div_def, Rat.div_def, Rat.zero_mul, Rat.zero_mul]
    rw [this]; exact frD_one 0
  rw [hz0]
  refine WP_call (for_inv (P := fun f S' => ∃ e7 e8 e9 e10 e11 e12, f = Fl.nx [some (tsD ts), some (tI test), some (mssD ms), some (.int pl), some (.int mi), some (.int ti), some (frD (fq (SZ ts test ms m t place (m ^ t)) (Dn ms place t))), e7, e8, e9, e10, e11, e12] ∧ Al S S')
    (fun p env S' => ∃ e7 e8 e9 e10 e11 e12, env = [some (tsD ts), some (tI test), some (mssD ms), some (.int pl), some (.int mi), some (.int ti), some (frD (fq (SZ ts test ms m t place p) (Dn ms place t))), e7, e8, e9, e10, e11, e12] ∧ S'[k]? = some (.lst ((cps ts).map .int)) ∧ Al S S') 0
    ⟨_, _, _, _, _, _, rfl, hk, hal⟩ ?_ ?_) ?_
  · rintro p env S2 x ⟨e7, e8, e9, e10, e11, e12, rfl, hk2, hal2⟩ hi _ hx
    refine ⟨dep_one hk2, ?_⟩
    rw [Nat.sub_zero] at hx
    obtain ⟨y, hy, rfl⟩ := enumD_get hx
    rw [List.getElem?_map] at hy
    obtain ⟨sg, hsg1, rfl⟩ := Option.map_eq_some_iff.mp hy
    have hpl1 : p < (cps ts).length := (List.getElem?_eq_some_iff.mp hsg1).1
    have hsd : (cps ts).getD p 0 = sg := by rw [List.getD_eq_getElem?_getD, hsg1]; rfl
    rw [Nat.zero_add]
    generalize hpi : (p : Int) = pi
    have htp : p < test.length := by rw [htl, ← hcl]; exact hpl1
    have hix : ∀ S, doIx (tI test) (.int pi) S = .ok (.int (test.getD p 0)) S := fun S => by
      refine ixT' hpi.symm ?_
      rw [List.getElem?_map, List.getD_eq_getElem?_getD, List.getElem?_eq_getElem htp]; rfl
    have b1 := sg_getD hcs p
    rw [hsd] at b1
    have b2 := sg_getD hsg p
    generalize htv : test.getD p 0 = tv at hix b2
    have hxb := sg_prod b1 b2
    have mo : big2 sg tv = true := mulOk (nat_abs_lt (c := 1) b1 (by decide +kernel)) (nat_abs_lt (c := 1) b2 (by decide +kernel))
    simp only [run_eq, ss_nil, ss_cons, s_nm, s_asg, s_par, par2, par3, s_aug, augD_add, augD_sub, s_augIx, augX_add, augX_sub, s_expr, s_ret, s_retN, s_pass, s_brk, s_cont, s_ite, s_for, s_while, seqF_nx, seqF_rt, seqF_bk, seqF_ct, fnD_rt, fnD_nx, g_nm, g_tp, g_ix, gs_nil, gs_cons, e_int, e_bl, e_non, e_str, e_var, getV_0, getV_s, e_gl, opt_some, e_bin, e_neg, negD_int, e_not, notD_bl, e_and, e_or, bE_app, bolD_bl, okM_app, e_cmp, e_chain, chE_app, e_ite, e_tup, e_lst, e_ix, e_rev, e_slA, e_slL, e_slH, e_slLH, sl1_L, sl1_H, sl2_LH, e_call, e_bi, e_mt, e_comp, es_nil, es_cons, ifD_bl, ifD_t, ifD_f, b_ok, b_assoc, fTurn_eq, turn_eq, inT_some, inC_some, soE_app, evT_nil, evT_one, t_nm, t_tp, ts_nil, ts_cons, mkL_f, mkL_t, o_add, o_sub, c_lt, c_le, c_gt, c_ge, c_eqI, c_neI, b_int, b_intB, b_abs, b_max2, b_min2, b_gcd, b_lenT, b_lenL, b_lenS, b_tupT, b_tupL, b_lstT, b_lstL, b_isiT, b_isiI, b_isiB, revT, revL, ixT0, ixT1, ixT2, ixL0, ixL1, isI, q_vlT, q_vlL, q_vlS, q_enT, q_enL, q_zpTT, q_zpTL, q_zpLT, q_zpLL, forD_some, List.set_cons_zero, List.set_cons_succ, List.map_cons, List.map_nil, List.length_cons, List.length_nil, List.cons_append, List.nil_append, List.replicate_succ, List.replicate_zero, Nat.reduceAdd, Nat.reduceSub, Nat.reduceEqDiff, if_true, Option.bind_some, wipeD, hix, o_mul mo]
    generalize hxx : sg * tv = xv at hxb
    rw [frD_one xv]
    refine WP_call (hp S2 m t p mi ti pi hmi.symm hti.symm hpi.symm hm1 (by omega) (by omega)) ?_
    rintro d S3 ⟨rfl, hal3⟩
    simp only [run_eq, ss_nil, ss_cons, s_nm, s_asg, s_par, par2, par3, s_aug, augD_add, augD_sub, s_augIx, augX_add, augX_sub, s_expr, s_ret, s_retN, s_pass, s_brk, s_cont, s_ite, s_for, s_while, seqF_nx, seqF_rt, seqF_bk, seqF_ct, fnD_rt, fnD_nx, g_nm, g_tp, g_ix, gs_nil, gs_cons, e_int, e_bl, e_non, e_str, e_var, getV_0, getV_s, e_gl, opt_some, e_bin, e_neg, negD_int, e_not, notD_bl, e_and, e_or, bE_app, bolD_bl, okM_app, e_cmp, e_chain, chE_app, e_ite, e_tup, e_lst, e_ix, e_rev, e_slA, e_slL, e_slH, e_slLH, sl1_L, sl1_H, sl2_LH, e_call, e_bi, e_mt, e_comp, es_nil, es_cons, ifD_bl, ifD_t, ifD_f, b_ok, b_assoc, fTurn_eq, turn_eq, inT_some, inC_some, soE_app, evT_nil, evT_one, t_nm, t_tp, ts_nil, ts_cons, mkL_f, mkL_t, o_add, o_sub, c_lt, c_le, c_gt, c_ge, c_eqI, c_neI, b_int, b_intB, b_abs, b_max2, b_min2, b_gcd, b_lenT, b_lenL, b_lenS, b_tupT, b_tupL, b_lstT, b_lstL, b_isiT, b_isiI, b_isiB, revT, revL, ixT0, ixT1, ixT2, ixL0, ixL1, isI, q_vlT, q_vlL, q_vlS, q_enT, q_enL, q_zpTT, q_zpTL, q_zpLT, q_zpLL, forD_some, List.set_cons_zero, List.set_cons_succ, List.map_cons, List.map_nil, List.length_cons, List.length_nil, List.cons_append, List.nil_append, List.replicate_succ, List.replicate_zero, Nat.reduceAdd, Nat.reduceSub, Nat.reduceEqDiff, if_true, Option.bind_some, wipeD]
    have w0 : fq xv 1 = fq (xv * dotZ ms m t place p 0) (Dn ms place 0) := by
      show fq xv 1 = fq (xv * 1) 1
      rw [Int.mul_one]
    rw [w0]
    refine WP_call (for_inv (P := fun f S' => ∃ e10 e11 e12, f = Fl.nx [some (tsD ts), some (tI test), some (mssD ms), some (.int pl), some (.int mi), some (.int ti), some (frD (fq (SZ ts test ms m t place p) (Dn ms place t))), some (.int pi), some (.int sg), some (frD (fq (xv * dotZ ms m t place p t) (Dn ms place t))), e10, e11, e12] ∧ S' = S3)
      (fun s env S' => ∃ e10 e11 e12, env = [some (tsD ts), some (tI test), some (mssD ms), some (.int pl), some (.int mi), some (.int ti), some (frD (fq (SZ ts test ms m t place p) (Dn ms place t))), some (.int pi), some (.int sg), some (frD (fq (xv * dotZ ms m t place p s) (Dn ms place s))), e10, e11, e12] ∧ S' = S3) 0
      ⟨_, _, _, rfl, rfl⟩ ?_ ?_) ?_
    · rintro s env S4 x ⟨e10, e11, e12, rfl, rfl⟩ hi _ hx
      refine ⟨dep_nil, ?_⟩
      rw [Nat.sub_zero] at hx
      obtain ⟨y, hy, rfl⟩ := enumD_get hx
      rw [enumD_len, List.length_map, dg_len] at hi
      have hst : s < t := by omega
      rw [List.getElem?_map, dg_get hst] at hy
      have hy : D.int ((dgt m t s p : Nat) : Int) = y := Option.some.inj hy
      subst hy
      rw [Nat.zero_add]
      obtain ⟨pr, hg1, hM, hB, hW⟩ := hms.get hst
      generalize hsi : (s : Int) = si
      generalize hd : dgt m t s p = dd
      have hdm : dd < m := by rw [← hd]; exact Nat.mod_lt _ hm1
      generalize hdi : (dd : Int) = di
      have j1 : ∀ S, doIx (mssD ms) (.int si) S = .ok (.tup [.int pr.1, tI pr.2]) S := fun S => ixT' hsi.symm (by rw [List.getElem?_map, hg1]; rfl)
      have j2 : ∀ S, doIx (tI pr.2) (.int di) S = .ok (.int (mW ms s dd)) S := fun S => by
        refine ixT' hdi.symm ?_
        rw [hW, List.getElem?_map, List.getD_eq_getElem?_getD, List.getElem?_eq_getElem (show dd < pr.2.length by rw [hM.len]; exact hdm)]; rfl
      have hBb := hms.B hst
      have hWb := hms.W (d := dd) hst
      have hBp : 0 < pr.1 := by have := hM.pos; omega
      have fr := hf S4 (mW ms s dd) pr.1 hBp (by have := hM.bd; have : (50000000000000000000000000 : Int) < 2 ^ 8000 := by decide +kernel
                                                 omega)
      rw [← hB] at j1 fr hBp
      have hDs := Dn_bd (place := place) (n := s) hms (by omega) ht3
      have hzs := dotZ_bd (place := place) (p := p) (n := s) hms (by omega) ht3
      have hws := abs_mul_le hxb hzs
      have smw : Sm 1000 (fq (xv * dotZ ms m t place p s) (Dn ms place s)) := sm_fq hDs.1 (nat_abs_lt hws c4.2.1) (nat_abs_lt (c := Cb ^ 3) (by omega) c4.2.1)
      have smh : Sm 1000 (fq (mW ms s dd) (mB ms s)) := sm_fq hBp (nat_abs_lt (c := Cb) (by omega) c4.2.2.1) (nat_abs_lt (c := Cb) (by omega) c4.2.2.1)
      have smo : Sm 1000 (fq 1 1) := sm_fq (by decide) (by decide +kernel) (by decide +kernel)
      have sml : Sm 1000 (fq (mB ms s - mW ms s dd) (mB ms s)) := sm_fq hBp (nat_abs_lt (c := Cb) (by omega) c4.2.2.1) (nat_abs_lt (c := Cb) (by omega) c4.2.2.1)
      have fr : C.cl 26 [.int (mW ms s dd), .int (mB ms s)] S4 = .ok (frD (fq (mW ms s dd) (mB ms s))) S4 := fr
      simp only [run_eq, ss_nil, ss_cons, s_nm, s_asg, s_par, par2, par3, s_aug, augD_add, augD_sub, s_augIx, augX_add, augX_sub, s_expr, s_ret, s_retN, s_pass, s_brk, s_cont, s_ite, s_for, s_while, seqF_nx, seqF_rt, seqF_bk, seqF_ct, fnD_rt, fnD_nx, g_nm, g_tp, g_ix, gs_nil, gs_cons, e_int, e_bl, e_non, e_str, e_var, getV_0, getV_s, e_gl, opt_some, e_bin, e_neg, negD_int, e_not, notD_bl, e_and, e_or, bE_app, bolD_bl, okM_app, e_cmp, e_chain, chE_app, e_ite, e_tup, e_lst, e_ix, e_rev, e_slA, e_slL, e_slH, e_slLH, sl1_L, sl1_H, sl2_LH, e_call, e_bi, e_mt, e_comp, es_nil, es_cons, ifD_bl, ifD_t, ifD_f, b_ok, b_assoc, fTurn_eq, turn_eq, inT_some, inC_some, soE_app, evT_nil, evT_one, t_nm, t_tp, ts_nil, ts_cons, mkL_f, mkL_t, o_add, o_sub, c_lt, c_le, c_gt, c_ge, c_eqI, c_neI, b_int, b_intB, b_abs, b_max2, b_min2, b_gcd, b_lenT, b_lenL, b_lenS, b_tupT, b_tupL, b_lstT, b_lstL, b_isiT, b_isiI, b_isiB, revT, revL, ixT0, ixT1, ixT2, ixL0, ixL1, isI, q_vlT, q_vlL, q_vlS, q_enT, q_enL, q_zpTT, q_zpTL, q_zpLT, q_zpLL, forD_some, List.set_cons_zero, List.set_cons_succ, List.map_cons, List.map_nil, List.length_cons, List.length_nil, List.cons_append, List.nil_append, List.replicate_succ, List.replicate_zero, Nat.reduceAdd, Nat.reduceSub, Nat.reduceEqDiff, if_true, Option.bind_some, wipeD, j1, j2, fr]
      have nextZ : ∀ z, zn ms place s dd = z → dotZ ms m t place p (s + 1) = dotZ ms m t place p s * z := fun z hz => by
        unfold dotZ; rw [pz, hd, hz]
      have nextD : ∀ z, bn ms place s = z → Dn ms place (s + 1) = Dn ms place s * z := fun z hz => by
        unfold Dn; rw [pz, hz]
      by_cases h1 : s < place
      · have h1' : si < pl := by omega
        have h2' : ¬ si = pl := by omega
        have hl := hless S4 _ _ smo smh
        dsimp only at hl
        rw [fq_less hBp] at hl
        have hm := hmul S4 _ _ smw sml
        dsimp only at hm
        rw [fq_mul hDs.1 hBp] at hm
        simp only [run_eq, ss_nil, ss_cons, s_nm, s_asg, s_par, par2, par3, s_aug, augD_add, augD_sub, s_augIx, augX_add, augX_sub, s_expr, s_ret, s_retN, s_pass, s_brk, s_cont, s_ite, s_for, s_while, seqF_nx, seqF_rt, seqF_bk, seqF_ct, fnD_rt, fnD_nx, g_nm, g_tp, g_ix, gs_nil, gs_cons, e_int, e_bl, e_non, e_str, e_var, getV_0, getV_s, e_gl, opt_some, e_bin, e_neg, negD_int, e_not, notD_bl, e_and, e_or, bE_app, bolD_bl, okM_app, e_cmp, e_chain, chE_app, e_ite, e_tup, e_lst, e_ix, e_rev, e_slA, e_slL, e_slH, e_slLH, sl1_L, sl1_H, sl2_LH, e_call, e_bi, e_mt, e_comp, es_nil, es_cons, ifD_bl, ifD_t, ifD_f, b_ok, b_assoc, fTurn_eq, turn_eq, inT_some, inC_some, soE_app, evT_nil, evT_one, t_nm, t_tp, ts_nil, ts_cons, mkL_f, mkL_t, o_add, o_sub, c_lt, c_le, c_gt, c_ge, c_eqI, c_neI, b_int, b_intB, b_abs, b_max2, b_min2, b_gcd, b_lenT, b_lenL, b_lenS, b_tupT, b_tupL, b_lstT, b_lstL, b_isiT, b_isiI, b_isiB, revT, revL, ixT0, ixT1, ixT2, ixL0, ixL1, isI, q_vlT, q_vlL, q_vlS, q_enT, q_enL, q_zpTT, q_zpTL, q_zpLT, q_zpLL, forD_some, List.set_cons_zero, List.set_cons_succ, List.map_cons, List.map_nil, List.length_cons, List.length_nil, List.cons_append, List.nil_append, List.replicate_succ, List.replicate_zero, Nat.reduceAdd, Nat.reduceSub, Nat.reduceEqDiff, if_true, Option.bind_some, wipeD, h1', h2', decide_true, decide_false, Bool.false_eq_true, if_false, frD_one, hl, hm, WP_ok]
        rw [nextZ (mB ms s - mW ms s dd) (by unfold zn; rw [if_pos h1]), nextD (mB ms s) (by unfold bn; rw [if_pos (by omega)]), ← Int.mul_assoc]
        exact ⟨_, _, _, rfl, trivial⟩
      · have h1' : ¬ si < pl := by omega
        by_cases h2 : s = place
        · have h2' : si = pl := by omega
          have hm := hmul S4 _ _ smw smh
          dsimp only at hm
          rw [fq_mul hDs.1 hBp] at hm
          simp only [run_eq, ss_nil, ss_cons, s_nm, s_asg, s_par, par2, par3, s_aug, augD_add, augD_sub, s_augIx, augX_add, augX_sub, s_expr, s_ret, s_retN, s_pass, s_brk, s_cont, s_ite, s_for, s_while, seqF_nx, seqF_rt, seqF_bk, seqF_ct, fnD_rt, fnD_nx, g_nm, g_tp, g_ix, gs_nil, gs_cons, e_int, e_bl, e_non, e_str, e_var, getV_0, getV_s, e_gl, opt_some, e_bin, e_neg, negD_int, e_not, notD_bl, e_and, e_or, bE_app, bolD_bl, okM_app, e_cmp, e_chain, chE_app, e_ite, e_tup, e_lst, e_ix, e_rev, e_slA, e_slL, e_slH, e_slLH, sl1_L, sl1_H, sl2_LH, e_call, e_bi, e_mt, e_comp, es_nil, es_cons, ifD_bl, ifD_t, ifD_f, b_ok, b_assoc, fTurn_eq, turn_eq, inT_some, inC_some, soE_app, evT_nil, evT_one, t_nm, t_tp, ts_nil, ts_cons, mkL_f, mkL_t, o_add, o_sub, c_lt, c_le, c_gt, c_ge, c_eqI, c_neI, b_int, b_intB, b_abs, b_max2, b_min2, b_gcd, b_lenT, b_lenL, b_lenS, b_tupT, b_tupL, b_lstT, b_lstL, b_isiT, b_isiI, b_isiB, revT, revL, ixT0, ixT1, ixT2, ixL0, ixL1, isI, q_vlT, q_vlL, q_vlS, q_enT, q_enL, q_zpTT, q_zpTL, q_zpLT, q_zpLL, forD_some, List.set_cons_zero, List.set_cons_succ, List.map_cons, List.map_nil, List.length_cons, List.length_nil, List.cons_append, List.nil_append, List.replicate_succ, List.replicate_zero, Nat.reduceAdd, Nat.reduceSub, Nat.reduceEqDiff, if_true, Option.bind_some, wipeD, h1', h2', decide_true, decide_false, Bool.false_eq_true, if_false, hm, WP_ok, Int.lt_irrefl]
          rw [nextZ (mW ms s dd) (by unfold zn; rw [if_neg h1, if_pos h2]), nextD (mB ms s) (by unfold bn; rw [if_pos (by omega)]), ← Int.mul_assoc]
          exact ⟨_, _, _, rfl, trivial⟩
        · have h2' : ¬ si = pl := by omega
          simp only [run_eq, ss_nil, ss_cons, s_nm, s_asg, s_par, par2, par3, s_aug, augD_add, augD_sub, s_augIx, augX_add, augX_sub, s_expr, s_ret, s_retN, s_pass, s_brk, s_cont, s_ite, s_for, s_while, seqF_nx, seqF_rt, seqF_bk, seqF_ct, fnD_rt, fnD_nx, g_nm, g_tp, g_ix, gs_nil, gs_cons, e_int, e_bl, e_non, e_str, e_var, getV_0, getV_s, e_gl, opt_some, e_bin, e_neg, negD_int, e_not, notD_bl, e_and, e_or, bE_app, bolD_bl, okM_app, e_cmp, e_chain, chE_app, e_ite, e_tup, e_lst, e_ix, e_rev, e_slA, e_slL, e_slH, e_slLH, sl1_L, sl1_H, sl2_LH, e_call, e_bi, e_mt, e_comp, es_nil, es_cons, ifD_bl, ifD_t, ifD_f, b_ok, b_assoc, fTurn_eq, turn_eq, inT_some, inC_some, soE_app, evT_nil, evT_one, t_nm, t_tp, ts_nil, ts_cons, mkL_f, mkL_t, o_add, o_sub, c_lt, c_le, c_gt, c_ge, c_eqI, c_neI, b_int, b_intB, b_abs, b_max2, b_min2, b_gcd, b_lenT, b_lenL, b_lenS, b_tupT, b_tupL, b_lstT, b_lstL, b_isiT, b_isiI, b_isiB, revT, revL, ixT0, ixT1, ixT2, ixL0, ixL1, isI, q_vlT, q_vlL, q_vlS, q_enT, q_enL, q_zpTT, q_zpTL, q_zpLT, q_zpLL, forD_some, List.set_cons_zero, List.set_cons_succ, List.map_cons, List.map_nil, List.length_cons, List.length_nil, List.cons_append, List.nil_append, List.replicate_succ, List.replicate_zero, Nat.reduceAdd, Nat.reduceSub, Nat.reduceEqDiff, if_true, Option.bind_some, wipeD, h1', h2', decide_false, Bool.false_eq_true, if_false, WP_ok]
          rw [nextZ 1 (by unfold zn; rw [if_neg h1, if_neg h2]), nextD 1 (by unfold bn; rw [if_neg (by omega)]), Int.mul_one, Int.mul_one]
          exact ⟨_, _, _, rfl, trivial⟩
    · rintro env S4 ⟨e10, e11, e12, rfl, rfl⟩
      rw [enumD_len, List.length_map, dg_len, Nat.zero_add]
      exact ⟨dep_nil, _, _, _, rfl, rfl⟩
    · rintro f S4 ⟨e10, e11, e12, rfl, rfl⟩
      have hDt := Dn_bd (place := place) (n := t) hms (Nat.le_refl t) ht3
      have hzt := dotZ_bd (place := place) (p := p) (n := t) hms (Nat.le_refl t) ht3
      have hp125 : p ≤ 125 := by omega
      have smt : Sm 1000 (fq (SZ ts test ms m t place p) (Dn ms place t)) := sm_fq hDt.1 (nat_abs_lt (SZ_bd hcs hsg hms ht3 hp125) c4.1) (nat_abs_lt (c := Cb ^ 3) (by omega) c4.2.1)
      have smw : Sm 1000 (fq (xv * dotZ ms m t place p t) (Dn ms place t)) := sm_fq hDt.1 (nat_abs_lt (abs_mul_le hxb hzt) c4.2.1) (nat_abs_lt (c := Cb ^ 3) (by omega) c4.2.1)
      have ha := hadd S4 _ _ smt smw
      dsimp only at ha
      rw [fq_add hDt.1] at ha
      simp only [run_eq, ss_nil, ss_cons, s_nm, s_asg, s_par, par2, par3, s_aug, augD_add, augD_sub, s_augIx, augX_add, augX_sub, s_expr, s_ret, s_retN, s_pass, s_brk, s_cont, s_ite, s_for, s_while, seqF_nx, seqF_rt, seqF_bk, seqF_ct, fnD_rt, fnD_nx, g_nm, g_tp, g_ix, gs_nil, gs_cons, e_int, e_bl, e_non, e_str, e_var, getV_0, getV_s, e_gl, opt_some, e_bin, e_neg, negD_int, e_not, notD_bl, e_and, e_or, bE_app, bolD_bl, okM_app, e_cmp, e_chain, chE_app, e_ite, e_tup, e_lst, e_ix, e_rev, e_slA, e_slL, e_slH, e_slLH, sl1_L, sl1_H, sl2_LH, e_call, e_bi, e_mt, e_comp, es_nil, es_cons, ifD_bl, ifD_t, ifD_f, b_ok, b_assoc, fTurn_eq, turn_eq, inT_some, inC_some, soE_app, evT_nil, evT_one, t_nm, t_tp, ts_nil, ts_cons, mkL_f, mkL_t, o_add, o_sub, c_lt, c_le, c_gt, c_ge, c_eqI, c_neI, b_int, b_intB, b_abs, b_max2, b_min2, b_gcd, b_lenT, b_lenL, b_lenS, b_tupT, b_tupL, b_lstT, b_lstL, b_isiT, b_isiI, b_isiB, revT, revL, ixT0, ixT1, ixT2, ixL0, ixL1, isI, q_vlT, q_vlL, q_vlS, q_enT, q_enL, q_zpTT, q_zpTL, q_zpLT, q_zpLL, forD_some, List.set_cons_zero, List.set_cons_succ, List.map_cons, List.map_nil, List.length_cons, List.length_nil, List.cons_append, List.nil_append, List.replicate_succ, List.replicate_zero, Nat.reduceAdd, Nat.reduceSub, Nat.reduceEqDiff, if_true, Option.bind_some, wipeD, ha, WP_ok]
      have : SZ ts test ms m t place (p + 1) = SZ ts test ms m t place p + xv * dotZ ms m t place p t := by
        unfold SZ
        rw [sz, hsd, htv, hxx]
      rw [this]
      exact ⟨_, _, _, _, _, _, rfl, hal3.get hk2, hal2.trans hal3⟩
  · rintro env S2 ⟨e7, e8, e9, e10, e11, e12, rfl, hk2, hal2⟩
    rw [enumD_len, List.length_map, hcl, Nat.zero_add]
    exact ⟨dep_one hk2, _, _, _, _, _, _, rfl, hal2⟩
  · rintro f S2 ⟨e7, e8, e9, e10, e11, e12, rfl, hal2⟩
    simp only [run_eq, ss_nil, ss_cons, s_nm, s_asg, s_par, par2, par3, s_aug, augD_add, augD_sub, s_augIx, augX_add, augX_sub, s_expr, s_ret, s_retN, s_pass, s_brk, s_cont, s_ite, s_for, s_while, seqF_nx, seqF_rt, seqF_bk, seqF_ct, fnD_rt, fnD_nx, g_nm, g_tp, g_ix, gs_nil, gs_cons, e_int, e_bl, e_non, e_str, e_var, getV_0, getV_s, e_gl, opt_some, e_bin, e_neg, negD_int, e_not, notD_bl, e_and, e_or, bE_app, bolD_bl, okM_app, e_cmp, e_chain, chE_app, e_ite, e_tup, e_lst, e_ix, e_rev, e_slA, e_slL, e_slH, e_slLH, sl1_L, sl1_H, sl2_LH, e_call, e_bi, e_mt, e_comp, es_nil, es_cons, ifD_bl, ifD_t, ifD_f, b_ok, b_assoc, fTurn_eq, turn_eq, inT_some, inC_some, soE_app, evT_nil, evT_one, t_nm, t_tp, ts_nil, ts_cons, mkL_f, mkL_t, o_add, o_sub, c_lt, c_le, c_gt, c_ge, c_eqI, c_neI, b_int, b_intB, b_abs, b_max2, b_min2, b_gcd, b_lenT, b_lenL, b_lenS, b_tupT, b_tupL, b_lstT, b_lstL, b_isiT, b_isiI, b_isiB, revT, revL, ixT0, ixT1, ixT2, ixL0, ixL1, isI, q_vlT, q_vlL, q_vlS, q_enT, q_enL, q_zpTT, q_zpTL, q_zpLT, q_zpLL, forD_some, List.set_cons_zero, List.set_cons_succ, List.map_cons, List.map_nil, List.length_cons, List.length_nil, List.cons_append, List.nil_append, List.replicate_succ, List.replicate_zero, Nat.reduceAdd, Nat.reduceSub, Nat.reduceEqDiff, if_true, Option.bind_some, wipeD, WP_ok]
    exact ⟨trivial, hal2⟩
end LW
namespace LW
open PySem L2 Ev
/-! ### the package's sums -/
theorem comp_rg {dp : Deps} {S : Store} {f : D → M (Option D)} (h g : Nat → D) (hd : depOk dp S = true) {n : Nat} (hf : ∀ k, k < n → f (h k) S = .ok (some (g k)) S) : compL dp f ((List.range n).map h) [] S = .ok ((List.range n).map g) S := by
  have : ∀ (l : List Nat) (acc : List D), (∀ k, k ∈ l → k < n) → compL dp f (l.map h) acc S = .ok (acc ++ l.map g) S := by
    intro l
    induction l with
    | nil => intro acc _; simp [compL, hd]
    | cons k l ih =>
      intro acc hl
      simp only [List.map_cons, compL, hd, if_true, hf k (hl k (by simp))]
      rw [ih _ fun j hj => hl j (List.mem_cons_of_mem _ hj)]
      simp
  rw [this _ _ fun k hk => List.mem_range.mp hk]
  simp
theorem rg_ints (n : Nat) (z : Nat → Int) : ((List.range n).map fun a => D.int (z a)) = ((List.range n).map z).map D.int := by rw [List.map_map]; rfl
theorem sum_rg (z : Nat → Int) : ∀ n : Nat, ((List.range n).map z).sum = sz n z
  | 0 => rfl
  | n + 1 => by rw [List.range_succ, List.map_append, List.sum_append, sum_rg z n]; simp [sz]
theorem rg_getD {l : List Int} {m : Nat} (h : l.length = m) : l.map D.int = (List.range m).map fun a => D.int (l.getD a 0) := by
  refine List.ext_getElem? fun i => ?_
  rw [List.getElem?_map, List.getElem?_map]
  by_cases hi : i < m
  · rw [List.getElem?_range hi, List.getElem?_eq_getElem (by omega)]
    simp [List.getD_eq_getElem?_getD, List.getElem?_eq_getElem (show i < l.length by omega)]
  · rw [List.getElem?_eq_none (by omega), List.getElem?_eq_none (by simp; omega)]; rfl
theorem zip_rg {l w : List Int} {m : Nat} (hl : l.length = m) (hw : w.length = m) : zipD (l.map .int) (w.map .int) = (List.range m).map fun a => D.tup [.int (l.getD a 0), .int (w.getD a 0)] := by
  have : ∀ (l w : List Int), l.length = w.length → zipD (l.map .int) (w.map .int) = (List.range l.length).map fun a => D.tup [.int (l.getD a 0), .int (w.getD a 0)] := by
    intro l
    induction l with
    | nil => intro w _; cases w <;> rfl
    | cons x l ih =>
      intro w hw
      cases w with
      | nil => simp at hw
      | cons y w =>
        rw [List.length_cons, List.range_succ_eq_map]
        simp only [List.map_cons, zipD, List.map_map, Function.comp_def]
        rw [ih w (by simpa using hw)]
        simp [Function.comp_def]
  rw [this l w (by omega), hl]
/-- a factor -/
def FcD (d : D) (w : List Int) : Prop := d = tI w ∨ d = .lst (w.map .int)
theorem zipD_get : ∀ {xs ys : List D} {i : Nat} {z : D}, (zipD xs ys)[i]? = some z → ∃ x y, xs[i]? = some x ∧ ys[i]? = some y ∧ z = .tup [x, y]
  | [], _, i, z, h => by simp [zipD] at h
  | _ :: _, [], i, z, h => by simp [zipD] at h
  | x :: xs, y :: ys, 0, z, h => ⟨x, y, rfl, rfl, by simpa [zipD] using h.symm⟩
  | x :: xs, y :: ys, i + 1, z, h => by
    obtain ⟨a, b, h1, h2, h3⟩ := zipD_get (xs := xs) (ys := ys) (i := i) (by simpa [zipD] using h)
    exact ⟨a, b, by simpa using h1, by simpa using h2, h3⟩
theorem zipD_len : ∀ {xs ys : List D}, xs.length = ys.length → (zipD xs ys).length = xs.length
  | [], [], _ => rfl
  | [], _ :: _, h => by simp at h
  | _ :: _, [], h => by simp at h
  | x :: xs, y :: ys, h => by simp [zipD, zipD_len (xs := xs) (ys := ys) (by simpa using h)]
theorem cb_pos : 0 ≤ Cb := by decide
theorem pow_mono {x y : Int} (h0 : 0 ≤ x) (h : x ≤ y) : ∀ n : Nat, x ^ n ≤ y ^ n ∧ 0 ≤ x ^ n
  | 0 => by simp
  | n + 1 => by
    have ih := pow_mono h0 h n
    rw [Int.pow_succ, Int.pow_succ]
    exact ⟨Int.mul_le_mul ih.1 h h0 (Int.le_trans ih.2 ih.1), Int.mul_nonneg ih.2 h0⟩
theorem weighed_spec {C : Ev.Ctx} {S : Store} {m t : Nat} {ts : List (List Int)} {test : List Int} {fv : D} {fs : List D} {ws : Nat → List Int}
    (hts : Ts ts m t) (htl : test.length = m ^ t) (hsg : SgL test) (hrev : doRev false fv S = .ok (.lst fs.reverse) S) (hfl : fs.length = t) (hfs : ∀ s, s < t → ∃ d, fs[s]? = some d ∧ FcD d (ws s) ∧ (ws s).length = m) (hwb : ∀ s a, (ws s).getD a 0 ≤ Cb ∧ 0 ≤ (ws s).getD a 0) :
    runF C fd_weighed_sum [tsD ts, tI test, fv] S = .ok (.int (wA m t (fun s a => gI ts s a * (ws s).getD a 0) (fun j => test.getD j 0) t 0)) S := by
  have lg := lim_ge
  have c4 := cb_400
  have hm1 := hts.m1
  have hm5 := hts.m5
  have ht3 := hts.t3
  have hpw := hts.pow'
  generalize hrow : (fun s a => gI ts s a * (ws s).getD a 0) = row
  generalize hte : (fun j => test.getD j 0) = te
  have hgI : ∀ s a, gI ts s a ≤ 1 ∧ -1 ≤ gI ts s a := fun s a => by
    unfold gI
    rw [List.getD_eq_getElem?_getD (l := ts)]
    cases e : ts[s]? with
    | none => show ([] : List Int).getD a 0 ≤ 1 ∧ -1 ≤ ([] : List Int).getD a 0; simp
    | some l => exact sg_getD (hts.sg l (List.mem_of_getElem? e)) a
  have hrb : ∀ s a, row s a ≤ Cb ∧ -Cb ≤ row s a := fun s a => by
    rw [← hrow]; exact abs_mul_le (hgI s a) ⟨(hwb s a).2, (hwb s a).1⟩
  have hAb : ∀ i j, i ≤ 3 → (wA m t row te i j).natAbs < 2 ^ 1000 := fun i j hi => by
    have h1 := wA_abs (m := m) (t := t) (row := row) (test := te) (c := Cb) (by decide) hrb (fun j => by rw [← hte]; exact sg_getD hsg j) i j
    refine nat_abs_lt (c := ((m : Int) * Cb) ^ i) h1 ?_
    have h3 : ((m : Int) * Cb) ^ i ≤ (5 * Cb) ^ i := (pow_mono (Int.mul_nonneg (by omega) cb_pos) (Int.mul_le_mul_of_nonneg_right (by omega) cb_pos) i).1
    have hi' : i = 0 ∨ i = 1 ∨ i = 2 ∨ i = 3 := by omega
    have h4 : (5 * Cb) ^ i < 2 ^ 400 := by rcases hi' with rfl | rfl | rfl | rfl <;> decide +kernel
    omega
  have hwn : ∀ s a, ((ws s).getD a 0).natAbs < 2 ^ 1000 := fun s a => nat_abs_lt (c := Cb) (by have := hwb s a; have h0 := cb_pos; omega) c4.2.2.1
  have one_400 : (1 : Int) < 2 ^ 400 := by decide +kernel
  have e0 : tsD ts = .tup (ts.map tI) := rfl
  have e1 : tI test = .tup (test.map .int) := rfl
  rw [e0, e1]
  simp only [run_eq, ss_nil, ss_cons, s_nm, s_asg, s_par, par2, par3, s_aug, augD_add, augD_sub, s_augIx, augX_add, augX_sub, s_expr, s_ret, s_retN, s_pass, s_brk, s_cont, s_ite, s_for, s_while, seqF_nx, seqF_rt, seqF_bk, seqF_ct, fnD_rt, fnD_nx, g_nm, g_tp, g_ix, gs_nil, gs_cons, e_int, e_bl, e_non, e_str, e_var, getV_0, getV_s, e_gl, opt_some, e_bin, e_neg, negD_int, e_not, notD_bl, e_and, e_or, bE_app, bolD_bl, okM_app, e_cmp, e_chain, chE_app, e_ite, e_tup, e_lst, e_ix, e_rev, e_slA, e_slL, e_slH, e_slLH, sl1_L, sl1_H, sl2_LH, e_call, e_bi, e_mt, e_comp, es_nil, es_cons, ifD_bl, ifD_t, ifD_f, b_ok, b_assoc, fTurn_eq, turn_eq, inT_some, inC_some, soE_app, evT_nil, evT_one, t_nm, t_tp, ts_nil, ts_cons, mkL_f, mkL_t, o_add, o_sub, c_lt, c_le, c_gt, c_ge, c_eqI, c_neI, b_int, b_intB, b_abs, b_max2, b_min2, b_gcd, b_lenT, b_lenL, b_lenS, b_tupT, b_tupL, b_lstT, b_lstL, b_isiT, b_isiI, b_isiB, revT, revL, ixT0, ixT1, ixT2, ixL0, ixL1, isI, q_vlT, q_vlL, q_vlS, q_enT, q_enL, q_zpTT, q_zpTL, q_zpLT, q_zpLL, forD_some, List.set_cons_zero, List.set_cons_succ, List.map_cons, List.map_nil, List.length_cons, List.length_nil, List.cons_append, List.nil_append, List.replicate_succ, List.replicate_zero, Nat.reduceAdd, Nat.reduceSub, Nat.reduceEqDiff, if_true, Option.bind_some, wipeD, fd_weighed_sum, hrev]
  rw [rg_getD htl]
  have hte' : ∀ a, test.getD a 0 = te a := fun a => by rw [← hte]
  simp only [hte']
  have w := for_inv (S := S) (dp := []) (f := fTurn (.tp [.nm 4, .nm 5]) (evSs C [.asg (.nm 6) (.bi .len false [(.var 4)]), .asg (.nm 7) (.comp false [8, 9] (.tp [(.nm 8), (.nm 9)]) .zp [(.var 4), (.var 5)] [] (.bin .mul false (.var 8) (.var 9))), .asg (.nm 3) (.comp false [10] (.nm 10) .rg1 [(.bin .fdiv false (.bi .len false [(.var 3)]) (.var 6))] [] (.bi .sum false [(.comp false [11] (.nm 11) .rg1 [(.var 6)] [] (.bin .mul false (.ix (.var 7) (.var 11)) (.ix (.var 3) (.bin .add false (.bin .mul false (.var 6) (.var 10)) (.var 11)))))]))]))
    (P := fun f S' => ∃ e4 e5 e6 e7 e8 e9 e10 e11, f = Fl.nx [some (.tup (ts.map tI)), some (.tup (test.map .int)), some fv, some (.lst ((List.range 1).map fun j => .int (wA m t row te t j))), e4, e5, e6, e7, e8, e9, e10, e11] ∧ S' = S)
    (xs := zipD (ts.map tI).reverse fs.reverse)
    (fun i env S' => ∃ e4 e5 e6 e7 e8 e9 e10 e11, env = [some (.tup (ts.map tI)), some (.tup (test.map .int)), some fv, some (.lst ((List.range (m ^ (t - i))).map fun j => .int (wA m t row te i j))), e4, e5, e6, e7, e8, e9, e10, e11] ∧ S' = S) 0
    (env := [some (.tup (ts.map tI)), some (.tup (test.map .int)), some fv, some (.lst ((List.range (m ^ t)).map fun j => .int (te j))), none, none, none, none, none, none, none, none])
    ⟨_, _, _, _, _, _, _, _, rfl, rfl⟩ ?_ ?_
  · obtain ⟨f, S', e, e4, e5, e6, e7, e8, e9, e10, e11, rfl, rfl⟩ := w.get
    rw [rg_getD htl] at e
    simp only [hte'] at e
    simp only [run_eq, ss_nil, ss_cons, s_nm, s_asg, s_par, par2, par3, s_aug, augD_add, augD_sub, s_augIx, augX_add, augX_sub, s_expr, s_ret, s_retN, s_pass, s_brk, s_cont, s_ite, s_for, s_while, seqF_nx, seqF_rt, seqF_bk, seqF_ct, fnD_rt, fnD_nx, g_nm, g_tp, g_ix, gs_nil, gs_cons, e_int, e_bl, e_non, e_str, e_var, getV_0, getV_s, e_gl, opt_some, e_bin, e_neg, negD_int, e_not, notD_bl, e_and, e_or, bE_app, bolD_bl, okM_app, e_cmp, e_chain, chE_app, e_ite, e_tup, e_lst, e_ix, e_rev, e_slA, e_slL, e_slH, e_slLH, sl1_L, sl1_H, sl2_LH, e_call, e_bi, e_mt, e_comp, es_nil, es_cons, ifD_bl, ifD_t, ifD_f, b_ok, b_assoc, fTurn_eq, turn_eq, inT_some, inC_some, soE_app, evT_nil, evT_one, t_nm, t_tp, ts_nil, ts_cons, mkL_f, mkL_t, o_add, o_sub, c_lt, c_le, c_gt, c_ge, c_eqI, c_neI, b_int, b_intB, b_abs, b_max2, b_min2, b_gcd, b_lenT, b_lenL, b_lenS, b_tupT, b_tupL, b_lstT, b_lstL, b_isiT, b_isiI, b_isiB, revT, revL, ixT0, ixT1, ixT2, ixL0, ixL1, isI, q_vlT, q_vlL, q_vlS, q_enT, q_enL, q_zpTT, q_zpTL, q_zpLT, q_zpLL, forD_some, List.set_cons_zero, List.set_cons_succ, List.map_cons, List.map_nil, List.length_cons, List.length_nil, List.cons_append, List.nil_append, List.replicate_succ, List.replicate_zero, Nat.reduceAdd, Nat.reduceSub, Nat.reduceEqDiff, if_true, Option.bind_some, wipeD, e]
    simp [ixL0]
    rfl
  · rintro i env S' x ⟨e4, e5, e6, e7, e8, e9, e10, e11, rfl, rfl⟩ hi _ hx
    refine ⟨dep_nil, ?_⟩
    rw [Nat.sub_zero] at hx
    rw [zipD_len (by simp [hts.num, hfl]), List.length_reverse, List.length_map, hts.num] at hi
    have hit : i < t := by omega
    obtain ⟨a, b, ha, hb, rfl⟩ := zipD_get hx
    rw [List.getElem?_reverse (by simp [hts.num]; omega), List.length_map, hts.num, List.getElem?_map] at ha
    rw [List.getElem?_reverse (by omega), hfl] at hb
    generalize hu : t - 1 - i = u at ha hb
    have hut : u < t := by omega
    obtain ⟨tr, htr, rfl⟩ := Option.map_eq_some_iff.mp ha
    obtain ⟨d, hd, hfc, hwl⟩ := hfs u hut
    rw [hd] at hb; cases hb
    have htrl : tr.length = m := hts.len tr (List.mem_of_getElem? htr)
    have hrowu : ∀ a, row u a = tr.getD a 0 * (ws u).getD a 0 := fun a => by
      have q : gI ts u a = tr.getD a 0 := by unfold gI; rw [List.getD_eq_getElem?_getD (l := ts), htr]; rfl
      rw [← hrow]
      show gI ts u a * _ = _
      rw [q]
    have hzip : srcOf .zp [tI tr, b] S' = some ((List.range m).map fun a => D.tup [.int (tr.getD a 0), .int ((ws u).getD a 0)], []) := by
      rw [← zip_rg htrl hwl]
      rcases hfc with rfl | rfl <;> rfl
    have ln : ∀ mm, doBi .len mm [tI tr] S' = .ok (.int tr.length) S' := fun mm => by unfold tI; rw [b_lenT, List.length_map]
    generalize hmi : (tr.length : Int) = mi at ln
    rw [htrl] at hmi
    have hmp : 0 < mi := by omega
    have hdm : divOk mi = true := divOk_of (a := 200) hmp (by omega) (by decide)
    simp only [run_eq, ss_nil, ss_cons, s_nm, s_asg, s_par, par2, par3, s_aug, augD_add, augD_sub, s_augIx, augX_add, augX_sub, s_expr, s_ret, s_retN, s_pass, s_brk, s_cont, s_ite, s_for, s_while, seqF_nx, seqF_rt, seqF_bk, seqF_ct, fnD_rt, fnD_nx, g_nm, g_tp, g_ix, gs_nil, gs_cons, e_int, e_bl, e_non, e_str, e_var, getV_0, getV_s, e_gl, opt_some, e_bin, e_neg, negD_int, e_not, notD_bl, e_and, e_or, bE_app, bolD_bl, okM_app, e_cmp, e_chain, chE_app, e_ite, e_tup, e_lst, e_ix, e_rev, e_slA, e_slL, e_slH, e_slLH, sl1_L, sl1_H, sl2_LH, e_call, e_bi, e_mt, e_comp, es_nil, es_cons, ifD_bl, ifD_t, ifD_f, b_ok, b_assoc, fTurn_eq, turn_eq, inT_some, inC_some, soE_app, evT_nil, evT_one, t_nm, t_tp, ts_nil, ts_cons, mkL_f, mkL_t, o_add, o_sub, c_lt, c_le, c_gt, c_ge, c_eqI, c_neI, b_int, b_intB, b_abs, b_max2, b_min2, b_gcd, b_lenT, b_lenL, b_lenS, b_tupT, b_tupL, b_lstT, b_lstL, b_isiT, b_isiI, b_isiB, revT, revL, ixT0, ixT1, ixT2, ixL0, ixL1, isI, q_vlT, q_vlL, q_vlS, q_enT, q_enL, q_zpTT, q_zpTL, q_zpLT, q_zpLL, forD_some, List.set_cons_zero, List.set_cons_succ, List.map_cons, List.map_nil, List.length_cons, List.length_nil, List.cons_append, List.nil_append, List.replicate_succ, List.replicate_zero, Nat.reduceAdd, Nat.reduceSub, Nat.reduceEqDiff, if_true, Option.bind_some, wipeD, ln, hzip, compD_some (show ((List.range m).map fun a => D.tup [.int (tr.getD a 0), .int ((ws u).getD a 0)]).length ≤ LIM by simp; omega)]
    rw [comp_rg _ (fun a => .int (row u a)) dep_nil fun a ha => by
      simp only [run_eq, ss_nil, ss_cons, s_nm, s_asg, s_par, par2, par3, s_aug, augD_add, augD_sub, s_augIx, augX_add, augX_sub, s_expr, s_ret, s_retN, s_pass, s_brk, s_cont, s_ite, s_for, s_while, seqF_nx, seqF_rt, seqF_bk, seqF_ct, fnD_rt, fnD_nx, g_nm, g_tp, g_ix, gs_nil, gs_cons, e_int, e_bl, e_non, e_str, e_var, getV_0, getV_s, e_gl, opt_some, e_bin, e_neg, negD_int, e_not, notD_bl, e_and, e_or, bE_app, bolD_bl, okM_app, e_cmp, e_chain, chE_app, e_ite, e_tup, e_lst, e_ix, e_rev, e_slA, e_slL, e_slH, e_slLH, sl1_L, sl1_H, sl2_LH, e_call, e_bi, e_mt, e_comp, es_nil, es_cons, ifD_bl, ifD_t, ifD_f, b_ok, b_assoc, fTurn_eq, turn_eq, inT_some, inC_some, soE_app, evT_nil, evT_one, t_nm, t_tp, ts_nil, ts_cons, mkL_f, mkL_t, o_add, o_sub, c_lt, c_le, c_gt, c_ge, c_eqI, c_neI, b_int, b_intB, b_abs, b_max2, b_min2, b_gcd, b_lenT, b_lenL, b_lenS, b_tupT, b_tupL, b_lstT, b_lstL, b_isiT, b_isiI, b_isiB, revT, revL, ixT0, ixT1, ixT2, ixL0, ixL1, isI, q_vlT, q_vlL, q_vlS, q_enT, q_enL, q_zpTT, q_zpTL, q_zpLT, q_zpLL, forD_some, List.set_cons_zero, List.set_cons_succ, List.map_cons, List.map_nil, List.length_cons, List.length_nil, List.cons_append, List.nil_append, List.replicate_succ, List.replicate_zero, Nat.reduceAdd, Nat.reduceSub, Nat.reduceEqDiff, if_true, Option.bind_some, wipeD, o_mul (mulOk (a := tr.getD a 0) (b := (ws u).getD a 0) (nat_abs_lt (c := 1) (sg_getD (hts.sg tr (List.mem_of_getElem? htr)) a) one_400) (hwn u a))]
      rw [hrowu]]
    have hl3 : ∀ mm, doBi .len mm [.lst ((List.range (m ^ (t - i))).map fun j => D.int (wA m t row te i j))] S' = .ok (.int ((m ^ (t - i) : Nat) : Int)) S' := fun mm => by rw [b_lenL]; simp
    have hpow : m ^ (t - i) = m ^ (t - (i + 1)) * m := by rw [← Nat.pow_succ]; congr 1; omega
    have hdiv : ((m ^ (t - i) : Nat) : Int) / mi = ((m ^ (t - (i + 1)) : Nat) : Int) := by rw [← hmi, hpow]; rw [← Int.natCast_ediv, Nat.mul_div_cancel _ hm1]
    have hple : m ^ (t - (i + 1)) ≤ m ^ t := Nat.pow_le_pow_right hm1 (by omega)
    generalize hLi : ((m ^ (t - i) : Nat) : Int) = Li at hl3 hdiv
    simp only [run_eq, ss_nil, ss_cons, s_nm, s_asg, s_par, par2, par3, s_aug, augD_add, augD_sub, s_augIx, augX_add, augX_sub, s_expr, s_ret, s_retN, s_pass, s_brk, s_cont, s_ite, s_for, s_while, seqF_nx, seqF_rt, seqF_bk, seqF_ct, fnD_rt, fnD_nx, g_nm, g_tp, g_ix, gs_nil, gs_cons, e_int, e_bl, e_non, e_str, e_var, getV_0, getV_s, e_gl, opt_some, e_bin, e_neg, negD_int, e_not, notD_bl, e_and, e_or, bE_app, bolD_bl, okM_app, e_cmp, e_chain, chE_app, e_ite, e_tup, e_lst, e_ix, e_rev, e_slA, e_slL, e_slH, e_slLH, sl1_L, sl1_H, sl2_LH, e_call, e_bi, e_mt, e_comp, es_nil, es_cons, ifD_bl, ifD_t, ifD_f, b_ok, b_assoc, fTurn_eq, turn_eq, inT_some, inC_some, soE_app, evT_nil, evT_one, t_nm, t_tp, ts_nil, ts_cons, mkL_f, mkL_t, o_add, o_sub, c_lt, c_le, c_gt, c_ge, c_eqI, c_neI, b_int, b_intB, b_abs, b_max2, b_min2, b_gcd, b_lenT, b_lenL, b_lenS, b_tupT, b_tupL, b_lstT, b_lstL, b_isiT, b_isiI, b_isiB, revT, revL, ixT0, ixT1, ixT2, ixL0, ixL1, isI, q_vlT, q_vlL, q_vlS, q_enT, q_enL, q_zpTT, q_zpTL, q_zpLT, q_zpLL, forD_some, List.set_cons_zero, List.set_cons_succ, List.map_cons, List.map_nil, List.length_cons, List.length_nil, List.cons_append, List.nil_append, List.replicate_succ, List.replicate_zero, Nat.reduceAdd, Nat.reduceSub, Nat.reduceEqDiff, if_true, Option.bind_some, wipeD, hl3, o_fdiv hdm hmp]
    rw [q_rg1' hdiv (show m ^ (t - (i + 1)) ≤ LIM by omega)]
    simp only [run_eq, ss_nil, ss_cons, s_nm, s_asg, s_par, par2, par3, s_aug, augD_add, augD_sub, s_augIx, augX_add, augX_sub, s_expr, s_ret, s_retN, s_pass, s_brk, s_cont, s_ite, s_for, s_while, seqF_nx, seqF_rt, seqF_bk, seqF_ct, fnD_rt, fnD_nx, g_nm, g_tp, g_ix, gs_nil, gs_cons, e_int, e_bl, e_non, e_str, e_var, getV_0, getV_s, e_gl, opt_some, e_bin, e_neg, negD_int, e_not, notD_bl, e_and, e_or, bE_app, bolD_bl, okM_app, e_cmp, e_chain, chE_app, e_ite, e_tup, e_lst, e_ix, e_rev, e_slA, e_slL, e_slH, e_slLH, sl1_L, sl1_H, sl2_LH, e_call, e_bi, e_mt, e_comp, es_nil, es_cons, ifD_bl, ifD_t, ifD_f, b_ok, b_assoc, fTurn_eq, turn_eq, inT_some, inC_some, soE_app, evT_nil, evT_one, t_nm, t_tp, ts_nil, ts_cons, mkL_f, mkL_t, o_add, o_sub, c_lt, c_le, c_gt, c_ge, c_eqI, c_neI, b_int, b_intB, b_abs, b_max2, b_min2, b_gcd, b_lenT, b_lenL, b_lenS, b_tupT, b_tupL, b_lstT, b_lstL, b_isiT, b_isiI, b_isiB, revT, revL, ixT0, ixT1, ixT2, ixL0, ixL1, isI, q_vlT, q_vlL, q_vlS, q_enT, q_enL, q_zpTT, q_zpTL, q_zpLT, q_zpLL, forD_some, List.set_cons_zero, List.set_cons_succ, List.map_cons, List.map_nil, List.length_cons, List.length_nil, List.cons_append, List.nil_append, List.replicate_succ, List.replicate_zero, Nat.reduceAdd, Nat.reduceSub, Nat.reduceEqDiff, if_true, Option.bind_some, wipeD, compD_some (show (natsD (m ^ (t - (i + 1)))).length ≤ LIM by rw [natsD_len]; omega)]
    rw [comp_nat (fun j => .int (wA m t row te (i + 1) j)) dep_nil fun j hj => by
      generalize hji : (j : Int) = ji
      simp only [run_eq, ss_nil, ss_cons, s_nm, s_asg, s_par, par2, par3, s_aug, augD_add, augD_sub, s_augIx, augX_add, augX_sub, s_expr, s_ret, s_retN, s_pass, s_brk, s_cont, s_ite, s_for, s_while, seqF_nx, seqF_rt, seqF_bk, seqF_ct, fnD_rt, fnD_nx, g_nm, g_tp, g_ix, gs_nil, gs_cons, e_int, e_bl, e_non, e_str, e_var, getV_0, getV_s, e_gl, opt_some, e_bin, e_neg, negD_int, e_not, notD_bl, e_and, e_or, bE_app, bolD_bl, okM_app, e_cmp, e_chain, chE_app, e_ite, e_tup, e_lst, e_ix, e_rev, e_slA, e_slL, e_slH, e_slLH, sl1_L, sl1_H, sl2_LH, e_call, e_bi, e_mt, e_comp, es_nil, es_cons, ifD_bl, ifD_t, ifD_f, b_ok, b_assoc, fTurn_eq, turn_eq, inT_some, inC_some, soE_app, evT_nil, evT_one, t_nm, t_tp, ts_nil, ts_cons, mkL_f, mkL_t, o_add, o_sub, c_lt, c_le, c_gt, c_ge, c_eqI, c_neI, b_int, b_intB, b_abs, b_max2, b_min2, b_gcd, b_lenT, b_lenL, b_lenS, b_tupT, b_tupL, b_lstT, b_lstL, b_isiT, b_isiI, b_isiB, revT, revL, ixT0, ixT1, ixT2, ixL0, ixL1, isI, q_vlT, q_vlL, q_vlS, q_enT, q_enL, q_zpTT, q_zpTL, q_zpLT, q_zpLL, forD_some, List.set_cons_zero, List.set_cons_succ, List.map_cons, List.map_nil, List.length_cons, List.length_nil, List.cons_append, List.nil_append, List.replicate_succ, List.replicate_zero, Nat.reduceAdd, Nat.reduceSub, Nat.reduceEqDiff, if_true, Option.bind_some, wipeD, q_rg1' hmi.symm (show m ≤ LIM by omega), compD_some (show (natsD m).length ≤ LIM by rw [natsD_len]; omega)]
      rw [comp_nat (fun a => .int (row u a * wA m t row te i (m * j + a))) dep_nil fun a ha => by
        generalize hai : (a : Int) = ai
        have k1 : ∀ S, doIx (.lst ((List.range m).map fun a => D.int (row u a))) (.int ai) S = .ok (.int (row u a)) S := fun S => ixL' hai.symm (by rw [List.getElem?_map, List.getElem?_range ha]; rfl)
        have hlt : m * j + a < m ^ (t - i) := by
          rw [hpow, Nat.mul_comm (m ^ _) m]
          have : m * (j + 1) ≤ m * m ^ (t - (i + 1)) := Nat.mul_le_mul_left m hj
          rw [Nat.mul_succ] at this
          omega
        have k2 : ∀ S, doIx (.lst ((List.range (m ^ (t - i))).map fun j => D.int (wA m t row te i j))) (.int (mi * ji + ai)) S = .ok (.int (wA m t row te i (m * j + a))) S := fun S =>
          ixL' (k := m * j + a) (by rw [← hmi, ← hji, ← hai]; push_cast; rfl) (by rw [List.getElem?_map, List.getElem?_range hlt]; rfl)
        have hj200 : j < 200 := by omega
        have k3 : big2 mi ji = true := big2_of (a := 200) (b := 200) (by omega) (by omega) (by decide)
        simp only [run_eq, ss_nil, ss_cons, s_nm, s_asg, s_par, par2, par3, s_aug, augD_add, augD_sub, s_augIx, augX_add, augX_sub, s_expr, s_ret, s_retN, s_pass, s_brk, s_cont, s_ite, s_for, s_while, seqF_nx, seqF_rt, seqF_bk, seqF_ct, fnD_rt, fnD_nx, g_nm, g_tp, g_ix, gs_nil, gs_cons, e_int, e_bl, e_non, e_str, e_var, getV_0, getV_s, e_gl, opt_some, e_bin, e_neg, negD_int, e_not, notD_bl, e_and, e_or, bE_app, bolD_bl, okM_app, e_cmp, e_chain, chE_app, e_ite, e_tup, e_lst, e_ix, e_rev, e_slA, e_slL, e_slH, e_slLH, sl1_L, sl1_H, sl2_LH, e_call, e_bi, e_mt, e_comp, es_nil, es_cons, ifD_bl, ifD_t, ifD_f, b_ok, b_assoc, fTurn_eq, turn_eq, inT_some, inC_some, soE_app, evT_nil, evT_one, t_nm, t_tp, ts_nil, ts_cons, mkL_f, mkL_t, o_add, o_sub, c_lt, c_le, c_gt, c_ge, c_eqI, c_neI, b_int, b_intB, b_abs, b_max2, b_min2, b_gcd, b_lenT, b_lenL, b_lenS, b_tupT, b_tupL, b_lstT, b_lstL, b_isiT, b_isiI, b_isiB, revT, revL, ixT0, ixT1, ixT2, ixL0, ixL1, isI, q_vlT, q_vlL, q_vlS, q_enT, q_enL, q_zpTT, q_zpTL, q_zpLT, q_zpLL, forD_some, List.set_cons_zero, List.set_cons_succ, List.map_cons, List.map_nil, List.length_cons, List.length_nil, List.cons_append, List.nil_append, List.replicate_succ, List.replicate_zero, Nat.reduceAdd, Nat.reduceSub, Nat.reduceEqDiff, if_true, Option.bind_some, wipeD, k1, o_mul k3, k2, o_mul (mulOk (nat_abs_lt (hrb u a) c4.2.2.1) (hAb i (m * j + a) (by omega)))]]
      rw [rg_ints]
      simp only [run_eq, ss_nil, ss_cons, s_nm, s_asg, s_par, par2, par3, s_aug, augD_add, augD_sub, s_augIx, augX_add, augX_sub, s_expr, s_ret, s_retN, s_pass, s_brk, s_cont, s_ite, s_for, s_while, seqF_nx, seqF_rt, seqF_bk, seqF_ct, fnD_rt, fnD_nx, g_nm, g_tp, g_ix, gs_nil, gs_cons, e_int, e_bl, e_non, e_str, e_var, getV_0, getV_s, e_gl, opt_some, e_bin, e_neg, negD_int, e_not, notD_bl, e_and, e_or, bE_app, bolD_bl, okM_app, e_cmp, e_chain, chE_app, e_ite, e_tup, e_lst, e_ix, e_rev, e_slA, e_slL, e_slH, e_slLH, sl1_L, sl1_H, sl2_LH, e_call, e_bi, e_mt, e_comp, es_nil, es_cons, ifD_bl, ifD_t, ifD_f, b_ok, b_assoc, fTurn_eq, turn_eq, inT_some, inC_some, soE_app, evT_nil, evT_one, t_nm, t_tp, ts_nil, ts_cons, mkL_f, mkL_t, o_add, o_sub, c_lt, c_le, c_gt, c_ge, c_eqI, c_neI, b_int, b_intB, b_abs, b_max2, b_min2, b_gcd, b_lenT, b_lenL, b_lenS, b_tupT, b_tupL, b_lstT, b_lstL, b_isiT, b_isiI, b_isiB, revT, revL, ixT0, ixT1, ixT2, ixL0, ixL1, isI, q_vlT, q_vlL, q_vlS, q_enT, q_enL, q_zpTT, q_zpTL, q_zpLT, q_zpLL, forD_some, List.set_cons_zero, List.set_cons_succ, List.map_cons, List.map_nil, List.length_cons, List.length_nil, List.cons_append, List.nil_append, List.replicate_succ, List.replicate_zero, Nat.reduceAdd, Nat.reduceSub, Nat.reduceEqDiff, if_true, Option.bind_some, wipeD, b_sumL, sum_rg]
      rw [wA, hu]]
    simp only [run_eq, ss_nil, ss_cons, s_nm, s_asg, s_par, par2, par3, s_aug, augD_add, augD_sub, s_augIx, augX_add, augX_sub, s_expr, s_ret, s_retN, s_pass, s_brk, s_cont, s_ite, s_for, s_while, seqF_nx, seqF_rt, seqF_bk, seqF_ct, fnD_rt, fnD_nx, g_nm, g_tp, g_ix, gs_nil, gs_cons, e_int, e_bl, e_non, e_str, e_var, getV_0, getV_s, e_gl, opt_some, e_bin, e_neg, negD_int, e_not, notD_bl, e_and, e_or, bE_app, bolD_bl, okM_app, e_cmp, e_chain, chE_app, e_ite, e_tup, e_lst, e_ix, e_rev, e_slA, e_slL, e_slH, e_slLH, sl1_L, sl1_H, sl2_LH, e_call, e_bi, e_mt, e_comp, es_nil, es_cons, ifD_bl, ifD_t, ifD_f, b_ok, b_assoc, fTurn_eq, turn_eq, inT_some, inC_some, soE_app, evT_nil, evT_one, t_nm, t_tp, ts_nil, ts_cons, mkL_f, mkL_t, o_add, o_sub, c_lt, c_le, c_gt, c_ge, c_eqI, c_neI, b_int, b_intB, b_abs, b_max2, b_min2, b_gcd, b_lenT, b_lenL, b_lenS, b_tupT, b_tupL, b_lstT, b_lstL, b_isiT, b_isiI, b_isiB, revT, revL, ixT0, ixT1, ixT2, ixL0, ixL1, isI, q_vlT, q_vlL, q_vlS, q_enT, q_enL, q_zpTT, q_zpTL, q_zpLT, q_zpLL, forD_some, List.set_cons_zero, List.set_cons_succ, List.map_cons, List.map_nil, List.length_cons, List.length_nil, List.cons_append, List.nil_append, List.replicate_succ, List.replicate_zero, Nat.reduceAdd, Nat.reduceSub, Nat.reduceEqDiff, if_true, Option.bind_some, wipeD, WP_ok]
    exact ⟨_, _, _, _, _, _, _, _, rfl, trivial⟩
  · rintro env S' ⟨e4, e5, e6, e7, e8, e9, e10, e11, rfl, rfl⟩
    rw [zipD_len (by simp [hts.num, hfl]), List.length_reverse, List.length_map, hts.num, Nat.zero_add, Nat.sub_self]
    exact ⟨dep_nil, _, _, _, _, _, _, _, _, rfl, rfl⟩
end LW
namespace LW
open PySem L2 Ev
theorem eq_of_WP {α : Type} {r : Rs α} {x : α} {S : Store} (h : WP r fun a S' => a = x ∧ S' = S) : r = .ok x S := by
  obtain ⟨a, S', e, rfl, rfl⟩ := h.get
  exact e
theorem all_true {α : Type} {S : Store} {m : Bool} {l : List α} : doBi .all m [.lst (l.map fun _ => D.bl true)] S = .ok (.bl true) S := by
  have e : (l.map fun _ => D.bl true) = (l.map fun _ => true).map D.bl := by rw [List.map_map]; rfl
  rw [e, b_allL]
  have : (l.map fun _ => true).all id = true := by simp
  rw [this]
theorem comp_true {α : Type} {S : Store} {f : D → M (Option D)} (h : α → D) (l : List α) (hf : ∀ x, x ∈ l → f (h x) S = .ok (some (.bl true)) S) : compL [] f (l.map h) [] S = .ok (l.map fun _ => D.bl true) S := by
  have : ∀ (l : List α) (acc : List D), (∀ x, x ∈ l → f (h x) S = .ok (some (.bl true)) S) → compL [] f (l.map h) acc S = .ok (acc ++ l.map fun _ => D.bl true) S := by
    intro l
    induction l with
    | nil => intro acc _; simp [compL, dep_nil]
    | cons k l ih =>
      intro acc hl
      simp only [List.map_cons, compL, dep_nil, if_true, hl k (by simp)]
      rw [ih _ fun j hj => hl j (List.mem_cons_of_mem _ hj)]
      simp
  rw [this l [] hf]; simp
/-! ### the package's own checks -/
def WOk (cl : Nat → List D → M D) : Prop := ∀ (S : Store) (i : Int), cl 1 [.int i] S = .ok (.bl true) S
theorem whole_spec {C : Ev.Ctx} {S : Store} {i : Int} : runF C fd_is_whole [.int i] S = .ok (.bl true) S := by
  simp only [run_eq, ss_nil, ss_cons, s_nm, s_asg, s_par, par2, par3, s_aug, augD_add, augD_sub, s_augIx, augX_add, augX_sub, s_expr, s_ret, s_retN, s_pass, s_brk, s_cont, s_ite, s_for, s_while, seqF_nx, seqF_rt, seqF_bk, seqF_ct, fnD_rt, fnD_nx, g_nm, g_tp, g_ix, gs_nil, gs_cons, e_int, e_bl, e_non, e_str, e_var, getV_0, getV_s, e_gl, opt_some, e_bin, e_neg, negD_int, e_not, notD_bl, e_and, e_or, bE_app, bolD_bl, okM_app, e_cmp, e_chain, chE_app, e_ite, e_tup, e_lst, e_ix, e_rev, e_slA, e_slL, e_slH, e_slLH, sl1_L, sl1_H, sl2_LH, e_call, e_bi, e_mt, e_comp, es_nil, es_cons, ifD_bl, ifD_t, ifD_f, b_ok, b_assoc, fTurn_eq, turn_eq, inT_some, inC_some, soE_app, evT_nil, evT_one, t_nm, t_tp, ts_nil, ts_cons, mkL_f, mkL_t, o_add, o_sub, c_lt, c_le, c_gt, c_ge, c_eqI, c_neI, b_int, b_intB, b_abs, b_max2, b_min2, b_gcd, b_lenT, b_lenL, b_lenS, b_tupT, b_tupL, b_lstT, b_lstL, b_isiT, b_isiI, b_isiB, revT, revL, ixT0, ixT1, ixT2, ixL0, ixL1, isI, q_vlT, q_vlL, q_vlS, q_enT, q_enL, q_zpTT, q_zpTL, q_zpLT, q_zpLL, forD_some, List.set_cons_zero, List.set_cons_succ, List.map_cons, List.map_nil, List.length_cons, List.length_nil, List.cons_append, List.nil_append, List.replicate_succ, List.replicate_zero, Nat.reduceAdd, Nat.reduceSub, Nat.reduceEqDiff, if_true, Option.bind_some, wipeD, fd_is_whole, Bool.not_false]
def POk (cl : Nat → List D → M D) : Prop := ∀ (S : Store) (m t : Nat) (mi ti : Int), mi = (m : Int) → ti = (t : Int) → 1 ≤ m → m ≤ 5 → t ≤ 3 → cl 2 [.int mi, .int ti] S = .ok (.int ((m ^ t : Nat) : Int)) S
theorem power_spec {C : Ev.Ctx} {S : Store} {m t : Nat} {mi ti : Int} (h1 : mi = (m : Int)) (h2 : ti = (t : Int)) (hm1 : 1 ≤ m) (hm : m ≤ 5) (ht : t ≤ 3) : runF C fd_power_of [.int mi, .int ti] S = .ok (.int ((m ^ t : Nat) : Int)) S := by
  have lg := lim_ge
  refine eq_of_WP ?_
  simp only [run_eq, ss_nil, ss_cons, s_nm, s_asg, s_par, par2, par3, s_aug, augD_add, augD_sub, s_augIx, augX_add, augX_sub, s_expr, s_ret, s_retN, s_pass, s_brk, s_cont, s_ite, s_for, s_while, seqF_nx, seqF_rt, seqF_bk, seqF_ct, fnD_rt, fnD_nx, g_nm, g_tp, g_ix, gs_nil, gs_cons, e_int, e_bl, e_non, e_str, e_var, getV_0, getV_s, e_gl, opt_some, e_bin, e_neg, negD_int, e_not, notD_bl, e_and, e_or, bE_app, bolD_bl, okM_app, e_cmp, e_chain, chE_app, e_ite, e_tup, e_lst, e_ix, e_rev, e_slA, e_slL, e_slH, e_slLH, sl1_L, sl1_H, sl2_LH, e_call, e_bi, e_mt, e_comp, es_nil, es_cons, ifD_bl, ifD_t, ifD_f, b_ok, b_assoc, fTurn_eq, turn_eq, inT_some, inC_some, soE_app, evT_nil, evT_one, t_nm, t_tp, ts_nil, ts_cons, mkL_f, mkL_t, o_add, o_sub, c_lt, c_le, c_gt, c_ge, c_eqI, c_neI, b_int, b_intB, b_abs, b_max2, b_min2, b_gcd, b_lenT, b_lenL, b_lenS, b_tupT, b_tupL, b_lstT, b_lstL, b_isiT, b_isiI, b_isiB, revT, revL, ixT0, ixT1, ixT2, ixL0, ixL1, isI, q_vlT, q_vlL, q_vlS, q_enT, q_enL, q_zpTT, q_zpTL, q_zpLT, q_zpLL, forD_some, List.set_cons_zero, List.set_cons_succ, List.map_cons, List.map_nil, List.length_cons, List.length_nil, List.cons_append, List.nil_append, List.replicate_succ, List.replicate_zero, Nat.reduceAdd, Nat.reduceSub, Nat.reduceEqDiff, if_true, Option.bind_some, wipeD, fd_power_of, q_rg1' h2 (show t ≤ LIM by omega)]
  refine WP_call (for_inv (P := fun f S' => ∃ e3 p, f = Fl.nx [some (.int mi), some (.int ti), some (.int p), e3] ∧ p = ((m ^ t : Nat) : Int) ∧ S' = S)
    (fun i env S' => ∃ e3 p, env = [some (.int mi), some (.int ti), some (.int p), e3] ∧ p = ((m ^ i : Nat) : Int) ∧ S' = S) 0 ⟨none, 1, rfl, rfl, rfl⟩ ?_ ?_) ?_
  · rintro i env S' x ⟨e3, p, rfl, hp, rfl⟩ hi _ hx
    obtain ⟨rfl, hi2⟩ := natsD_get hx
    have hb : m ^ i ≤ 125 := by
      have a1 : m ^ i ≤ 5 ^ i := Nat.pow_le_pow_left hm i
      have a2 : (5 : Nat) ^ i ≤ 5 ^ 3 := Nat.pow_le_pow_right (by decide) (by omega)
      have a3 : (5 : Nat) ^ 3 = 125 := by decide
      omega
    refine ⟨dep_nil, ?_⟩
    simp only [run_eq, ss_nil, ss_cons, s_nm, s_asg, s_par, par2, par3, s_aug, augD_add, augD_sub, s_augIx, augX_add, augX_sub, s_expr, s_ret, s_retN, s_pass, s_brk, s_cont, s_ite, s_for, s_while, seqF_nx, seqF_rt, seqF_bk, seqF_ct, fnD_rt, fnD_nx, g_nm, g_tp, g_ix, gs_nil, gs_cons, e_int, e_bl, e_non, e_str, e_var, getV_0, getV_s, e_gl, opt_some, e_bin, e_neg, negD_int, e_not, notD_bl, e_and, e_or, bE_app, bolD_bl, okM_app, e_cmp, e_chain, chE_app, e_ite, e_tup, e_lst, e_ix, e_rev, e_slA, e_slL, e_slH, e_slLH, sl1_L, sl1_H, sl2_LH, e_call, e_bi, e_mt, e_comp, es_nil, es_cons, ifD_bl, ifD_t, ifD_f, b_ok, b_assoc, fTurn_eq, turn_eq, inT_some, inC_some, soE_app, evT_nil, evT_one, t_nm, t_tp, ts_nil, ts_cons, mkL_f, mkL_t, o_add, o_sub, c_lt, c_le, c_gt, c_ge, c_eqI, c_neI, b_int, b_intB, b_abs, b_max2, b_min2, b_gcd, b_lenT, b_lenL, b_lenS, b_tupT, b_tupL, b_lstT, b_lstL, b_isiT, b_isiI, b_isiB, revT, revL, ixT0, ixT1, ixT2, ixL0, ixL1, isI, q_vlT, q_vlL, q_vlS, q_enT, q_enL, q_zpTT, q_zpTL, q_zpLT, q_zpLL, forD_some, List.set_cons_zero, List.set_cons_succ, List.map_cons, List.map_nil, List.length_cons, List.length_nil, List.cons_append, List.nil_append, List.replicate_succ, List.replicate_zero, Nat.reduceAdd, Nat.reduceSub, Nat.reduceEqDiff, if_true, Option.bind_some, wipeD, o_mul (big2_of (i := p) (j := mi) (a := 20) (b := 20) (by omega) (by omega) (by decide)), WP_ok]
    exact ⟨_, _, rfl, by rw [hp, h1, Nat.pow_succ]; push_cast; rfl, trivial⟩
  · rintro env S' ⟨e3, p, rfl, hp, rfl⟩
    rw [natsD_len, Nat.zero_add] at hp
    exact ⟨dep_nil, e3, p, rfl, hp, rfl⟩
  · rintro f S' ⟨e3, p, rfl, hp, rfl⟩
    simp only [run_eq, ss_nil, ss_cons, s_nm, s_asg, s_par, par2, par3, s_aug, augD_add, augD_sub, s_augIx, augX_add, augX_sub, s_expr, s_ret, s_retN, s_pass, s_brk, s_cont, s_ite, s_for, s_while, seqF_nx, seqF_rt, seqF_bk, seqF_ct, fnD_rt, fnD_nx, g_nm, g_tp, g_ix, gs_nil, gs_cons, e_int, e_bl, e_non, e_str, e_var, getV_0, getV_s, e_gl, opt_some, e_bin, e_neg, negD_int, e_not, notD_bl, e_and, e_or, bE_app, bolD_bl, okM_app, e_cmp, e_chain, chE_app, e_ite, e_tup, e_lst, e_ix, e_rev, e_slA, e_slL, e_slH, e_slLH, sl1_L, sl1_H, sl2_LH, e_call, e_bi, e_mt, e_comp, es_nil, es_cons, ifD_bl, ifD_t, ifD_f, b_ok, b_assoc, fTurn_eq, turn_eq, inT_some, inC_some, soE_app, evT_nil, evT_one, t_nm, t_tp, ts_nil, ts_cons, mkL_f, mkL_t, o_add, o_sub, c_lt, c_le, c_gt, c_ge, c_eqI, c_neI, b_int, b_intB, b_abs, b_max2, b_min2, b_gcd, b_lenT, b_lenL, b_lenS, b_tupT, b_tupL, b_lstT, b_lstL, b_isiT, b_isiI, b_isiB, revT, revL, ixT0, ixT1, ixT2, ixL0, ixL1, isI, q_vlT, q_vlL, q_vlS, q_enT, q_enL, q_zpTT, q_zpTL, q_zpLT, q_zpLL, forD_some, List.set_cons_zero, List.set_cons_succ, List.map_cons, List.map_nil, List.length_cons, List.length_nil, List.cons_append, List.nil_append, List.replicate_succ, List.replicate_zero, Nat.reduceAdd, Nat.reduceSub, Nat.reduceEqDiff, if_true, Option.bind_some, wipeD, WP_ok]
    exact ⟨by rw [hp], trivial⟩
theorem fracin_spec {C : Ev.Ctx} {S : Store} {t b : Int} (hb : 0 < b) (hb2 : b < 2 ^ 8000) : runF C fd_fraction_in [.int t, .int b] S = .ok (frD ((t : Rat) / (b : Rat))) S := by
  have hg := gcd_pos t b hb
  have hl := gcd_le t b hb
  rw [← frD_mk t b hb]
  have e : (Nat.gcd t.natAbs b.natAbs : Int) = (Int.gcd t b : Int) := rfl
  simp only [run_eq, ss_nil, ss_cons, s_nm, s_asg, s_par, par2, par3, s_aug, augD_add, augD_sub, s_augIx, augX_add, augX_sub, s_expr, s_ret, s_retN, s_pass, s_brk, s_cont, s_ite, s_for, s_while, seqF_nx, seqF_rt, seqF_bk, seqF_ct, fnD_rt, fnD_nx, g_nm, g_tp, g_ix, gs_nil, gs_cons, e_int, e_bl, e_non, e_str, e_var, getV_0, getV_s, e_gl, opt_some, e_bin, e_neg, negD_int, e_not, notD_bl, e_and, e_or, bE_app, bolD_bl, okM_app, e_cmp, e_chain, chE_app, e_ite, e_tup, e_lst, e_ix, e_rev, e_slA, e_slL, e_slH, e_slLH, sl1_L, sl1_H, sl2_LH, e_call, e_bi, e_mt, e_comp, es_nil, es_cons, ifD_bl, ifD_t, ifD_f, b_ok, b_assoc, fTurn_eq, turn_eq, inT_some, inC_some, soE_app, evT_nil, evT_one, t_nm, t_tp, ts_nil, ts_cons, mkL_f, mkL_t, o_add, o_sub, c_lt, c_le, c_gt, c_ge, c_eqI, c_neI, b_int, b_intB, b_abs, b_max2, b_min2, b_gcd, b_lenT, b_lenL, b_lenS, b_tupT, b_tupL, b_lstT, b_lstL, b_isiT, b_isiI, b_isiB, revT, revL, ixT0, ixT1, ixT2, ixL0, ixL1, isI, q_vlT, q_vlL, q_vlS, q_enT, q_enL, q_zpTT, q_zpTL, q_zpLT, q_zpLL, forD_some, List.set_cons_zero, List.set_cons_succ, List.map_cons, List.map_nil, List.length_cons, List.length_nil, List.cons_append, List.nil_append, List.replicate_succ, List.replicate_zero, Nat.reduceAdd, Nat.reduceSub, Nat.reduceEqDiff, if_true, Option.bind_some, wipeD, fd_fraction_in, hb, decide_true, e]
  generalize (Int.gcd t b : Int) = g at hg hl
  have hd : divOk g = true := divOk_of (a := 8000) hg (by omega) (by decide)
  simp only [run_eq, ss_nil, ss_cons, s_nm, s_asg, s_par, par2, par3, s_aug, augD_add, augD_sub, s_augIx, augX_add, augX_sub, s_expr, s_ret, s_retN, s_pass, s_brk, s_cont, s_ite, s_for, s_while, seqF_nx, seqF_rt, seqF_bk, seqF_ct, fnD_rt, fnD_nx, g_nm, g_tp, g_ix, gs_nil, gs_cons, e_int, e_bl, e_non, e_str, e_var, getV_0, getV_s, e_gl, opt_some, e_bin, e_neg, negD_int, e_not, notD_bl, e_and, e_or, bE_app, bolD_bl, okM_app, e_cmp, e_chain, chE_app, e_ite, e_tup, e_lst, e_ix, e_rev, e_slA, e_slL, e_slH, e_slLH, sl1_L, sl1_H, sl2_LH, e_call, e_bi, e_mt, e_comp, es_nil, es_cons, ifD_bl, ifD_t, ifD_f, b_ok, b_assoc, fTurn_eq, turn_eq, inT_some, inC_some, soE_app, evT_nil, evT_one, t_nm, t_tp, ts_nil, ts_cons, mkL_f, mkL_t, o_add, o_sub, c_lt, c_le, c_gt, c_ge, c_eqI, c_neI, b_int, b_intB, b_abs, b_max2, b_min2, b_gcd, b_lenT, b_lenL, b_lenS, b_tupT, b_tupL, b_lstT, b_lstL, b_isiT, b_isiI, b_isiB, revT, revL, ixT0, ixT1, ixT2, ixL0, ixL1, isI, q_vlT, q_vlL, q_vlS, q_enT, q_enL, q_zpTT, q_zpTL, q_zpLT, q_zpLL, forD_some, List.set_cons_zero, List.set_cons_succ, List.map_cons, List.map_nil, List.length_cons, List.length_nil, List.cons_append, List.nil_append, List.replicate_succ, List.replicate_zero, Nat.reduceAdd, Nat.reduceSub, Nat.reduceEqDiff, if_true, Option.bind_some, wipeD, o_fdiv hd hg]
def RowOk (cl : Nat → List D → M D) : Prop := ∀ (S : Store) (p : Int × List Int) (m : Nat) (mi : Int), mi = (m : Int) → m ≤ 5 → Ms p.1 p.2 m → cl 4 [.int mi, msD p] S = .ok (.bl true) S
theorem lenI {S : Store} {l : List Int} {m : Bool} : doBi .len m [tI l] S = .ok (.int (l.length : Int)) S := by unfold tI; rw [b_lenT, List.length_map]
theorem row_spec {C : Ev.Ctx} {S : Store} {p : Int × List Int} {m : Nat} {mi : Int} (hg : C.gv 0 = some (.int 2)) (hw : WOk C.cl) (h1 : mi = (m : Int)) (hm : m ≤ 5) (hp : Ms p.1 p.2 m) : runF C fd_is_row_in [.int mi, msD p] S = .ok (.bl true) S := by
  have lg := lim_ge
  have e2 : ((2 : Nat) : Int) = 2 := rfl
  have hpos : ¬ p.1 < 1 := by have := hp.pos; omega
  have hlen : (p.2.length : Int) = mi := by rw [hp.len, h1]
  have ti : ∀ m, doBi (.isinst .tTuple) m [tI p.2] S = .ok (.bl true) S := fun m => b_isiT
  have hsrc : srcOf .vl [tI p.2] S = some (p.2.map .int, []) := rfl
  unfold msD
  simp only [run_eq, ss_nil, ss_cons, s_nm, s_asg, s_par, par2, par3, s_aug, augD_add, augD_sub, s_augIx, augX_add, augX_sub, s_expr, s_ret, s_retN, s_pass, s_brk, s_cont, s_ite, s_for, s_while, seqF_nx, seqF_rt, seqF_bk, seqF_ct, fnD_rt, fnD_nx, g_nm, g_tp, g_ix, gs_nil, gs_cons, e_int, e_bl, e_non, e_str, e_var, getV_0, getV_s, e_gl, opt_some, e_bin, e_neg, negD_int, e_not, notD_bl, e_and, e_or, bE_app, bolD_bl, okM_app, e_cmp, e_chain, chE_app, e_ite, e_tup, e_lst, e_ix, e_rev, e_slA, e_slL, e_slH, e_slLH, sl1_L, sl1_H, sl2_LH, e_call, e_bi, e_mt, e_comp, es_nil, es_cons, ifD_bl, ifD_t, ifD_f, b_ok, b_assoc, fTurn_eq, turn_eq, inT_some, inC_some, soE_app, evT_nil, evT_one, t_nm, t_tp, ts_nil, ts_cons, mkL_f, mkL_t, o_add, o_sub, c_lt, c_le, c_gt, c_ge, c_eqI, c_neI, b_int, b_intB, b_abs, b_max2, b_min2, b_gcd, b_lenT, b_lenL, b_lenS, b_tupT, b_tupL, b_lstT, b_lstL, b_isiT, b_isiI, b_isiB, revT, revL, ixT0, ixT1, ixT2, ixL0, ixL1, isI, q_vlT, q_vlL, q_vlS, q_enT, q_enL, q_zpTT, q_zpTL, q_zpLT, q_zpLL, forD_some, List.set_cons_zero, List.set_cons_succ, List.map_cons, List.map_nil, List.length_cons, List.length_nil, List.cons_append, List.nil_append, List.replicate_succ, List.replicate_zero, Nat.reduceAdd, Nat.reduceSub, Nat.reduceEqDiff, if_true, Option.bind_some, wipeD, decide_true, decide_false, not_true_eq_false, not_false_eq_true, Bool.false_eq_true, if_false, Bool.not_true, Bool.not_false, ne_eq, fd_is_row_in, hg, hw S, ti, lenI, hlen, hpos, e2, hsrc, compD_some (show (p.2.map D.int).length ≤ LIM by rw [List.length_map, hp.len]; omega)]
  rw [comp_true D.int p.2 fun x hx => by simp only [run_eq, ss_nil, ss_cons, s_nm, s_asg, s_par, par2, par3, s_aug, augD_add, augD_sub, s_augIx, augX_add, augX_sub, s_expr, s_ret, s_retN, s_pass, s_brk, s_cont, s_ite, s_for, s_while, seqF_nx, seqF_rt, seqF_bk, seqF_ct, fnD_rt, fnD_nx, g_nm, g_tp, g_ix, gs_nil, gs_cons, e_int, e_bl, e_non, e_str, e_var, getV_0, getV_s, e_gl, opt_some, e_bin, e_neg, negD_int, e_not, notD_bl, e_and, e_or, bE_app, bolD_bl, okM_app, e_cmp, e_chain, chE_app, e_ite, e_tup, e_lst, e_ix, e_rev, e_slA, e_slL, e_slH, e_slLH, sl1_L, sl1_H, sl2_LH, e_call, e_bi, e_mt, e_comp, es_nil, es_cons, ifD_bl, ifD_t, ifD_f, b_ok, b_assoc, fTurn_eq, turn_eq, inT_some, inC_some, soE_app, evT_nil, evT_one, t_nm, t_tp, ts_nil, ts_cons, mkL_f, mkL_t, o_add, o_sub, c_lt, c_le, c_gt, c_ge, c_eqI, c_neI, b_int, b_intB, b_abs, b_max2, b_min2, b_gcd, b_lenT, b_lenL, b_lenS, b_tupT, b_tupL, b_lstT, b_lstL, b_isiT, b_isiI, b_isiB, revT, revL, ixT0, ixT1, ixT2, ixL0, ixL1, isI, q_vlT, q_vlL, q_vlS, q_enT, q_enL, q_zpTT, q_zpTL, q_zpLT, q_zpLL, forD_some, List.set_cons_zero, List.set_cons_succ, List.map_cons, List.map_nil, List.length_cons, List.length_nil, List.cons_append, List.nil_append, List.replicate_succ, List.replicate_zero, Nat.reduceAdd, Nat.reduceSub, Nat.reduceEqDiff, if_true, Option.bind_some, wipeD, hw S]]
  simp only [run_eq, ss_nil, ss_cons, s_nm, s_asg, s_par, par2, par3, s_aug, augD_add, augD_sub, s_augIx, augX_add, augX_sub, s_expr, s_ret, s_retN, s_pass, s_brk, s_cont, s_ite, s_for, s_while, seqF_nx, seqF_rt, seqF_bk, seqF_ct, fnD_rt, fnD_nx, g_nm, g_tp, g_ix, gs_nil, gs_cons, e_int, e_bl, e_non, e_str, e_var, getV_0, getV_s, e_gl, opt_some, e_bin, e_neg, negD_int, e_not, notD_bl, e_and, e_or, bE_app, bolD_bl, okM_app, e_cmp, e_chain, chE_app, e_ite, e_tup, e_lst, e_ix, e_rev, e_slA, e_slL, e_slH, e_slLH, sl1_L, sl1_H, sl2_LH, e_call, e_bi, e_mt, e_comp, es_nil, es_cons, ifD_bl, ifD_t, ifD_f, b_ok, b_assoc, fTurn_eq, turn_eq, inT_some, inC_some, soE_app, evT_nil, evT_one, t_nm, t_tp, ts_nil, ts_cons, mkL_f, mkL_t, o_add, o_sub, c_lt, c_le, c_gt, c_ge, c_eqI, c_neI, b_int, b_intB, b_abs, b_max2, b_min2, b_gcd, b_lenT, b_lenL, b_lenS, b_tupT, b_tupL, b_lstT, b_lstL, b_isiT, b_isiI, b_isiB, revT, revL, ixT0, ixT1, ixT2, ixL0, ixL1, isI, q_vlT, q_vlL, q_vlS, q_enT, q_enL, q_zpTT, q_zpTL, q_zpLT, q_zpLL, forD_some, List.set_cons_zero, List.set_cons_succ, List.map_cons, List.map_nil, List.length_cons, List.length_nil, List.cons_append, List.nil_append, List.replicate_succ, List.replicate_zero, Nat.reduceAdd, Nat.reduceSub, Nat.reduceEqDiff, if_true, Option.bind_some, wipeD, all_true]
def PartOk (cl : Nat → List D → M D) : Prop := ∀ (S : Store) (p : Int × List Int) (m : Nat) (mi : Int), mi = (m : Int) → m ≤ 5 → Ms p.1 p.2 m → cl 5 [.int mi, msD p] S = .ok (.bl true) S
theorem ispart_spec {C : Ev.Ctx} {S : Store} {p : Int × List Int} {m : Nat} {mi : Int} (hr : RowOk C.cl) (h1 : mi = (m : Int)) (hm : m ≤ 5) (hp : Ms p.1 p.2 m) : runF C fd_is_part_in [.int mi, msD p] S = .ok (.bl true) S := by
  have lg := lim_ge
  have hsrc : srcOf .vl [tI p.2] S = some (p.2.map .int, []) := rfl
  simp only [run_eq, ss_nil, ss_cons, s_nm, s_asg, s_par, par2, par3, s_aug, augD_add, augD_sub, s_augIx, augX_add, augX_sub, s_expr, s_ret, s_retN, s_pass, s_brk, s_cont, s_ite, s_for, s_while, seqF_nx, seqF_rt, seqF_bk, seqF_ct, fnD_rt, fnD_nx, g_nm, g_tp, g_ix, gs_nil, gs_cons, e_int, e_bl, e_non, e_str, e_var, getV_0, getV_s, e_gl, opt_some, e_bin, e_neg, negD_int, e_not, notD_bl, e_and, e_or, bE_app, bolD_bl, okM_app, e_cmp, e_chain, chE_app, e_ite, e_tup, e_lst, e_ix, e_rev, e_slA, e_slL, e_slH, e_slLH, sl1_L, sl1_H, sl2_LH, e_call, e_bi, e_mt, e_comp, es_nil, es_cons, ifD_bl, ifD_t, ifD_f, b_ok, b_assoc, fTurn_eq, turn_eq, inT_some, inC_some, soE_app, evT_nil, evT_one, t_nm, t_tp, ts_nil, ts_cons, mkL_f, mkL_t, o_add, o_sub, c_lt, c_le, c_gt, c_ge, c_eqI, c_neI, b_int, b_intB, b_abs, b_max2, b_min2, b_gcd, b_lenT, b_lenL, b_lenS, b_tupT, b_tupL, b_lstT, b_lstL, b_isiT, b_isiI, b_isiB, revT, revL, ixT0, ixT1, ixT2, ixL0, ixL1, isI, q_vlT, q_vlL, q_vlS, q_enT, q_enL, q_zpTT, q_zpTL, q_zpLT, q_zpLL, forD_some, List.set_cons_zero, List.set_cons_succ, List.map_cons, List.map_nil, List.length_cons, List.length_nil, List.cons_append, List.nil_append, List.replicate_succ, List.replicate_zero, Nat.reduceAdd, Nat.reduceSub, Nat.reduceEqDiff, if_true, Option.bind_some, wipeD, decide_true, decide_false, not_true_eq_false, not_false_eq_true, Bool.false_eq_true, if_false, Bool.not_true, Bool.not_false, ne_eq, fd_is_part_in, hr S p m mi h1 hm hp]
  have i1 : doIx (msD p) (.int 1) S = .ok (tI p.2) S := ixT1
  have i0 : ∀ S, doIx (msD p) (.int 0) S = .ok (.int p.1) S := fun S => ixT0
  simp only [run_eq, ss_nil, ss_cons, s_nm, s_asg, s_par, par2, par3, s_aug, augD_add, augD_sub, s_augIx, augX_add, augX_sub, s_expr, s_ret, s_retN, s_pass, s_brk, s_cont, s_ite, s_for, s_while, seqF_nx, seqF_rt, seqF_bk, seqF_ct, fnD_rt, fnD_nx, g_nm, g_tp, g_ix, gs_nil, gs_cons, e_int, e_bl, e_non, e_str, e_var, getV_0, getV_s, e_gl, opt_some, e_bin, e_neg, negD_int, e_not, notD_bl, e_and, e_or, bE_app, bolD_bl, okM_app, e_cmp, e_chain, chE_app, e_ite, e_tup, e_lst, e_ix, e_rev, e_slA, e_slL, e_slH, e_slLH, sl1_L, sl1_H, sl2_LH, e_call, e_bi, e_mt, e_comp, es_nil, es_cons, ifD_bl, ifD_t, ifD_f, b_ok, b_assoc, fTurn_eq, turn_eq, inT_some, inC_some, soE_app, evT_nil, evT_one, t_nm, t_tp, ts_nil, ts_cons, mkL_f, mkL_t, o_add, o_sub, c_lt, c_le, c_gt, c_ge, c_eqI, c_neI, b_int, b_intB, b_abs, b_max2, b_min2, b_gcd, b_lenT, b_lenL, b_lenS, b_tupT, b_tupL, b_lstT, b_lstL, b_isiT, b_isiI, b_isiB, revT, revL, ixT0, ixT1, ixT2, ixL0, ixL1, isI, q_vlT, q_vlL, q_vlS, q_enT, q_enL, q_zpTT, q_zpTL, q_zpLT, q_zpLL, forD_some, List.set_cons_zero, List.set_cons_succ, List.map_cons, List.map_nil, List.length_cons, List.length_nil, List.cons_append, List.nil_append, List.replicate_succ, List.replicate_zero, Nat.reduceAdd, Nat.reduceSub, Nat.reduceEqDiff, if_true, Option.bind_some, wipeD, decide_true, decide_false, not_true_eq_false, not_false_eq_true, Bool.false_eq_true, if_false, Bool.not_true, Bool.not_false, ne_eq, i1, hsrc, compD_some (show (p.2.map D.int).length ≤ LIM by rw [List.length_map, hp.len]; omega)]
  rw [comp_true D.int p.2 fun x hx => by
    have := hp.rng x hx
    simp only [run_eq, ss_nil, ss_cons, s_nm, s_asg, s_par, par2, par3, s_aug, augD_add, augD_sub, s_augIx, augX_add, augX_sub, s_expr, s_ret, s_retN, s_pass, s_brk, s_cont, s_ite, s_for, s_while, seqF_nx, seqF_rt, seqF_bk, seqF_ct, fnD_rt, fnD_nx, g_nm, g_tp, g_ix, gs_nil, gs_cons, e_int, e_bl, e_non, e_str, e_var, getV_0, getV_s, e_gl, opt_some, e_bin, e_neg, negD_int, e_not, notD_bl, e_and, e_or, bE_app, bolD_bl, okM_app, e_cmp, e_chain, chE_app, e_ite, e_tup, e_lst, e_ix, e_rev, e_slA, e_slL, e_slH, e_slLH, sl1_L, sl1_H, sl2_LH, e_call, e_bi, e_mt, e_comp, es_nil, es_cons, ifD_bl, ifD_t, ifD_f, b_ok, b_assoc, fTurn_eq, turn_eq, inT_some, inC_some, soE_app, evT_nil, evT_one, t_nm, t_tp, ts_nil, ts_cons, mkL_f, mkL_t, o_add, o_sub, c_lt, c_le, c_gt, c_ge, c_eqI, c_neI, b_int, b_intB, b_abs, b_max2, b_min2, b_gcd, b_lenT, b_lenL, b_lenS, b_tupT, b_tupL, b_lstT, b_lstL, b_isiT, b_isiI, b_isiB, revT, revL, ixT0, ixT1, ixT2, ixL0, ixL1, isI, q_vlT, q_vlL, q_vlS, q_enT, q_enL, q_zpTT, q_zpTL, q_zpLT, q_zpLL, forD_some, List.set_cons_zero, List.set_cons_succ, List.map_cons, List.map_nil, List.length_cons, List.length_nil, List.cons_append, List.nil_append, List.replicate_succ, List.replicate_zero, Nat.reduceAdd, Nat.reduceSub, Nat.reduceEqDiff, if_true, Option.bind_some, wipeD, decide_true, decide_false, not_true_eq_false, not_false_eq_true, Bool.false_eq_true, if_false, Bool.not_true, Bool.not_false, ne_eq, i0, this.1, this.2]]
  simp only [run_eq, ss_nil, ss_cons, s_nm, s_asg, s_par, par2, par3, s_aug, augD_add, augD_sub, s_augIx, augX_add, augX_sub, s_expr, s_ret, s_retN, s_pass, s_brk, s_cont, s_ite, s_for, s_while, seqF_nx, seqF_rt, seqF_bk, seqF_ct, fnD_rt, fnD_nx, g_nm, g_tp, g_ix, gs_nil, gs_cons, e_int, e_bl, e_non, e_str, e_var, getV_0, getV_s, e_gl, opt_some, e_bin, e_neg, negD_int, e_not, notD_bl, e_and, e_or, bE_app, bolD_bl, okM_app, e_cmp, e_chain, chE_app, e_ite, e_tup, e_lst, e_ix, e_rev, e_slA, e_slL, e_slH, e_slLH, sl1_L, sl1_H, sl2_LH, e_call, e_bi, e_mt, e_comp, es_nil, es_cons, ifD_bl, ifD_t, ifD_f, b_ok, b_assoc, fTurn_eq, turn_eq, inT_some, inC_some, soE_app, evT_nil, evT_one, t_nm, t_tp, ts_nil, ts_cons, mkL_f, mkL_t, o_add, o_sub, c_lt, c_le, c_gt, c_ge, c_eqI, c_neI, b_int, b_intB, b_abs, b_max2, b_min2, b_gcd, b_lenT, b_lenL, b_lenS, b_tupT, b_tupL, b_lstT, b_lstL, b_isiT, b_isiI, b_isiB, revT, revL, ixT0, ixT1, ixT2, ixL0, ixL1, isI, q_vlT, q_vlL, q_vlS, q_enT, q_enL, q_zpTT, q_zpTL, q_zpLT, q_zpLL, forD_some, List.set_cons_zero, List.set_cons_succ, List.map_cons, List.map_nil, List.length_cons, List.length_nil, List.cons_append, List.nil_append, List.replicate_succ, List.replicate_zero, Nat.reduceAdd, Nat.reduceSub, Nat.reduceEqDiff, if_true, Option.bind_some, wipeD, decide_true, decide_false, not_true_eq_false, not_false_eq_true, Bool.false_eq_true, if_false, Bool.not_true, Bool.not_false, ne_eq, all_true]
def SgOk (cl : Nat → List D → M D) : Prop := ∀ (S : Store) (x : Int), x = 1 ∨ x = -1 → cl 7 [.int x] S = .ok (.bl true) S
theorem sign_spec {C : Ev.Ctx} {S : Store} {x : Int} (hw : WOk C.cl) (h : x = 1 ∨ x = -1) : runF C fd_is_sign [.int x] S = .ok (.bl true) S := by
  have hin : doCmp .in_ (.int x) (.tup [.int 1, .int (-1)]) S = .ok (.bl true) S := by
    rcases h with rfl | rfl <;> rfl
  simp only [run_eq, ss_nil, ss_cons, s_nm, s_asg, s_par, par2, par3, s_aug, augD_add, augD_sub, s_augIx, augX_add, augX_sub, s_expr, s_ret, s_retN, s_pass, s_brk, s_cont, s_ite, s_for, s_while, seqF_nx, seqF_rt, seqF_bk, seqF_ct, fnD_rt, fnD_nx, g_nm, g_tp, g_ix, gs_nil, gs_cons, e_int, e_bl, e_non, e_str, e_var, getV_0, getV_s, e_gl, opt_some, e_bin, e_neg, negD_int, e_not, notD_bl, e_and, e_or, bE_app, bolD_bl, okM_app, e_cmp, e_chain, chE_app, e_ite, e_tup, e_lst, e_ix, e_rev, e_slA, e_slL, e_slH, e_slLH, sl1_L, sl1_H, sl2_LH, e_call, e_bi, e_mt, e_comp, es_nil, es_cons, ifD_bl, ifD_t, ifD_f, b_ok, b_assoc, fTurn_eq, turn_eq, inT_some, inC_some, soE_app, evT_nil, evT_one, t_nm, t_tp, ts_nil, ts_cons, mkL_f, mkL_t, o_add, o_sub, c_lt, c_le, c_gt, c_ge, c_eqI, c_neI, b_int, b_intB, b_abs, b_max2, b_min2, b_gcd, b_lenT, b_lenL, b_lenS, b_tupT, b_tupL, b_lstT, b_lstL, b_isiT, b_isiI, b_isiB, revT, revL, ixT0, ixT1, ixT2, ixL0, ixL1, isI, q_vlT, q_vlL, q_vlS, q_enT, q_enL, q_zpTT, q_zpTL, q_zpLT, q_zpLL, forD_some, List.set_cons_zero, List.set_cons_succ, List.map_cons, List.map_nil, List.length_cons, List.length_nil, List.cons_append, List.nil_append, List.replicate_succ, List.replicate_zero, Nat.reduceAdd, Nat.reduceSub, Nat.reduceEqDiff, if_true, Option.bind_some, wipeD, decide_true, decide_false, not_true_eq_false, not_false_eq_true, Bool.false_eq_true, if_false, Bool.not_true, Bool.not_false, ne_eq, fd_is_sign, hw S, hin]
def TiOk (cl : Nat → List D → M D) : Prop := ∀ (S : Store) (l : List Int) (ni : Int), ni = (l.length : Int) → l.length ≤ 10000 → SgL l → cl 8 [.int ni, tI l] S = .ok (.bl true) S
theorem truthin_spec {C : Ev.Ctx} {S : Store} {l : List Int} {ni : Int} (hs : SgOk C.cl) (h1 : ni = (l.length : Int)) (hl : l.length ≤ 10000) (h : SgL l) : runF C fd_is_truth_in [.int ni, tI l] S = .ok (.bl true) S := by
  have lg := lim_ge
  have hsrc : srcOf .vl [tI l] S = some (l.map .int, []) := rfl
  have ti : ∀ m, doBi (.isinst .tTuple) m [tI l] S = .ok (.bl true) S := fun m => b_isiT
  simp only [run_eq, ss_nil, ss_cons, s_nm, s_asg, s_par, par2, par3, s_aug, augD_add, augD_sub, s_augIx, augX_add, augX_sub, s_expr, s_ret, s_retN, s_pass, s_brk, s_cont, s_ite, s_for, s_while, seqF_nx, seqF_rt, seqF_bk, seqF_ct, fnD_rt, fnD_nx, g_nm, g_tp, g_ix, gs_nil, gs_cons, e_int, e_bl, e_non, e_str, e_var, getV_0, getV_s, e_gl, opt_some, e_bin, e_neg, negD_int, e_not, notD_bl, e_and, e_or, bE_app, bolD_bl, okM_app, e_cmp, e_chain, chE_app, e_ite, e_tup, e_lst, e_ix, e_rev, e_slA, e_slL, e_slH, e_slLH, sl1_L, sl1_H, sl2_LH, e_call, e_bi, e_mt, e_comp, es_nil, es_cons, ifD_bl, ifD_t, ifD_f, b_ok, b_assoc, fTurn_eq, turn_eq, inT_some, inC_some, soE_app, evT_nil, evT_one, t_nm, t_tp, ts_nil, ts_cons, mkL_f, mkL_t, o_add, o_sub, c_lt, c_le, c_gt, c_ge, c_eqI, c_neI, b_int, b_intB, b_abs, b_max2, b_min2, b_gcd, b_lenT, b_lenL, b_lenS, b_tupT, b_tupL, b_lstT, b_lstL, b_isiT, b_isiI, b_isiB, revT, revL, ixT0, ixT1, ixT2, ixL0, ixL1, isI, q_vlT, q_vlL, q_vlS, q_enT, q_enL, q_zpTT, q_zpTL, q_zpLT, q_zpLL, forD_some, List.set_cons_zero, List.set_cons_succ, List.map_cons, List.map_nil, List.length_cons, List.length_nil, List.cons_append, List.nil_append, List.replicate_succ, List.replicate_zero, Nat.reduceAdd, Nat.reduceSub, Nat.reduceEqDiff, if_true, Option.bind_some, wipeD, decide_true, decide_false, not_true_eq_false, not_false_eq_true, Bool.false_eq_true, if_false, Bool.not_true, Bool.not_false, ne_eq, fd_is_truth_in, ti, lenI, ← h1, hsrc, compD_some (show (l.map D.int).length ≤ LIM by rw [List.length_map]; omega)]
  rw [comp_true D.int l fun x hx => by simp only [run_eq, ss_nil, ss_cons, s_nm, s_asg, s_par, par2, par3, s_aug, augD_add, augD_sub, s_augIx, augX_add, augX_sub, s_expr, s_ret, s_retN, s_pass, s_brk, s_cont, s_ite, s_for, s_while, seqF_nx, seqF_rt, seqF_bk, seqF_ct, fnD_rt, fnD_nx, g_nm, g_tp, g_ix, gs_nil, gs_cons, e_int, e_bl, e_non, e_str, e_var, getV_0, getV_s, e_gl, opt_some, e_bin, e_neg, negD_int, e_not, notD_bl, e_and, e_or, bE_app, bolD_bl, okM_app, e_cmp, e_chain, chE_app, e_ite, e_tup, e_lst, e_ix, e_rev, e_slA, e_slL, e_slH, e_slLH, sl1_L, sl1_H, sl2_LH, e_call, e_bi, e_mt, e_comp, es_nil, es_cons, ifD_bl, ifD_t, ifD_f, b_ok, b_assoc, fTurn_eq, turn_eq, inT_some, inC_some, soE_app, evT_nil, evT_one, t_nm, t_tp, ts_nil, ts_cons, mkL_f, mkL_t, o_add, o_sub, c_lt, c_le, c_gt, c_ge, c_eqI, c_neI, b_int, b_intB, b_abs, b_max2, b_min2, b_gcd, b_lenT, b_lenL, b_lenS, b_tupT, b_tupL, b_lstT, b_lstL, b_isiT, b_isiI, b_isiB, revT, revL, ixT0, ixT1, ixT2, ixL0, ixL1, isI, q_vlT, q_vlL, q_vlS, q_enT, q_enL, q_zpTT, q_zpTL, q_zpLT, q_zpLL, forD_some, List.set_cons_zero, List.set_cons_succ, List.map_cons, List.map_nil, List.length_cons, List.length_nil, List.cons_append, List.nil_append, List.replicate_succ, List.replicate_zero, Nat.reduceAdd, Nat.reduceSub, Nat.reduceEqDiff, if_true, Option.bind_some, wipeD, decide_true, decide_false, not_true_eq_false, not_false_eq_true, Bool.false_eq_true, if_false, Bool.not_true, Bool.not_false, ne_eq, hs S x (h x hx)]]
  simp only [run_eq, ss_nil, ss_cons, s_nm, s_asg, s_par, par2, par3, s_aug, augD_add, augD_sub, s_augIx, augX_add, augX_sub, s_expr, s_ret, s_retN, s_pass, s_brk, s_cont, s_ite, s_for, s_while, seqF_nx, seqF_rt, seqF_bk, seqF_ct, fnD_rt, fnD_nx, g_nm, g_tp, g_ix, gs_nil, gs_cons, e_int, e_bl, e_non, e_str, e_var, getV_0, getV_s, e_gl, opt_some, e_bin, e_neg, negD_int, e_not, notD_bl, e_and, e_or, bE_app, bolD_bl, okM_app, e_cmp, e_chain, chE_app, e_ite, e_tup, e_lst, e_ix, e_rev, e_slA, e_slL, e_slH, e_slLH, sl1_L, sl1_H, sl2_LH, e_call, e_bi, e_mt, e_comp, es_nil, es_cons, ifD_bl, ifD_t, ifD_f, b_ok, b_assoc, fTurn_eq, turn_eq, inT_some, inC_some, soE_app, evT_nil, evT_one, t_nm, t_tp, ts_nil, ts_cons, mkL_f, mkL_t, o_add, o_sub, c_lt, c_le, c_gt, c_ge, c_eqI, c_neI, b_int, b_intB, b_abs, b_max2, b_min2, b_gcd, b_lenT, b_lenL, b_lenS, b_tupT, b_tupL, b_lstT, b_lstL, b_isiT, b_isiI, b_isiB, revT, revL, ixT0, ixT1, ixT2, ixL0, ixL1, isI, q_vlT, q_vlL, q_vlS, q_enT, q_enL, q_zpTT, q_zpTL, q_zpLT, q_zpLL, forD_some, List.set_cons_zero, List.set_cons_succ, List.map_cons, List.map_nil, List.length_cons, List.length_nil, List.cons_append, List.nil_append, List.replicate_succ, List.replicate_zero, Nat.reduceAdd, Nat.reduceSub, Nat.reduceEqDiff, if_true, Option.bind_some, wipeD, decide_true, decide_false, not_true_eq_false, not_false_eq_true, Bool.false_eq_true, if_false, Bool.not_true, Bool.not_false, ne_eq, all_true]
def AnyOk (cl : Nat → List D → M D) : Prop := ∀ (S : Store) (l : List Int), 1 ≤ l.length → l.length ≤ 32 → SgL l → cl 9 [tI l] S = .ok (.bl true) S
theorem anytruth_spec {C : Ev.Ctx} {S : Store} {l : List Int} (hg : C.gv 6 = some (.int 32)) (ht : TiOk C.cl) (h1 : 1 ≤ l.length) (h2 : l.length ≤ 32) (h : SgL l) : runF C fd_is_any_truth [tI l] S = .ok (.bl true) S := by
  have ti : ∀ m, doBi (.isinst .tTuple) m [tI l] S = .ok (.bl true) S := fun m => b_isiT
  have q := ht S l _ rfl (by omega) h
  have ln : ∀ m, doBi .len m [tI l] S = .ok (.int (l.length : Int)) S := fun m => lenI
  generalize hn : (l.length : Int) = n at q ln
  have a1 : (1 : Int) ≤ n := by omega
  have a2 : n ≤ 32 := by omega
  simp only [run_eq, ss_nil, ss_cons, s_nm, s_asg, s_par, par2, par3, s_aug, augD_add, augD_sub, s_augIx, augX_add, augX_sub, s_expr, s_ret, s_retN, s_pass, s_brk, s_cont, s_ite, s_for, s_while, seqF_nx, seqF_rt, seqF_bk, seqF_ct, fnD_rt, fnD_nx, g_nm, g_tp, g_ix, gs_nil, gs_cons, e_int, e_bl, e_non, e_str, e_var, getV_0, getV_s, e_gl, opt_some, e_bin, e_neg, negD_int, e_not, notD_bl, e_and, e_or, bE_app, bolD_bl, okM_app, e_cmp, e_chain, chE_app, e_ite, e_tup, e_lst, e_ix, e_rev, e_slA, e_slL, e_slH, e_slLH, sl1_L, sl1_H, sl2_LH, e_call, e_bi, e_mt, e_comp, es_nil, es_cons, ifD_bl, ifD_t, ifD_f, b_ok, b_assoc, fTurn_eq, turn_eq, inT_some, inC_some, soE_app, evT_nil, evT_one, t_nm, t_tp, ts_nil, ts_cons, mkL_f, mkL_t, o_add, o_sub, c_lt, c_le, c_gt, c_ge, c_eqI, c_neI, b_int, b_intB, b_abs, b_max2, b_min2, b_gcd, b_lenT, b_lenL, b_lenS, b_tupT, b_tupL, b_lstT, b_lstL, b_isiT, b_isiI, b_isiB, revT, revL, ixT0, ixT1, ixT2, ixL0, ixL1, isI, q_vlT, q_vlL, q_vlS, q_enT, q_enL, q_zpTT, q_zpTL, q_zpLT, q_zpLL, forD_some, List.set_cons_zero, List.set_cons_succ, List.map_cons, List.map_nil, List.length_cons, List.length_nil, List.cons_append, List.nil_append, List.replicate_succ, List.replicate_zero, Nat.reduceAdd, Nat.reduceSub, Nat.reduceEqDiff, if_true, Option.bind_some, wipeD, decide_true, decide_false, not_true_eq_false, not_false_eq_true, Bool.false_eq_true, if_false, Bool.not_true, Bool.not_false, ne_eq, fd_is_any_truth, ti, ln, hg, a1, a2, q]
def ArOk (cl : Nat → List D → M D) : Prop := ∀ (S : Store) (ts : List (List Int)) (m t : Nat), Ts ts m t → cl 15 [tsD ts] S = .ok (.bl true) S
theorem aretruths_spec {C : Ev.Ctx} {S : Store} {ts : List (List Int)} {m t : Nat} (hg : C.gv 10 = some (.int 3)) (ht : TiOk C.cl) (ha : AnyOk C.cl) (hts : Ts ts m t) : runF C fd_are_truths [tsD ts] S = .ok (.bl true) S := by
  have lg := lim_ge
  obtain ⟨t0, rest, e0, ht0⟩ := hts.hd
  have hm1 := hts.m1
  have hm5 := hts.m5
  have ht3 := hts.t3
  have ht1 := hts.t1
  have i0 : ∀ S, doIx (tsD ts) (.int 0) S = .ok (tI t0) S := fun S => by rw [e0]; exact ixT0
  have ti : ∀ m, doBi (.isinst .tTuple) m [tsD ts] S = .ok (.bl true) S := fun m => b_isiT
  have lt : ∀ S m, doBi .len m [tsD ts] S = .ok (.int ts.length) S := fun S m => by unfold tsD; rw [b_lenT, List.length_map]
  rw [hts.num] at lt
  generalize hti : (t : Int) = tt at lt
  have a1 : (1 : Int) ≤ tt := by omega
  have a2 : tt ≤ 3 := by omega
  have q := ha S t0 (by omega) (by omega) (hts.sg t0 (by rw [e0]; simp))
  have hsrc : srcOf .vl [tsD ts] S = some (ts.map tI, []) := rfl
  have ln : ∀ S m, doBi .len m [tI t0] S = .ok (.int t0.length) S := fun S m => lenI
  generalize hmi : (t0.length : Int) = mi at ln
  simp only [run_eq, ss_nil, ss_cons, s_nm, s_asg, s_par, par2, par3, s_aug, augD_add, augD_sub, s_augIx, augX_add, augX_sub, s_expr, s_ret, s_retN, s_pass, s_brk, s_cont, s_ite, s_for, s_while, seqF_nx, seqF_rt, seqF_bk, seqF_ct, fnD_rt, fnD_nx, g_nm, g_tp, g_ix, gs_nil, gs_cons, e_int, e_bl, e_non, e_str, e_var, getV_0, getV_s, e_gl, opt_some, e_bin, e_neg, negD_int, e_not, notD_bl, e_and, e_or, bE_app, bolD_bl, okM_app, e_cmp, e_chain, chE_app, e_ite, e_tup, e_lst, e_ix, e_rev, e_slA, e_slL, e_slH, e_slLH, sl1_L, sl1_H, sl2_LH, e_call, e_bi, e_mt, e_comp, es_nil, es_cons, ifD_bl, ifD_t, ifD_f, b_ok, b_assoc, fTurn_eq, turn_eq, inT_some, inC_some, soE_app, evT_nil, evT_one, t_nm, t_tp, ts_nil, ts_cons, mkL_f, mkL_t, o_add, o_sub, c_lt, c_le, c_gt, c_ge, c_eqI, c_neI, b_int, b_intB, b_abs, b_max2, b_min2, b_gcd, b_lenT, b_lenL, b_lenS, b_tupT, b_tupL, b_lstT, b_lstL, b_isiT, b_isiI, b_isiB, revT, revL, ixT0, ixT1, ixT2, ixL0, ixL1, isI, q_vlT, q_vlL, q_vlS, q_enT, q_enL, q_zpTT, q_zpTL, q_zpLT, q_zpLL, forD_some, List.set_cons_zero, List.set_cons_succ, List.map_cons, List.map_nil, List.length_cons, List.length_nil, List.cons_append, List.nil_append, List.replicate_succ, List.replicate_zero, Nat.reduceAdd, Nat.reduceSub, Nat.reduceEqDiff, if_true, Option.bind_some, wipeD, decide_true, decide_false, not_true_eq_false, not_false_eq_true, Bool.false_eq_true, if_false, Bool.not_true, Bool.not_false, ne_eq, fd_are_truths, ti, lt, hg, a1, a2, i0, q, hsrc, compD_some (show (ts.map tI).length ≤ LIM by rw [List.length_map, hts.num]; omega)]
  rw [comp_true tI ts fun x hx => by
    have hxl := hts.len x hx
    simp only [run_eq, ss_nil, ss_cons, s_nm, s_asg, s_par, par2, par3, s_aug, augD_add, augD_sub, s_augIx, augX_add, augX_sub, s_expr, s_ret, s_retN, s_pass, s_brk, s_cont, s_ite, s_for, s_while, seqF_nx, seqF_rt, seqF_bk, seqF_ct, fnD_rt, fnD_nx, g_nm, g_tp, g_ix, gs_nil, gs_cons, e_int, e_bl, e_non, e_str, e_var, getV_0, getV_s, e_gl, opt_some, e_bin, e_neg, negD_int, e_not, notD_bl, e_and, e_or, bE_app, bolD_bl, okM_app, e_cmp, e_chain, chE_app, e_ite, e_tup, e_lst, e_ix, e_rev, e_slA, e_slL, e_slH, e_slLH, sl1_L, sl1_H, sl2_LH, e_call, e_bi, e_mt, e_comp, es_nil, es_cons, ifD_bl, ifD_t, ifD_f, b_ok, b_assoc, fTurn_eq, turn_eq, inT_some, inC_some, soE_app, evT_nil, evT_one, t_nm, t_tp, ts_nil, ts_cons, mkL_f, mkL_t, o_add, o_sub, c_lt, c_le, c_gt, c_ge, c_eqI, c_neI, b_int, b_intB, b_abs, b_max2, b_min2, b_gcd, b_lenT, b_lenL, b_lenS, b_tupT, b_tupL, b_lstT, b_lstL, b_isiT, b_isiI, b_isiB, revT, revL, ixT0, ixT1, ixT2, ixL0, ixL1, isI, q_vlT, q_vlL, q_vlS, q_enT, q_enL, q_zpTT, q_zpTL, q_zpLT, q_zpLL, forD_some, List.set_cons_zero, List.set_cons_succ, List.map_cons, List.map_nil, List.length_cons, List.length_nil, List.cons_append, List.nil_append, List.replicate_succ, List.replicate_zero, Nat.reduceAdd, Nat.reduceSub, Nat.reduceEqDiff, if_true, Option.bind_some, wipeD, decide_true, decide_false, not_true_eq_false, not_false_eq_true, Bool.false_eq_true, if_false, Bool.not_true, Bool.not_false, ne_eq, i0, ln, ht S x mi (by omega) (by omega) (hts.sg x hx)]]
  simp only [run_eq, ss_nil, ss_cons, s_nm, s_asg, s_par, par2, par3, s_aug, augD_add, augD_sub, s_augIx, augX_add, augX_sub, s_expr, s_ret, s_retN, s_pass, s_brk, s_cont, s_ite, s_for, s_while, seqF_nx, seqF_rt, seqF_bk, seqF_ct, fnD_rt, fnD_nx, g_nm, g_tp, g_ix, gs_nil, gs_cons, e_int, e_bl, e_non, e_str, e_var, getV_0, getV_s, e_gl, opt_some, e_bin, e_neg, negD_int, e_not, notD_bl, e_and, e_or, bE_app, bolD_bl, okM_app, e_cmp, e_chain, chE_app, e_ite, e_tup, e_lst, e_ix, e_rev, e_slA, e_slL, e_slH, e_slLH, sl1_L, sl1_H, sl2_LH, e_call, e_bi, e_mt, e_comp, es_nil, es_cons, ifD_bl, ifD_t, ifD_f, b_ok, b_assoc, fTurn_eq, turn_eq, inT_some, inC_some, soE_app, evT_nil, evT_one, t_nm, t_tp, ts_nil, ts_cons, mkL_f, mkL_t, o_add, o_sub, c_lt, c_le, c_gt, c_ge, c_eqI, c_neI, b_int, b_intB, b_abs, b_max2, b_min2, b_gcd, b_lenT, b_lenL, b_lenS, b_tupT, b_tupL, b_lstT, b_lstL, b_isiT, b_isiI, b_isiB, revT, revL, ixT0, ixT1, ixT2, ixL0, ixL1, isI, q_vlT, q_vlL, q_vlS, q_enT, q_enL, q_zpTT, q_zpTL, q_zpLT, q_zpLL, forD_some, List.set_cons_zero, List.set_cons_succ, List.map_cons, List.map_nil, List.length_cons, List.length_nil, List.cons_append, List.nil_append, List.replicate_succ, List.replicate_zero, Nat.reduceAdd, Nat.reduceSub, Nat.reduceEqDiff, if_true, Option.bind_some, wipeD, decide_true, decide_false, not_true_eq_false, not_false_eq_true, Bool.false_eq_true, if_false, Bool.not_true, Bool.not_false, ne_eq, all_true]
theorem reqtruths_spec {C : Ev.Ctx} {S : Store} {ts : List (List Int)} {m t : Nat} (ha : ArOk C.cl) (hts : Ts ts m t) : runF C fd_require_truths [tsD ts] S = .ok .non S := by
  simp only [run_eq, ss_nil, ss_cons, s_nm, s_asg, s_par, par2, par3, s_aug, augD_add, augD_sub, s_augIx, augX_add, augX_sub, s_expr, s_ret, s_retN, s_pass, s_brk, s_cont, s_ite, s_for, s_while, seqF_nx, seqF_rt, seqF_bk, seqF_ct, fnD_rt, fnD_nx, g_nm, g_tp, g_ix, gs_nil, gs_cons, e_int, e_bl, e_non, e_str, e_var, getV_0, getV_s, e_gl, opt_some, e_bin, e_neg, negD_int, e_not, notD_bl, e_and, e_or, bE_app, bolD_bl, okM_app, e_cmp, e_chain, chE_app, e_ite, e_tup, e_lst, e_ix, e_rev, e_slA, e_slL, e_slH, e_slLH, sl1_L, sl1_H, sl2_LH, e_call, e_bi, e_mt, e_comp, es_nil, es_cons, ifD_bl, ifD_t, ifD_f, b_ok, b_assoc, fTurn_eq, turn_eq, inT_some, inC_some, soE_app, evT_nil, evT_one, t_nm, t_tp, ts_nil, ts_cons, mkL_f, mkL_t, o_add, o_sub, c_lt, c_le, c_gt, c_ge, c_eqI, c_neI, b_int, b_intB, b_abs, b_max2, b_min2, b_gcd, b_lenT, b_lenL, b_lenS, b_tupT, b_tupL, b_lstT, b_lstL, b_isiT, b_isiI, b_isiB, revT, revL, ixT0, ixT1, ixT2, ixL0, ixL1, isI, q_vlT, q_vlL, q_vlS, q_enT, q_enL, q_zpTT, q_zpTL, q_zpLT, q_zpLL, forD_some, List.set_cons_zero, List.set_cons_succ, List.map_cons, List.map_nil, List.length_cons, List.length_nil, List.cons_append, List.nil_append, List.replicate_succ, List.replicate_zero, Nat.reduceAdd, Nat.reduceSub, Nat.reduceEqDiff, if_true, Option.bind_some, wipeD, decide_true, decide_false, not_true_eq_false, not_false_eq_true, Bool.false_eq_true, if_false, Bool.not_true, Bool.not_false, ne_eq, fd_require_truths, ha S ts m t hts]
theorem reqtest_spec {C : Ev.Ctx} {S : Store} {test : List Int} {m t : Nat} {mi ti : Int} (hp : POk C.cl) (ht : TiOk C.cl) (h1 : mi = (m : Int)) (h2 : ti = (t : Int)) (hm1 : 1 ≤ m) (hm5 : m ≤ 5) (ht3 : t ≤ 3) (hl : test.length = m ^ t) (hb : m ^ t ≤ 125) (hs : SgL test) :
    runF C fd_require_copies_test [.int mi, .int ti, tI test] S = .ok .non S := by
  simp only [run_eq, ss_nil, ss_cons, s_nm, s_asg, s_par, par2, par3, s_aug, augD_add, augD_sub, s_augIx, augX_add, augX_sub, s_expr, s_ret, s_retN, s_pass, s_brk, s_cont, s_ite, s_for, s_while, seqF_nx, seqF_rt, seqF_bk, seqF_ct, fnD_rt, fnD_nx, g_nm, g_tp, g_ix, gs_nil, gs_cons, e_int, e_bl, e_non, e_str, e_var, getV_0, getV_s, e_gl, opt_some, e_bin, e_neg, negD_int, e_not, notD_bl, e_and, e_or, bE_app, bolD_bl, okM_app, e_cmp, e_chain, chE_app, e_ite, e_tup, e_lst, e_ix, e_rev, e_slA, e_slL, e_slH, e_slLH, sl1_L, sl1_H, sl2_LH, e_call, e_bi, e_mt, e_comp, es_nil, es_cons, ifD_bl, ifD_t, ifD_f, b_ok, b_assoc, fTurn_eq, turn_eq, inT_some, inC_some, soE_app, evT_nil, evT_one, t_nm, t_tp, ts_nil, ts_cons, mkL_f, mkL_t, o_add, o_sub, c_lt, c_le, c_gt, c_ge, c_eqI, c_neI, b_int, b_intB, b_abs, b_max2, b_min2, b_gcd, b_lenT, b_lenL, b_lenS, b_tupT, b_tupL, b_lstT, b_lstL, b_isiT, b_isiI, b_isiB, revT, revL, ixT0, ixT1, ixT2, ixL0, ixL1, isI, q_vlT, q_vlL, q_vlS, q_enT, q_enL, q_zpTT, q_zpTL, q_zpLT, q_zpLL, forD_some, List.set_cons_zero, List.set_cons_succ, List.map_cons, List.map_nil, List.length_cons, List.length_nil, List.cons_append, List.nil_append, List.replicate_succ, List.replicate_zero, Nat.reduceAdd, Nat.reduceSub, Nat.reduceEqDiff, if_true, Option.bind_some, wipeD, decide_true, decide_false, not_true_eq_false, not_false_eq_true, Bool.false_eq_true, if_false, Bool.not_true, Bool.not_false, ne_eq, fd_require_copies_test, hp S m t mi ti h1 h2 hm1 hm5 ht3, ht S test _ (by rw [hl]) (by omega) hs]
theorem need_spec {C : Ev.Ctx} {S : Store} {m t : Nat} {mi ti : Int} (hg : C.gv 11 = some (.int 4096)) (hp : POk C.cl) (h1 : mi = (m : Int)) (h2 : ti = (t : Int)) (hm1 : 1 ≤ m) (hm5 : m ≤ 5) (ht3 : t ≤ 3) (hb : m ^ t ≤ 125) :
    runF C fd_need_places [.int mi, .int ti] S = .ok .non S := by
  have q := hp S m t mi ti h1 h2 hm1 hm5 ht3
  generalize hn : ((m ^ t : Nat) : Int) = n at q
  have a1 : ¬ 4096 < n := by omega
  simp only [run_eq, ss_nil, ss_cons, s_nm, s_asg, s_par, par2, par3, s_aug, augD_add, augD_sub, s_augIx, augX_add, augX_sub, s_expr, s_ret, s_retN, s_pass, s_brk, s_cont, s_ite, s_for, s_while, seqF_nx, seqF_rt, seqF_bk, seqF_ct, fnD_rt, fnD_nx, g_nm, g_tp, g_ix, gs_nil, gs_cons, e_int, e_bl, e_non, e_str, e_var, getV_0, getV_s, e_gl, opt_some, e_bin, e_neg, negD_int, e_not, notD_bl, e_and, e_or, bE_app, bolD_bl, okM_app, e_cmp, e_chain, chE_app, e_ite, e_tup, e_lst, e_ix, e_rev, e_slA, e_slL, e_slH, e_slLH, sl1_L, sl1_H, sl2_LH, e_call, e_bi, e_mt, e_comp, es_nil, es_cons, ifD_bl, ifD_t, ifD_f, b_ok, b_assoc, fTurn_eq, turn_eq, inT_some, inC_some, soE_app, evT_nil, evT_one, t_nm, t_tp, ts_nil, ts_cons, mkL_f, mkL_t, o_add, o_sub, c_lt, c_le, c_gt, c_ge, c_eqI, c_neI, b_int, b_intB, b_abs, b_max2, b_min2, b_gcd, b_lenT, b_lenL, b_lenS, b_tupT, b_tupL, b_lstT, b_lstL, b_isiT, b_isiI, b_isiB, revT, revL, ixT0, ixT1, ixT2, ixL0, ixL1, isI, q_vlT, q_vlL, q_vlS, q_enT, q_enL, q_zpTT, q_zpTL, q_zpLT, q_zpLL, forD_some, List.set_cons_zero, List.set_cons_succ, List.map_cons, List.map_nil, List.length_cons, List.length_nil, List.cons_append, List.nil_append, List.replicate_succ, List.replicate_zero, Nat.reduceAdd, Nat.reduceSub, Nat.reduceEqDiff, if_true, Option.bind_some, wipeD, decide_true, decide_false, not_true_eq_false, not_false_eq_true, Bool.false_eq_true, if_false, Bool.not_true, Bool.not_false, ne_eq, fd_need_places, q, hg, a1]
theorem areparts_spec {C : Ev.Ctx} {S : Store} {ms : List (Int × List Int)} {m t : Nat} {mi ti : Int} (hp : PartOk C.cl) (h1 : mi = (m : Int)) (h2 : ti = (t : Int)) (hm5 : m ≤ 5) (ht3 : t ≤ 3) (hms : Mss ms m t) :
    runF C fd_are_parts [.int mi, .int ti, mssD ms] S = .ok (.bl true) S := by
  have lg := lim_ge
  have tt : ∀ m, doBi (.isinst .tTuple) m [mssD ms] S = .ok (.bl true) S := fun m => b_isiT
  have ln : ∀ m, doBi .len m [mssD ms] S = .ok (.int ti) S := fun m => by unfold mssD; rw [b_lenT, List.length_map, hms.num, h2]
  have hsrc : srcOf .vl [mssD ms] S = some (ms.map msD, []) := rfl
  simp only [run_eq, ss_nil, ss_cons, s_nm, s_asg, s_par, par2, par3, s_aug, augD_add, augD_sub, s_augIx, augX_add, augX_sub, s_expr, s_ret, s_retN, s_pass, s_brk, s_cont, s_ite, s_for, s_while, seqF_nx, seqF_rt, seqF_bk, seqF_ct, fnD_rt, fnD_nx, g_nm, g_tp, g_ix, gs_nil, gs_cons, e_int, e_bl, e_non, e_str, e_var, getV_0, getV_s, e_gl, opt_some, e_bin, e_neg, negD_int, e_not, notD_bl, e_and, e_or, bE_app, bolD_bl, okM_app, e_cmp, e_chain, chE_app, e_ite, e_tup, e_lst, e_ix, e_rev, e_slA, e_slL, e_slH, e_slLH, sl1_L, sl1_H, sl2_LH, e_call, e_bi, e_mt, e_comp, es_nil, es_cons, ifD_bl, ifD_t, ifD_f, b_ok, b_assoc, fTurn_eq, turn_eq, inT_some, inC_some, soE_app, evT_nil, evT_one, t_nm, t_tp, ts_nil, ts_cons, mkL_f, mkL_t, o_add, o_sub, c_lt, c_le, c_gt, c_ge, c_eqI, c_neI, b_int, b_intB, b_abs, b_max2, b_min2, b_gcd, b_lenT, b_lenL, b_lenS, b_tupT, b_tupL, b_lstT, b_lstL, b_isiT, b_isiI, b_isiB, revT, revL, ixT0, ixT1, ixT2, ixL0, ixL1, isI, q_vlT, q_vlL, q_vlS, q_enT, q_enL, q_zpTT, q_zpTL, q_zpLT, q_zpLL, forD_some, List.set_cons_zero, List.set_cons_succ, List.map_cons, List.map_nil, List.length_cons, List.length_nil, List.cons_append, List.nil_append, List.replicate_succ, List.replicate_zero, Nat.reduceAdd, Nat.reduceSub, Nat.reduceEqDiff, if_true, Option.bind_some, wipeD, decide_true, decide_false, not_true_eq_false, not_false_eq_true, Bool.false_eq_true, if_false, Bool.not_true, Bool.not_false, ne_eq, fd_are_parts, tt, ln, hsrc, compD_some (show (ms.map msD).length ≤ LIM by rw [List.length_map, hms.num]; omega)]
  rw [comp_true msD ms fun x hx => by simp only [run_eq, ss_nil, ss_cons, s_nm, s_asg, s_par, par2, par3, s_aug, augD_add, augD_sub, s_augIx, augX_add, augX_sub, s_expr, s_ret, s_retN, s_pass, s_brk, s_cont, s_ite, s_for, s_while, seqF_nx, seqF_rt, seqF_bk, seqF_ct, fnD_rt, fnD_nx, g_nm, g_tp, g_ix, gs_nil, gs_cons, e_int, e_bl, e_non, e_str, e_var, getV_0, getV_s, e_gl, opt_some, e_bin, e_neg, negD_int, e_not, notD_bl, e_and, e_or, bE_app, bolD_bl, okM_app, e_cmp, e_chain, chE_app, e_ite, e_tup, e_lst, e_ix, e_rev, e_slA, e_slL, e_slH, e_slLH, sl1_L, sl1_H, sl2_LH, e_call, e_bi, e_mt, e_comp, es_nil, es_cons, ifD_bl, ifD_t, ifD_f, b_ok, b_assoc, fTurn_eq, turn_eq, inT_some, inC_some, soE_app, evT_nil, evT_one, t_nm, t_tp, ts_nil, ts_cons, mkL_f, mkL_t, o_add, o_sub, c_lt, c_le, c_gt, c_ge, c_eqI, c_neI, b_int, b_intB, b_abs, b_max2, b_min2, b_gcd, b_lenT, b_lenL, b_lenS, b_tupT, b_tupL, b_lstT, b_lstL, b_isiT, b_isiI, b_isiB, revT, revL, ixT0, ixT1, ixT2, ixL0, ixL1, isI, q_vlT, q_vlL, q_vlS, q_enT, q_enL, q_zpTT, q_zpTL, q_zpLT, q_zpLL, forD_some, List.set_cons_zero, List.set_cons_succ, List.map_cons, List.map_nil, List.length_cons, List.length_nil, List.cons_append, List.nil_append, List.replicate_succ, List.replicate_zero, Nat.reduceAdd, Nat.reduceSub, Nat.reduceEqDiff, if_true, Option.bind_some, wipeD, decide_true, decide_false, not_true_eq_false, not_false_eq_true, Bool.false_eq_true, if_false, Bool.not_true, Bool.not_false, ne_eq, hp S x m mi h1 hm5 (hms.each x hx)]]
  simp only [run_eq, ss_nil, ss_cons, s_nm, s_asg, s_par, par2, par3, s_aug, augD_add, augD_sub, s_augIx, augX_add, augX_sub, s_expr, s_ret, s_retN, s_pass, s_brk, s_cont, s_ite, s_for, s_while, seqF_nx, seqF_rt, seqF_bk, seqF_ct, fnD_rt, fnD_nx, g_nm, g_tp, g_ix, gs_nil, gs_cons, e_int, e_bl, e_non, e_str, e_var, getV_0, getV_s, e_gl, opt_some, e_bin, e_neg, negD_int, e_not, notD_bl, e_and, e_or, bE_app, bolD_bl, okM_app, e_cmp, e_chain, chE_app, e_ite, e_tup, e_lst, e_ix, e_rev, e_slA, e_slL, e_slH, e_slLH, sl1_L, sl1_H, sl2_LH, e_call, e_bi, e_mt, e_comp, es_nil, es_cons, ifD_bl, ifD_t, ifD_f, b_ok, b_assoc, fTurn_eq, turn_eq, inT_some, inC_some, soE_app, evT_nil, evT_one, t_nm, t_tp, ts_nil, ts_cons, mkL_f, mkL_t, o_add, o_sub, c_lt, c_le, c_gt, c_ge, c_eqI, c_neI, b_int, b_intB, b_abs, b_max2, b_min2, b_gcd, b_lenT, b_lenL, b_lenS, b_tupT, b_tupL, b_lstT, b_lstL, b_isiT, b_isiI, b_isiB, revT, revL, ixT0, ixT1, ixT2, ixL0, ixL1, isI, q_vlT, q_vlL, q_vlS, q_enT, q_enL, q_zpTT, q_zpTL, q_zpLT, q_zpLL, forD_some, List.set_cons_zero, List.set_cons_succ, List.map_cons, List.map_nil, List.length_cons, List.length_nil, List.cons_append, List.nil_append, List.replicate_succ, List.replicate_zero, Nat.reduceAdd, Nat.reduceSub, Nat.reduceEqDiff, if_true, Option.bind_some, wipeD, decide_true, decide_false, not_true_eq_false, not_false_eq_true, Bool.false_eq_true, if_false, Bool.not_true, Bool.not_false, ne_eq, all_true]
end LW
namespace LW
open PySem L2 Ev
def WsOk (cl : Nat → List D → M D) : Prop := ∀ (S : Store) (m t : Nat) (ts : List (List Int)) (test : List Int) (fv : D) (fs : List D) (ws : Nat → List Int), Ts ts m t → test.length = m ^ t → SgL test → doRev false fv S = .ok (.lst fs.reverse) S → fs.length = t → (∀ s, s < t → ∃ d, fs[s]? = some d ∧ FcD d (ws s) ∧ (ws s).length = m) → (∀ s a, (ws s).getD a 0 ≤ Cb ∧ 0 ≤ (ws s).getD a 0) →
    cl 12 [tsD ts, tI test, fv] S = .ok (.int (wA m t (fun s a => gI ts s a * (ws s).getD a 0) (fun j => test.getD j 0) t 0)) S
def PS (ts : List (List Int)) (test : List Int) (n : Nat) : Int := sz n fun p => (cps ts).getD p 0 * test.getD p 0
theorem flat1 : ∀ m : Nat, (List.replicate m [D.int 1]).flatten = (List.replicate m (1 : Int)).map D.int
  | 0 => rfl
  | m + 1 => by rw [List.replicate_succ, List.flatten_cons, flat1 m, List.replicate_succ]; rfl
theorem ones_getD (m a : Nat) : (List.replicate m (1 : Int)).getD a 0 ≤ Cb ∧ 0 ≤ (List.replicate m (1 : Int)).getD a 0 := by
  rw [List.getD_eq_getElem?_getD, List.getElem?_replicate]
  split
  · exact ⟨by decide, by decide⟩
  · exact ⟨by decide, by decide⟩
theorem ones_in {m a : Nat} (h : a < m) : (List.replicate m (1 : Int)).getD a 0 = 1 := by
  rw [List.getD_eq_getElem?_getD, List.getElem?_replicate, if_pos h]; rfl
theorem dgt_lt {m t s p : Nat} (hm : 1 ≤ m) : dgt m t s p < m := Nat.mod_lt _ hm
theorem top_eq {ts : List (List Int)} {test : List Int} {m t : Nat} (hts : Ts ts m t) (ws : Nat → List Int) : wA m t (fun s a => gI ts s a * (ws s).getD a 0) (fun j => test.getD j 0) t 0 = sz (m ^ t) fun p => (cps ts).getD p 0 * test.getD p 0 * pz t fun s => (ws s).getD (dgt m t s p) 0 := by
  rw [wA_top m t hts.m1]
  refine sz_congr fun p hp => ?_
  have h := cps_get (m := m) hts.m1 (ts := ts) (p := p) hts.len (by rw [hts.num]; exact hp)
  rw [hts.num] at h
  rw [pz_mul, h]
  grind
theorem ones_step {C : Ev.Ctx} {S : Store} {m : Nat} {ki : Int} {a b d : D} (hk : ki = (m : Int)) (hm : m ≤ 5) (ln : ∀ mm, doBi .len mm [d] S = .ok (.int ki) S) :
    turn (.nm 2) (evT C []) (evE C (.bin .mul false (.lst false [(.int 1)]) (.bi .len false [(.var 2)]))) [some a, some b, none] d S = .ok (some (.lst ((List.replicate m (1 : Int)).map .int))) S := by
  have lg := lim_ge
  simp only [run_eq, ss_nil, ss_cons, s_nm, s_asg, s_par, par2, par3, s_aug, augD_add, augD_sub, s_augIx, augX_add, augX_sub, s_expr, s_ret, s_retN, s_pass, s_brk, s_cont, s_ite, s_for, s_while, seqF_nx, seqF_rt, seqF_bk, seqF_ct, fnD_rt, fnD_nx, g_nm, g_tp, g_ix, gs_nil, gs_cons, e_int, e_bl, e_non, e_str, e_var, getV_0, getV_s, e_gl, opt_some, e_bin, e_neg, negD_int, e_not, notD_bl, e_and, e_or, bE_app, bolD_bl, okM_app, e_cmp, e_chain, chE_app, e_ite, e_tup, e_lst, e_ix, e_rev, e_slA, e_slL, e_slH, e_slLH, sl1_L, sl1_H, sl2_LH, e_call, e_bi, e_mt, e_comp, es_nil, es_cons, ifD_bl, ifD_t, ifD_f, b_ok, b_assoc, fTurn_eq, turn_eq, inT_some, inC_some, soE_app, evT_nil, evT_one, t_nm, t_tp, ts_nil, ts_cons, mkL_f, mkL_t, o_add, o_sub, c_lt, c_le, c_gt, c_ge, c_eqI, c_neI, b_int, b_intB, b_abs, b_max2, b_min2, b_gcd, b_lenT, b_lenL, b_lenS, b_tupT, b_tupL, b_lstT, b_lstL, b_isiT, b_isiI, b_isiB, revT, revL, ixT0, ixT1, ixT2, ixL0, ixL1, isI, q_vlT, q_vlL, q_vlS, q_enT, q_enL, q_zpTT, q_zpTL, q_zpLT, q_zpLL, forD_some, List.set_cons_zero, List.set_cons_succ, List.map_cons, List.map_nil, List.length_cons, List.length_nil, List.cons_append, List.nil_append, List.replicate_succ, List.replicate_zero, Nat.reduceAdd, Nat.reduceSub, Nat.reduceEqDiff, if_true, Option.bind_some, wipeD, ln, o_mulL' (xs := [D.int 1]) m hk (by simp only [List.length_cons, List.length_nil, Nat.zero_add, Nat.one_mul]; omega) (by omega), flat1]
theorem plain_spec {C : Ev.Ctx} {S : Store} {m t : Nat} {ts : List (List Int)} {test : List Int} (hw : WsOk C.cl) (hts : Ts ts m t) (htl : test.length = m ^ t) (hsg : SgL test) : runF C fd_plain_sum [tsD ts, tI test] S = .ok (.int (PS ts test (m ^ t))) S := by
  have lg := lim_ge
  have hm5 := hts.m5
  have ht3 := hts.t3
  have hsrc : srcOf .vl [tsD ts] S = some (ts.map tI, []) := rfl
  simp only [run_eq, ss_nil, ss_cons, s_nm, s_asg, s_par, par2, par3, s_aug, augD_add, augD_sub, s_augIx, augX_add, augX_sub, s_expr, s_ret, s_retN, s_pass, s_brk, s_cont, s_ite, s_for, s_while, seqF_nx, seqF_rt, seqF_bk, seqF_ct, fnD_rt, fnD_nx, g_nm, g_tp, g_ix, gs_nil, gs_cons, e_int, e_bl, e_non, e_str, e_var, getV_0, getV_s, e_gl, opt_some, e_bin, e_neg, negD_int, e_not, notD_bl, e_and, e_or, bE_app, bolD_bl, okM_app, e_cmp, e_chain, chE_app, e_ite, e_tup, e_lst, e_ix, e_rev, e_slA, e_slL, e_slH, e_slLH, sl1_L, sl1_H, sl2_LH, e_call, e_bi, e_mt, e_comp, es_nil, es_cons, ifD_bl, ifD_t, ifD_f, b_ok, b_assoc, fTurn_eq, turn_eq, inT_some, inC_some, soE_app, evT_nil, evT_one, t_nm, t_tp, ts_nil, ts_cons, mkL_f, mkL_t, o_add, o_sub, c_lt, c_le, c_gt, c_ge, c_eqI, c_neI, b_int, b_intB, b_abs, b_max2, b_min2, b_gcd, b_lenT, b_lenL, b_lenS, b_tupT, b_tupL, b_lstT, b_lstL, b_isiT, b_isiI, b_isiB, revT, revL, ixT0, ixT1, ixT2, ixL0, ixL1, isI, q_vlT, q_vlL, q_vlS, q_enT, q_enL, q_zpTT, q_zpTL, q_zpLT, q_zpLL, forD_some, List.set_cons_zero, List.set_cons_succ, List.map_cons, List.map_nil, List.length_cons, List.length_nil, List.cons_append, List.nil_append, List.replicate_succ, List.replicate_zero, Nat.reduceAdd, Nat.reduceSub, Nat.reduceEqDiff, if_true, Option.bind_some, wipeD, fd_plain_sum, hsrc, compD_some (show (ts.map tI).length ≤ LIM by rw [List.length_map, hts.num]; omega)]
  have hc : ∀ (l : List (List Int)) (acc : List D), (∀ x, x ∈ l → x ∈ ts) → compL [] (turn (.nm 2) (evT C []) (evE C (.bin .mul false (.lst false [(.int 1)]) (.bi .len false [(.var 2)]))) [some (tsD ts), some (tI test), none]) (l.map tI) acc S = .ok (acc ++ l.map fun _ => D.lst ((List.replicate m (1 : Int)).map .int)) S := by
    intro l
    induction l with
    | nil => intro acc _; simp [compL, dep_nil]
    | cons k l ih =>
      intro acc hl
      have hkm : (k.length : Int) = (m : Int) := by rw [hts.len k (hl k (by simp))]
      have step := ones_step (C := C) (S := S) (a := tsD ts) (b := tI test) (d := tI k) hkm hm5 fun mm => lenI
      simp only [List.map_cons, compL, dep_nil, if_true, step]
      rw [ih _ fun j hj => hl j (List.mem_cons_of_mem _ hj)]
      simp
  rw [hc ts [] fun _ h => h]
  have q := hw S m t ts test (.lst (ts.map fun _ => D.lst ((List.replicate m (1 : Int)).map .int))) (ts.map fun _ => D.lst ((List.replicate m (1 : Int)).map .int)) (fun _ => List.replicate m 1) hts htl hsg (by rw [revL, mkL_f]) (by rw [List.length_map, hts.num])
    (fun s hs => ⟨_, by rw [List.getElem?_map, List.getElem?_eq_getElem (show s < ts.length by rw [hts.num]; exact hs)]; rfl, .inr rfl, by simp⟩) (fun _ a => ones_getD m a)
  simp only [run_eq, ss_nil, ss_cons, s_nm, s_asg, s_par, par2, par3, s_aug, augD_add, augD_sub, s_augIx, augX_add, augX_sub, s_expr, s_ret, s_retN, s_pass, s_brk, s_cont, s_ite, s_for, s_while, seqF_nx, seqF_rt, seqF_bk, seqF_ct, fnD_rt, fnD_nx, g_nm, g_tp, g_ix, gs_nil, gs_cons, e_int, e_bl, e_non, e_str, e_var, getV_0, getV_s, e_gl, opt_some, e_bin, e_neg, negD_int, e_not, notD_bl, e_and, e_or, bE_app, bolD_bl, okM_app, e_cmp, e_chain, chE_app, e_ite, e_tup, e_lst, e_ix, e_rev, e_slA, e_slL, e_slH, e_slLH, sl1_L, sl1_H, sl2_LH, e_call, e_bi, e_mt, e_comp, es_nil, es_cons, ifD_bl, ifD_t, ifD_f, b_ok, b_assoc, fTurn_eq, turn_eq, inT_some, inC_some, soE_app, evT_nil, evT_one, t_nm, t_tp, ts_nil, ts_cons, mkL_f, mkL_t, o_add, o_sub, c_lt, c_le, c_gt, c_ge, c_eqI, c_neI, b_int, b_intB, b_abs, b_max2, b_min2, b_gcd, b_lenT, b_lenL, b_lenS, b_tupT, b_tupL, b_lstT, b_lstL, b_isiT, b_isiI, b_isiB, revT, revL, ixT0, ixT1, ixT2, ixL0, ixL1, isI, q_vlT, q_vlL, q_vlS, q_enT, q_enL, q_zpTT, q_zpTL, q_zpLT, q_zpLL, forD_some, List.set_cons_zero, List.set_cons_succ, List.map_cons, List.map_nil, List.length_cons, List.length_nil, List.cons_append, List.nil_append, List.replicate_succ, List.replicate_zero, Nat.reduceAdd, Nat.reduceSub, Nat.reduceEqDiff, if_true, Option.bind_some, wipeD, q]
  rw [top_eq hts]
  have : (sz (m ^ t) fun p => (cps ts).getD p 0 * test.getD p 0 * pz t fun s => (List.replicate m (1 : Int)).getD (dgt m t s p) 0) = PS ts test (m ^ t) := by
    refine sz_congr fun p hp => ?_
    have h1 : (pz t fun s => (List.replicate m (1 : Int)).getD (dgt m t s p) 0) = 1 := by
      have : ∀ n : Nat, (pz n fun s => (List.replicate m (1 : Int)).getD (dgt m t s p) 0) = 1 := fun n => by
        induction n with
        | zero => rfl
        | succ n ih => rw [pz, ih, ones_in (dgt_lt hts.m1)]; rfl
      exact this t
    rw [h1, Int.mul_one]
  rw [this]
theorem fq_def (z b : Int) : (z : Rat) / (b : Rat) = fq z b := rfl
theorem lim_of {n : Nat} (h : n ≤ 100000) : n ≤ LIM := Nat.le_trans h lim_ge
theorem lim_lt {n : Nat} (h : n < 100000) : n < LIM := Nat.lt_of_lt_of_le h lim_ge
theorem o_ones {S : Store} {m : Nat} {ki : Int} (hk : ki = (m : Int)) (hm : m ≤ 5) : doOp .mul false (.lst [.int 1]) (.int ki) S = .ok (.lst ((List.replicate m (1 : Int)).map .int)) S := by
  rw [o_mulL' (xs := [D.int 1]) m hk (lim_of (by simp only [List.length_cons, List.length_nil, Nat.zero_add, Nat.one_mul]; omega)) (by omega), flat1, mkL_f]
/-! ### the package's part -/
def wsF (ms : List (Int × List Int)) (m place s : Nat) : List Int := if s < place then (ms.getD s (1, [])).2.map fun w => mB ms s - w else if s = place then (ms.getD s (1, [])).2 else List.replicate m 1
def faD (ms : List (Int × List Int)) (m place s : Nat) : D := if s = place then tI (wsF ms m place s) else .lst ((wsF ms m place s).map .int)
theorem wsF_len {ms : List (Int × List Int)} {m t place s : Nat} (h : Mss ms m t) (hs : s < t) : (wsF ms m place s).length = m := by
  obtain ⟨p, h1, h2, h3, h4⟩ := h.get hs
  have e : ms.getD s (1, []) = p := by rw [List.getD_eq_getElem?_getD, h1]; rfl
  unfold wsF
  rw [e]
  split
  · rw [List.length_map, h2.len]
  · split
    · exact h2.len
    · simp
theorem wsF_get {ms : List (Int × List Int)} {m t place s a : Nat} (h : Mss ms m t) (hs : s < t) (ha : a < m) : (wsF ms m place s).getD a 0 = zn ms place s a := by
  obtain ⟨p, h1, h2, h3, h4⟩ := h.get hs
  have e : ms.getD s (1, []) = p := by rw [List.getD_eq_getElem?_getD, h1]; rfl
  have hl : a < p.2.length := by rw [h2.len]; exact ha
  unfold wsF zn
  rw [e]
  split
  · rw [h4, List.getD_eq_getElem?_getD, List.getElem?_map, List.getD_eq_getElem?_getD, List.getElem?_eq_getElem hl]; rfl
  · split
    · rw [h4]
    · exact ones_in ha
theorem wsF_bd {ms : List (Int × List Int)} {m t place : Nat} (h : Mss ms m t) (s a : Nat) : (wsF ms m place s).getD a 0 ≤ Cb ∧ 0 ≤ (wsF ms m place s).getD a 0 := by
  by_cases hs : s < t
  · by_cases ha : a < m
    · rw [wsF_get h hs ha]; exact ⟨(zn_bd h hs).2, (zn_bd h hs).1⟩
    · rw [List.getD_eq_getElem?_getD, List.getElem?_eq_none (by rw [wsF_len h hs]; omega)]; exact ⟨by decide, by decide⟩
  · have e : ms.getD s (1, []) = (1, []) := by rw [List.getD_eq_getElem?_getD, List.getElem?_eq_none (by rw [h.num]; omega)]; rfl
    unfold wsF
    rw [e]
    split
    · exact ⟨by show (0 : Int) ≤ Cb; decide, by show (0 : Int) ≤ 0; decide⟩
    · split
      · exact ⟨by show (0 : Int) ≤ Cb; decide, by show (0 : Int) ≤ 0; decide⟩
      · exact ones_getD m a
theorem partin_spec {C : Ev.Ctx} {S : Store} {m t place : Nat} {pl : Int} {ts : List (List Int)} {test : List Int} {ms : List (Int × List Int)} (hw : WsOk C.cl) (hf : FrOk C.cl 3)
    (hts : Ts ts m t) (htl : test.length = m ^ t) (hsg : SgL test) (hms : Mss ms m t) (hpl : pl = (place : Int)) :
    WP (runF C fd_part_in [tsD ts, tI test, mssD ms, .int pl] S) fun d S' => d = frD (fq (SZ ts test ms m t place (m ^ t)) (Dn ms place t)) ∧ Al S S' := by
  have c4 := cb_400
  have hm1 := hts.m1
  have hm5 := hts.m5
  have ht3 := hts.t3
  have hsrc : ∀ S, srcOf .en [mssD ms] S = some (enumD (ms.map msD) 0, []) := fun S => rfl
  simp only [run_eq, ss_nil, ss_cons, s_nm, s_asg, s_par, par2, par3, s_aug, augD_add, augD_sub, s_augIx, augX_add, augX_sub, s_expr, s_ret, s_retN, s_pass, s_brk, s_cont, s_ite, s_for, s_while, seqF_nx, seqF_rt, seqF_bk, seqF_ct, fnD_rt, fnD_nx, g_nm, g_tp, g_ix, gs_nil, gs_cons, e_int, e_bl, e_non, e_str, e_var, getV_0, getV_s, e_gl, opt_some, e_bin, e_neg, negD_int, e_not, notD_bl, e_and, e_or, bE_app, bolD_bl, okM_app, e_cmp, e_chain, chE_app, e_ite, e_tup, e_lst, e_ix, e_rev, e_slA, e_slL, e_slH, e_slLH, sl1_L, sl1_H, sl2_LH, e_call, e_bi, e_mt, e_comp, es_nil, es_cons, ifD_bl, ifD_t, ifD_f, b_ok, b_assoc, fTurn_eq, turn_eq, inT_some, inC_some, soE_app, evT_nil, evT_one, t_nm, t_tp, ts_nil, ts_cons, mkL_f, mkL_t, o_add, o_sub, c_lt, c_le, c_gt, c_ge, c_eqI, c_neI, b_int, b_intB, b_abs, b_max2, b_min2, b_gcd, b_lenT, b_lenL, b_lenS, b_tupT, b_tupL, b_lstT, b_lstL, b_isiT, b_isiI, b_isiB, revT, revL, ixT0, ixT1, ixT2, ixL0, ixL1, isI, q_vlT, q_vlL, q_vlS, q_enT, q_enL, q_zpTT, q_zpTL, q_zpLT, q_zpLL, forD_some, List.set_cons_zero, List.set_cons_succ, List.map_cons, List.map_nil, List.length_cons, List.length_nil, List.cons_append, List.nil_append, List.replicate_succ, List.replicate_zero, Nat.reduceAdd, Nat.reduceSub, Nat.reduceEqDiff, if_true, Option.bind_some, wipeD, fd_part_in, hsrc]
  generalize hk : S.length = k
  refine WP_call (for_inv (P := fun f S' => ∃ e6 e7 e8 e9, f = Fl.nx [some (tsD ts), some (tI test), some (mssD ms), some (.int pl), some (.ref k), some (.int (Dn ms place t)), e6, e7, e8, e9] ∧ S'[k]? = some (.lst ((List.range t).map (faD ms m place))) ∧ Al S S')
    (fun i env S' => ∃ e6 e7 e8 e9, env = [some (tsD ts), some (tI test), some (mssD ms), some (.int pl), some (.ref k), some (.int (Dn ms place i)), e6, e7, e8, e9] ∧ S'[k]? = some (.lst ((List.range i).map (faD ms m place))) ∧ Al S S') 0
    ⟨_, _, _, _, rfl, by rw [← hk]; simp, Al.one⟩ ?_ ?_) ?_
  · rintro i env S1 x ⟨e6, e7, e8, e9, rfl, hS, hal⟩ hi _ hx
    refine ⟨dep_nil, ?_⟩
    rw [Nat.sub_zero] at hx
    rw [enumD_len, List.length_map, hms.num, Nat.zero_add] at hi
    obtain ⟨y, hy, rfl⟩ := enumD_get hx
    obtain ⟨p, h1, h2, h3, h4⟩ := hms.get hi
    rw [List.getElem?_map, h1] at hy
    have hy : msD p = y := Option.some.inj hy
    subst hy
    have ep : ms.getD i (1, []) = p := by rw [List.getD_eq_getElem?_getD, h1]; rfl
    have hkl : k < S1.length := (List.getElem?_eq_some_iff.mp hS).1
    have hlen : ((List.range i).map (faD ms m place)).length < LIM := lim_lt (by simp; omega)
    have hnext : ∀ d, d = faD ms m place i → (S1.set k (.lst ((List.range i).map (faD ms m place) ++ [d])))[k]? = some (.lst ((List.range (i + 1)).map (faD ms m place))) := fun d hd => by
      rw [List.getElem?_set_self hkl, List.range_succ, List.map_append, hd]; rfl
    have hnD : ∀ z, bn ms place i = z → Dn ms place (i + 1) = Dn ms place i * z := fun z hz => by unfold Dn; rw [pz, hz]
    have hDi := Dn_bd (place := place) (n := i) hms (by omega) ht3
    have hBb := hms.B hi
    rw [h3] at hBb
    have mo : big2 (Dn ms place i) p.1 = true := mulOk (nat_abs_lt (c := Cb ^ 3) (by omega) c4.2.1) (nat_abs_lt (c := Cb) (by omega) c4.2.2.1)
    rw [Nat.zero_add]
    generalize hii : (i : Int) = ii
    have hsrc2 : ∀ S, srcOf .vl [tI p.2] S = some (p.2.map .int, []) := fun S => rfl
    unfold msD
    by_cases q1 : i < place
    · have q1' : ii < pl := by omega
      have q2' : ii ≤ pl := by omega
      simp only [run_eq, ss_nil, ss_cons, s_nm, s_asg, s_par, par2, par3, s_aug, augD_add, augD_sub, s_augIx, augX_add, augX_sub, s_expr, s_ret, s_retN, s_pass, s_brk, s_cont, s_ite, s_for, s_while, seqF_nx, seqF_rt, seqF_bk, seqF_ct, fnD_rt, fnD_nx, g_nm, g_tp, g_ix, gs_nil, gs_cons, e_int, e_bl, e_non, e_str, e_var, getV_0, getV_s, e_gl, opt_some, e_bin, e_neg, negD_int, e_not, notD_bl, e_and, e_or, bE_app, bolD_bl, okM_app, e_cmp, e_chain, chE_app, e_ite, e_tup, e_lst, e_ix, e_rev, e_slA, e_slL, e_slH, e_slLH, sl1_L, sl1_H, sl2_LH, e_call, e_bi, e_mt, e_comp, es_nil, es_cons, ifD_bl, ifD_t, ifD_f, b_ok, b_assoc, fTurn_eq, turn_eq, inT_some, inC_some, soE_app, evT_nil, evT_one, t_nm, t_tp, ts_nil, ts_cons, mkL_f, mkL_t, o_add, o_sub, c_lt, c_le, c_gt, c_ge, c_eqI, c_neI, b_int, b_intB, b_abs, b_max2, b_min2, b_gcd, b_lenT, b_lenL, b_lenS, b_tupT, b_tupL, b_lstT, b_lstL, b_isiT, b_isiI, b_isiB, revT, revL, ixT0, ixT1, ixT2, ixL0, ixL1, isI, q_vlT, q_vlL, q_vlS, q_enT, q_enL, q_zpTT, q_zpTL, q_zpLT, q_zpLL, forD_some, List.set_cons_zero, List.set_cons_succ, List.map_cons, List.map_nil, List.length_cons, List.length_nil, List.cons_append, List.nil_append, List.replicate_succ, List.replicate_zero, Nat.reduceAdd, Nat.reduceSub, Nat.reduceEqDiff, if_true, Option.bind_some, wipeD, decide_true, decide_false, not_true_eq_false, not_false_eq_true, Bool.false_eq_true, if_false, Bool.not_true, Bool.not_false, ne_eq, q2', q1', o_mul mo, hsrc2, compD_some (lim_of (show (p.2.map D.int).length ≤ 100000 by rw [List.length_map, h2.len]; omega))]
      rw [comp_int (fun w => p.1 - w) dep_nil fun w hw => by simp only [run_eq, ss_nil, ss_cons, s_nm, s_asg, s_par, par2, par3, s_aug, augD_add, augD_sub, s_augIx, augX_add, augX_sub, s_expr, s_ret, s_retN, s_pass, s_brk, s_cont, s_ite, s_for, s_while, seqF_nx, seqF_rt, seqF_bk, seqF_ct, fnD_rt, fnD_nx, g_nm, g_tp, g_ix, gs_nil, gs_cons, e_int, e_bl, e_non, e_str, e_var, getV_0, getV_s, e_gl, opt_some, e_bin, e_neg, negD_int, e_not, notD_bl, e_and, e_or, bE_app, bolD_bl, okM_app, e_cmp, e_chain, chE_app, e_ite, e_tup, e_lst, e_ix, e_rev, e_slA, e_slL, e_slH, e_slLH, sl1_L, sl1_H, sl2_LH, e_call, e_bi, e_mt, e_comp, es_nil, es_cons, ifD_bl, ifD_t, ifD_f, b_ok, b_assoc, fTurn_eq, turn_eq, inT_some, inC_some, soE_app, evT_nil, evT_one, t_nm, t_tp, ts_nil, ts_cons, mkL_f, mkL_t, o_add, o_sub, c_lt, c_le, c_gt, c_ge, c_eqI, c_neI, b_int, b_intB, b_abs, b_max2, b_min2, b_gcd, b_lenT, b_lenL, b_lenS, b_tupT, b_tupL, b_lstT, b_lstL, b_isiT, b_isiI, b_isiB, revT, revL, ixT0, ixT1, ixT2, ixL0, ixL1, isI, q_vlT, q_vlL, q_vlS, q_enT, q_enL, q_zpTT, q_zpTL, q_zpLT, q_zpLL, forD_some, List.set_cons_zero, List.set_cons_succ, List.map_cons, List.map_nil, List.length_cons, List.length_nil, List.cons_append, List.nil_append, List.replicate_succ, List.replicate_zero, Nat.reduceAdd, Nat.reduceSub, Nat.reduceEqDiff, if_true, Option.bind_some, wipeD]]
      simp only [run_eq, ss_nil, ss_cons, s_nm, s_asg, s_par, par2, par3, s_aug, augD_add, augD_sub, s_augIx, augX_add, augX_sub, s_expr, s_ret, s_retN, s_pass, s_brk, s_cont, s_ite, s_for, s_while, seqF_nx, seqF_rt, seqF_bk, seqF_ct, fnD_rt, fnD_nx, g_nm, g_tp, g_ix, gs_nil, gs_cons, e_int, e_bl, e_non, e_str, e_var, getV_0, getV_s, e_gl, opt_some, e_bin, e_neg, negD_int, e_not, notD_bl, e_and, e_or, bE_app, bolD_bl, okM_app, e_cmp, e_chain, chE_app, e_ite, e_tup, e_lst, e_ix, e_rev, e_slA, e_slL, e_slH, e_slLH, sl1_L, sl1_H, sl2_LH, e_call, e_bi, e_mt, e_comp, es_nil, es_cons, ifD_bl, ifD_t, ifD_f, b_ok, b_assoc, fTurn_eq, turn_eq, inT_some, inC_some, soE_app, evT_nil, evT_one, t_nm, t_tp, ts_nil, ts_cons, mkL_f, mkL_t, o_add, o_sub, c_lt, c_le, c_gt, c_ge, c_eqI, c_neI, b_int, b_intB, b_abs, b_max2, b_min2, b_gcd, b_lenT, b_lenL, b_lenS, b_tupT, b_tupL, b_lstT, b_lstL, b_isiT, b_isiI, b_isiB, revT, revL, ixT0, ixT1, ixT2, ixL0, ixL1, isI, q_vlT, q_vlL, q_vlS, q_enT, q_enL, q_zpTT, q_zpTL, q_zpLT, q_zpLL, forD_some, List.set_cons_zero, List.set_cons_succ, List.map_cons, List.map_nil, List.length_cons, List.length_nil, List.cons_append, List.nil_append, List.replicate_succ, List.replicate_zero, Nat.reduceAdd, Nat.reduceSub, Nat.reduceEqDiff, if_true, Option.bind_some, wipeD, decide_true, decide_false, not_true_eq_false, not_false_eq_true, Bool.false_eq_true, if_false, Bool.not_true, Bool.not_false, ne_eq, m_append hS hlen, WP_ok]
      rw [hnD p.1 (by unfold bn; rw [if_pos (by omega), h3])]
      refine ⟨_, _, _, _, rfl, hnext _ ?_, hal.set (by omega)⟩
      unfold faD wsF
      rw [if_neg (by omega), if_pos q1, ep, h3]
    · have q1' : ¬ ii < pl := by omega
      by_cases q2 : i = place
      · have q2' : ii ≤ pl := by omega
        have q3' : ii = pl := by omega
        simp only [run_eq, ss_nil, ss_cons, s_nm, s_asg, s_par, par2, par3, s_aug, augD_add, augD_sub, s_augIx, augX_add, augX_sub, s_expr, s_ret, s_retN, s_pass, s_brk, s_cont, s_ite, s_for, s_while, seqF_nx, seqF_rt, seqF_bk, seqF_ct, fnD_rt, fnD_nx, g_nm, g_tp, g_ix, gs_nil, gs_cons, e_int, e_bl, e_non, e_str, e_var, getV_0, getV_s, e_gl, opt_some, e_bin, e_neg, negD_int, e_not, notD_bl, e_and, e_or, bE_app, bolD_bl, okM_app, e_cmp, e_chain, chE_app, e_ite, e_tup, e_lst, e_ix, e_rev, e_slA, e_slL, e_slH, e_slLH, sl1_L, sl1_H, sl2_LH, e_call, e_bi, e_mt, e_comp, es_nil, es_cons, ifD_bl, ifD_t, ifD_f, b_ok, b_assoc, fTurn_eq, turn_eq, inT_some, inC_some, soE_app, evT_nil, evT_one, t_nm, t_tp, ts_nil, ts_cons, mkL_f, mkL_t, o_add, o_sub, c_lt, c_le, c_gt, c_ge, c_eqI, c_neI, b_int, b_intB, b_abs, b_max2, b_min2, b_gcd, b_lenT, b_lenL, b_lenS, b_tupT, b_tupL, b_lstT, b_lstL, b_isiT, b_isiI, b_isiB, revT, revL, ixT0, ixT1, ixT2, ixL0, ixL1, isI, q_vlT, q_vlL, q_vlS, q_enT, q_enL, q_zpTT, q_zpTL, q_zpLT, q_zpLL, forD_some, List.set_cons_zero, List.set_cons_succ, List.map_cons, List.map_nil, List.length_cons, List.length_nil, List.cons_append, List.nil_append, List.replicate_succ, List.replicate_zero, Nat.reduceAdd, Nat.reduceSub, Nat.reduceEqDiff, if_true, Option.bind_some, wipeD, decide_true, decide_false, not_true_eq_false, not_false_eq_true, Bool.false_eq_true, if_false, Bool.not_true, Bool.not_false, ne_eq, q2', q1', q3', o_mul mo, m_append hS hlen, WP_ok, Int.lt_irrefl, Int.le_refl]
        rw [hnD p.1 (by unfold bn; rw [if_pos (by omega), h3])]
        refine ⟨_, _, _, _, rfl, hnext _ ?_, hal.set (by omega)⟩
        unfold faD wsF
        rw [if_pos q2, if_neg q1, if_pos q2, ep]
      · have q2' : ¬ ii ≤ pl := by omega
        have q3' : ¬ ii = pl := by omega
        obtain ⟨pm, hpm, lp⟩ : ∃ pm : Int, pm = (m : Int) ∧ ∀ mm S, doBi .len mm [tI p.2] S = .ok (.int pm) S := ⟨(p.2.length : Int), by rw [h2.len], fun mm S => lenI⟩
        simp only [run_eq, ss_nil, ss_cons, s_nm, s_asg, s_par, par2, par3, s_aug, augD_add, augD_sub, s_augIx, augX_add, augX_sub, s_expr, s_ret, s_retN, s_pass, s_brk, s_cont, s_ite, s_for, s_while, seqF_nx, seqF_rt, seqF_bk, seqF_ct, fnD_rt, fnD_nx, g_nm, g_tp, g_ix, gs_nil, gs_cons, e_int, e_bl, e_non, e_str, e_var, getV_0, getV_s, e_gl, opt_some, e_bin, e_neg, negD_int, e_not, notD_bl, e_and, e_or, bE_app, bolD_bl, okM_app, e_cmp, e_chain, chE_app, e_ite, e_tup, e_lst, e_ix, e_rev, e_slA, e_slL, e_slH, e_slLH, sl1_L, sl1_H, sl2_LH, e_call, e_bi, e_mt, e_comp, es_nil, es_cons, ifD_bl, ifD_t, ifD_f, b_ok, b_assoc, fTurn_eq, turn_eq, inT_some, inC_some, soE_app, evT_nil, evT_one, t_nm, t_tp, ts_nil, ts_cons, mkL_f, mkL_t, o_add, o_sub, c_lt, c_le, c_gt, c_ge, c_eqI, c_neI, b_int, b_intB, b_abs, b_max2, b_min2, b_gcd, b_lenT, b_lenL, b_lenS, b_tupT, b_tupL, b_lstT, b_lstL, b_isiT, b_isiI, b_isiB, revT, revL, ixT0, ixT1, ixT2, ixL0, ixL1, isI, q_vlT, q_vlL, q_vlS, q_enT, q_enL, q_zpTT, q_zpTL, q_zpLT, q_zpLL, forD_some, List.set_cons_zero, List.set_cons_succ, List.map_cons, List.map_nil, List.length_cons, List.length_nil, List.cons_append, List.nil_append, List.replicate_succ, List.replicate_zero, Nat.reduceAdd, Nat.reduceSub, Nat.reduceEqDiff, if_true, Option.bind_some, wipeD, decide_true, decide_false, not_true_eq_false, not_false_eq_true, Bool.false_eq_true, if_false, Bool.not_true, Bool.not_false, ne_eq, q2', q1', q3', lp, o_ones hpm hm5, m_append hS hlen, WP_ok]
        rw [hnD 1 (by unfold bn; rw [if_neg (by omega)]), Int.mul_one]
        refine ⟨_, _, _, _, rfl, hnext _ ?_, hal.set (by omega)⟩
        unfold faD wsF
        rw [if_neg q2, if_neg q1, if_neg q2]
  · rintro env S1 ⟨e6, e7, e8, e9, rfl, hS, hal⟩
    rw [enumD_len, List.length_map, hms.num, Nat.zero_add] at *
    exact ⟨dep_nil, _, _, _, _, rfl, hS, hal⟩
  · rintro f S1 ⟨e6, e7, e8, e9, rfl, hS, hal⟩
    have q := hw S1 m t ts test (.ref k) ((List.range t).map (faD ms m place)) (wsF ms m place) hts htl hsg (by rw [revR hS, mkL_f]) (by simp)
      (fun s hs => ⟨_, by rw [List.getElem?_map, List.getElem?_range hs]; rfl, by unfold faD; split; exact .inl rfl; exact .inr rfl, wsF_len hms hs⟩) (fun s a => wsF_bd hms s a)
    have hDt := Dn_bd (place := place) (n := t) hms (Nat.le_refl t) ht3
    have e : wA m t (fun s a => gI ts s a * (wsF ms m place s).getD a 0) (fun j => test.getD j 0) t 0 = SZ ts test ms m t place (m ^ t) := by
      rw [top_eq hts]
      refine sz_congr fun p hp => ?_
      congr 1
      exact pz_congr fun s hs => wsF_get hms hs (dgt_lt hm1)
    rw [e] at q
    have h8 : (2 : Int) ^ 400 < 2 ^ 8000 := by decide +kernel
    have h9 : Dn ms place t < 2 ^ 8000 := by
      generalize (2 : Int) ^ 8000 = z at h8
      omega
    have hfr := hf S1 (SZ ts test ms m t place (m ^ t)) (Dn ms place t) hDt.1 h9
    rw [fq_def] at hfr
    simp only [run_eq, ss_nil, ss_cons, s_nm, s_asg, s_par, par2, par3, s_aug, augD_add, augD_sub, s_augIx, augX_add, augX_sub, s_expr, s_ret, s_retN, s_pass, s_brk, s_cont, s_ite, s_for, s_while, seqF_nx, seqF_rt, seqF_bk, seqF_ct, fnD_rt, fnD_nx, g_nm, g_tp, g_ix, gs_nil, gs_cons, e_int, e_bl, e_non, e_str, e_var, getV_0, getV_s, e_gl, opt_some, e_bin, e_neg, negD_int, e_not, notD_bl, e_and, e_or, bE_app, bolD_bl, okM_app, e_cmp, e_chain, chE_app, e_ite, e_tup, e_lst, e_ix, e_rev, e_slA, e_slL, e_slH, e_slLH, sl1_L, sl1_H, sl2_LH, e_call, e_bi, e_mt, e_comp, es_nil, es_cons, ifD_bl, ifD_t, ifD_f, b_ok, b_assoc, fTurn_eq, turn_eq, inT_some, inC_some, soE_app, evT_nil, evT_one, t_nm, t_tp, ts_nil, ts_cons, mkL_f, mkL_t, o_add, o_sub, c_lt, c_le, c_gt, c_ge, c_eqI, c_neI, b_int, b_intB, b_abs, b_max2, b_min2, b_gcd, b_lenT, b_lenL, b_lenS, b_tupT, b_tupL, b_lstT, b_lstL, b_isiT, b_isiI, b_isiB, revT, revL, ixT0, ixT1, ixT2, ixL0, ixL1, isI, q_vlT, q_vlL, q_vlS, q_enT, q_enL, q_zpTT, q_zpTL, q_zpLT, q_zpLL, forD_some, List.set_cons_zero, List.set_cons_succ, List.map_cons, List.map_nil, List.length_cons, List.length_nil, List.cons_append, List.nil_append, List.replicate_succ, List.replicate_zero, Nat.reduceAdd, Nat.reduceSub, Nat.reduceEqDiff, if_true, Option.bind_some, wipeD, q, hfr, WP_ok]
    exact ⟨trivial, hal⟩
end LW
namespace LW
open PySem L2 Ev
def partD (ts : List (List Int)) (test : List Int) (ms : List (Int × List Int)) (m t place : Nat) : D := frD (fq (SZ ts test ms m t place (m ^ t)) (Dn ms place t))
def SiOk (cl : Nat → List D → M D) : Prop := ∀ (S : Store) (m t place : Nat) (pl : Int) (ts : List (List Int)) (test : List Int) (ms : List (Int × List Int)), Ts ts m t → test.length = m ^ t → SgL test → Mss ms m t → pl = (place : Int) → WP (cl 14 [tsD ts, tI test, mssD ms, .int pl] S) fun d S' => d = partD ts test ms m t place ∧ Al S S'
structure ChkOk (cl : Nat → List D → M D) : Prop where
  rt : ∀ (S : Store) (ts : List (List Int)) (m t : Nat), Ts ts m t → cl 16 [tsD ts] S = .ok .non S
  rc : ∀ (S : Store) (test : List Int) (m t : Nat) (mi ti : Int), mi = (m : Int) → ti = (t : Int) → 1 ≤ m → m ≤ 5 → t ≤ 3 → test.length = m ^ t → m ^ t ≤ 125 → SgL test → cl 17 [.int mi, .int ti, tI test] S = .ok .non S
  np : ∀ (S : Store) (m t : Nat) (mi ti : Int), mi = (m : Int) → ti = (t : Int) → 1 ≤ m → m ≤ 5 → t ≤ 3 → m ^ t ≤ 125 → cl 18 [.int mi, .int ti] S = .ok .non S
  ap : ∀ (S : Store) (ms : List (Int × List Int)) (m t : Nat) (mi ti : Int), mi = (m : Int) → ti = (t : Int) → m ≤ 5 → t ≤ 3 → Mss ms m t → cl 19 [.int mi, .int ti, mssD ms] S = .ok (.bl true) S
theorem Ts.lens {ts : List (List Int)} {m t : Nat} (hts : Ts ts m t) : ∃ (mi ti : Int) (t0 : List Int), mi = (m : Int) ∧ ti = (t : Int) ∧ (∀ S, doIx (tsD ts) (.int 0) S = .ok (tI t0) S) ∧ (∀ S mm, doBi .len mm [tI t0] S = .ok (.int mi) S) ∧ (∀ S mm, doBi .len mm [tsD ts] S = .ok (.int ti) S) := by
  obtain ⟨t0, rest, e0, ht0⟩ := hts.hd
  exact ⟨(t0.length : Int), (ts.length : Int), t0, by rw [ht0], by rw [hts.num], fun S => by rw [e0]; exact ixT0, fun S mm => lenI, fun S mm => by unfold tsD; rw [b_lenT, List.length_map]⟩
theorem csum_spec {C : Ev.Ctx} {S : Store} {m t : Nat} {ts : List (List Int)} {test : List Int} (hc : ChkOk C.cl) (hp : ∀ S, C.cl 13 [tsD ts, tI test] S = .ok (.int (PS ts test (m ^ t))) S) (hts : Ts ts m t) (htl : test.length = m ^ t) (hsg : SgL test) :
    runF C fd_copies_sum [tsD ts, tI test] S = .ok (.int (PS ts test (m ^ t))) S := by
  obtain ⟨mi, ti, t0, h1, h2, h3, h4, h5⟩ := hts.lens
  have hpw := hts.pow'
  simp only [run_eq, ss_nil, ss_cons, s_nm, s_asg, s_par, par2, par3, s_aug, augD_add, augD_sub, s_augIx, augX_add, augX_sub, s_expr, s_ret, s_retN, s_pass, s_brk, s_cont, s_ite, s_for, s_while, seqF_nx, seqF_rt, seqF_bk, seqF_ct, fnD_rt, fnD_nx, g_nm, g_tp, g_ix, gs_nil, gs_cons, e_int, e_bl, e_non, e_str, e_var, getV_0, getV_s, e_gl, opt_some, e_bin, e_neg, negD_int, e_not, notD_bl, e_and, e_or, bE_app, bolD_bl, okM_app, e_cmp, e_chain, chE_app, e_ite, e_tup, e_lst, e_ix, e_rev, e_slA, e_slL, e_slH, e_slLH, sl1_L, sl1_H, sl2_LH, e_call, e_bi, e_mt, e_comp, es_nil, es_cons, ifD_bl, ifD_t, ifD_f, b_ok, b_assoc, fTurn_eq, turn_eq, inT_some, inC_some, soE_app, evT_nil, evT_one, t_nm, t_tp, ts_nil, ts_cons, mkL_f, mkL_t, o_add, o_sub, c_lt, c_le, c_gt, c_ge, c_eqI, c_neI, b_int, b_intB, b_abs, b_max2, b_min2, b_gcd, b_lenT, b_lenL, b_lenS, b_tupT, b_tupL, b_lstT, b_lstL, b_isiT, b_isiI, b_isiB, revT, revL, ixT0, ixT1, ixT2, ixL0, ixL1, isI, q_vlT, q_vlL, q_vlS, q_enT, q_enL, q_zpTT, q_zpTL, q_zpLT, q_zpLL, forD_some, List.set_cons_zero, List.set_cons_succ, List.map_cons, List.map_nil, List.length_cons, List.length_nil, List.cons_append, List.nil_append, List.replicate_succ, List.replicate_zero, Nat.reduceAdd, Nat.reduceSub, Nat.reduceEqDiff, if_true, Option.bind_some, wipeD, decide_true, decide_false, not_true_eq_false, not_false_eq_true, Bool.false_eq_true, if_false, Bool.not_true, Bool.not_false, ne_eq, fd_copies_sum, hc.rt S ts m t hts, h3, h4, h5, hc.rc S test m t mi ti h1 h2 hts.m1 hts.m5 hts.t3 htl hpw.2 hsg, hc.np S m t mi ti h1 h2 hts.m1 hts.m5 hts.t3 hpw.2, hp]
theorem splits_spec {C : Ev.Ctx} {S : Store} {m t : Nat} {ts : List (List Int)} {test : List Int} {ms : List (Int × List Int)} (hc : ChkOk C.cl) (hp : SiOk C.cl) (hts : Ts ts m t) (htl : test.length = m ^ t) (hsg : SgL test) (hms : Mss ms m t) :
    WP (runF C fd_splits [tsD ts, tI test, mssD ms] S) fun d S' => d = .tup ((List.range (t + 1)).map (partD ts test ms m t)) ∧ Al S S' := by
  obtain ⟨mi, ti, t0, h1, h2, h3, h4, h5⟩ := hts.lens
  have hpw := hts.pow'
  have ht3 := hts.t3
  have e1 : ti + 1 = ((t + 1 : Nat) : Int) := by omega
  simp only [run_eq, ss_nil, ss_cons, s_nm, s_asg, s_par, par2, par3, s_aug, augD_add, augD_sub, s_augIx, augX_add, augX_sub, s_expr, s_ret, s_retN, s_pass, s_brk, s_cont, s_ite, s_for, s_while, seqF_nx, seqF_rt, seqF_bk, seqF_ct, fnD_rt, fnD_nx, g_nm, g_tp, g_ix, gs_nil, gs_cons, e_int, e_bl, e_non, e_str, e_var, getV_0, getV_s, e_gl, opt_some, e_bin, e_neg, negD_int, e_not, notD_bl, e_and, e_or, bE_app, bolD_bl, okM_app, e_cmp, e_chain, chE_app, e_ite, e_tup, e_lst, e_ix, e_rev, e_slA, e_slL, e_slH, e_slLH, sl1_L, sl1_H, sl2_LH, e_call, e_bi, e_mt, e_comp, es_nil, es_cons, ifD_bl, ifD_t, ifD_f, b_ok, b_assoc, fTurn_eq, turn_eq, inT_some, inC_some, soE_app, evT_nil, evT_one, t_nm, t_tp, ts_nil, ts_cons, mkL_f, mkL_t, o_add, o_sub, c_lt, c_le, c_gt, c_ge, c_eqI, c_neI, b_int, b_intB, b_abs, b_max2, b_min2, b_gcd, b_lenT, b_lenL, b_lenS, b_tupT, b_tupL, b_lstT, b_lstL, b_isiT, b_isiI, b_isiB, revT, revL, ixT0, ixT1, ixT2, ixL0, ixL1, isI, q_vlT, q_vlL, q_vlS, q_enT, q_enL, q_zpTT, q_zpTL, q_zpLT, q_zpLL, forD_some, List.set_cons_zero, List.set_cons_succ, List.map_cons, List.map_nil, List.length_cons, List.length_nil, List.cons_append, List.nil_append, List.replicate_succ, List.replicate_zero, Nat.reduceAdd, Nat.reduceSub, Nat.reduceEqDiff, if_true, Option.bind_some, wipeD, decide_true, decide_false, not_true_eq_false, not_false_eq_true, Bool.false_eq_true, if_false, Bool.not_true, Bool.not_false, ne_eq, fd_splits, hc.rt S ts m t hts, h3, h4, h5, hc.rc S test m t mi ti h1 h2 hts.m1 hts.m5 hts.t3 htl hpw.2 hsg, hc.np S m t mi ti h1 h2 hts.m1 hts.m5 hts.t3 hpw.2, hc.ap S ms m t mi ti h1 h2 hts.m5 hts.t3 hms, q_rg1' e1 (lim_of (show t + 1 ≤ 100000 by omega)), compD_some (lim_of (show (natsD (t + 1)).length ≤ 100000 by rw [natsD_len]; omega))]
  refine WP_call (comp_inv (P := fun acc S' => acc = (List.range (t + 1)).map (partD ts test ms m t) ∧ Al S S') (fun i acc S' => acc = (List.range i).map (partD ts test ms m t) ∧ Al S S') 0 ⟨rfl, Al.refl S⟩ ?_ ?_) ?_
  · rintro i acc S1 x ⟨rfl, hal⟩ hi _ hx
    obtain ⟨rfl, hi2⟩ := natsD_get hx
    refine ⟨dep_nil, ?_⟩
    obtain ⟨pi, hpi⟩ : ∃ pi : Int, pi = (i : Int) := ⟨_, rfl⟩
    rw [Nat.sub_zero, ← hpi]
    simp only [run_eq, ss_nil, ss_cons, s_nm, s_asg, s_par, par2, par3, s_aug, augD_add, augD_sub, s_augIx, augX_add, augX_sub, s_expr, s_ret, s_retN, s_pass, s_brk, s_cont, s_ite, s_for, s_while, seqF_nx, seqF_rt, seqF_bk, seqF_ct, fnD_rt, fnD_nx, g_nm, g_tp, g_ix, gs_nil, gs_cons, e_int, e_bl, e_non, e_str, e_var, getV_0, getV_s, e_gl, opt_some, e_bin, e_neg, negD_int, e_not, notD_bl, e_and, e_or, bE_app, bolD_bl, okM_app, e_cmp, e_chain, chE_app, e_ite, e_tup, e_lst, e_ix, e_rev, e_slA, e_slL, e_slH, e_slLH, sl1_L, sl1_H, sl2_LH, e_call, e_bi, e_mt, e_comp, es_nil, es_cons, ifD_bl, ifD_t, ifD_f, b_ok, b_assoc, fTurn_eq, turn_eq, inT_some, inC_some, soE_app, evT_nil, evT_one, t_nm, t_tp, ts_nil, ts_cons, mkL_f, mkL_t, o_add, o_sub, c_lt, c_le, c_gt, c_ge, c_eqI, c_neI, b_int, b_intB, b_abs, b_max2, b_min2, b_gcd, b_lenT, b_lenL, b_lenS, b_tupT, b_tupL, b_lstT, b_lstL, b_isiT, b_isiI, b_isiB, revT, revL, ixT0, ixT1, ixT2, ixL0, ixL1, isI, q_vlT, q_vlL, q_vlS, q_enT, q_enL, q_zpTT, q_zpTL, q_zpLT, q_zpLL, forD_some, List.set_cons_zero, List.set_cons_succ, List.map_cons, List.map_nil, List.length_cons, List.length_nil, List.cons_append, List.nil_append, List.replicate_succ, List.replicate_zero, Nat.reduceAdd, Nat.reduceSub, Nat.reduceEqDiff, if_true, Option.bind_some, wipeD]
    refine WP_call (hp S1 m t i pi ts test ms hts htl hsg hms hpi) ?_
    rintro d S2 ⟨rfl, hal2⟩
    simp only [run_eq, ss_nil, ss_cons, s_nm, s_asg, s_par, par2, par3, s_aug, augD_add, augD_sub, s_augIx, augX_add, augX_sub, s_expr, s_ret, s_retN, s_pass, s_brk, s_cont, s_ite, s_for, s_while, seqF_nx, seqF_rt, seqF_bk, seqF_ct, fnD_rt, fnD_nx, g_nm, g_tp, g_ix, gs_nil, gs_cons, e_int, e_bl, e_non, e_str, e_var, getV_0, getV_s, e_gl, opt_some, e_bin, e_neg, negD_int, e_not, notD_bl, e_and, e_or, bE_app, bolD_bl, okM_app, e_cmp, e_chain, chE_app, e_ite, e_tup, e_lst, e_ix, e_rev, e_slA, e_slL, e_slH, e_slLH, sl1_L, sl1_H, sl2_LH, e_call, e_bi, e_mt, e_comp, es_nil, es_cons, ifD_bl, ifD_t, ifD_f, b_ok, b_assoc, fTurn_eq, turn_eq, inT_some, inC_some, soE_app, evT_nil, evT_one, t_nm, t_tp, ts_nil, ts_cons, mkL_f, mkL_t, o_add, o_sub, c_lt, c_le, c_gt, c_ge, c_eqI, c_neI, b_int, b_intB, b_abs, b_max2, b_min2, b_gcd, b_lenT, b_lenL, b_lenS, b_tupT, b_tupL, b_lstT, b_lstL, b_isiT, b_isiI, b_isiB, revT, revL, ixT0, ixT1, ixT2, ixL0, ixL1, isI, q_vlT, q_vlL, q_vlS, q_enT, q_enL, q_zpTT, q_zpTL, q_zpLT, q_zpLL, forD_some, List.set_cons_zero, List.set_cons_succ, List.map_cons, List.map_nil, List.length_cons, List.length_nil, List.cons_append, List.nil_append, List.replicate_succ, List.replicate_zero, Nat.reduceAdd, Nat.reduceSub, Nat.reduceEqDiff, if_true, Option.bind_some, wipeD, WP_ok]
    exact ⟨by rw [List.range_succ, List.map_append]; rfl, hal.trans hal2⟩
  · rintro acc S1 ⟨rfl, hal⟩
    rw [natsD_len, Nat.zero_add]
    exact ⟨dep_nil, rfl, hal⟩
  · rintro ys S1 ⟨rfl, hal⟩
    simp only [run_eq, ss_nil, ss_cons, s_nm, s_asg, s_par, par2, par3, s_aug, augD_add, augD_sub, s_augIx, augX_add, augX_sub, s_expr, s_ret, s_retN, s_pass, s_brk, s_cont, s_ite, s_for, s_while, seqF_nx, seqF_rt, seqF_bk, seqF_ct, fnD_rt, fnD_nx, g_nm, g_tp, g_ix, gs_nil, gs_cons, e_int, e_bl, e_non, e_str, e_var, getV_0, getV_s, e_gl, opt_some, e_bin, e_neg, negD_int, e_not, notD_bl, e_and, e_or, bE_app, bolD_bl, okM_app, e_cmp, e_chain, chE_app, e_ite, e_tup, e_lst, e_ix, e_rev, e_slA, e_slL, e_slH, e_slLH, sl1_L, sl1_H, sl2_LH, e_call, e_bi, e_mt, e_comp, es_nil, es_cons, ifD_bl, ifD_t, ifD_f, b_ok, b_assoc, fTurn_eq, turn_eq, inT_some, inC_some, soE_app, evT_nil, evT_one, t_nm, t_tp, ts_nil, ts_cons, mkL_f, mkL_t, o_add, o_sub, c_lt, c_le, c_gt, c_ge, c_eqI, c_neI, b_int, b_intB, b_abs, b_max2, b_min2, b_gcd, b_lenT, b_lenL, b_lenS, b_tupT, b_tupL, b_lstT, b_lstL, b_isiT, b_isiI, b_isiB, revT, revL, ixT0, ixT1, ixT2, ixL0, ixL1, isI, q_vlT, q_vlL, q_vlS, q_enT, q_enL, q_zpTT, q_zpTL, q_zpLT, q_zpLL, forD_some, List.set_cons_zero, List.set_cons_succ, List.map_cons, List.map_nil, List.length_cons, List.length_nil, List.cons_append, List.nil_append, List.replicate_succ, List.replicate_zero, Nat.reduceAdd, Nat.reduceSub, Nat.reduceEqDiff, if_true, Option.bind_some, wipeD, WP_ok]
    exact ⟨trivial, hal⟩
/-! ### the parts add up -/
def En (ms : List (Int × List Int)) (place t : Nat) : Int := pz t fun s => if s ≤ place then 1 else mB ms s
def Yn (ts : List (List Int)) (test : List Int) (ms : List (Int × List Int)) (m t n : Nat) : Int := sz n fun place => SZ ts test ms m t place (m ^ t) * En ms place t
def DT (ms : List (Int × List Int)) (t : Nat) : Int := pz t (mB ms)
theorem DE (ms : List (Int × List Int)) (place t : Nat) : Dn ms place t * En ms place t = DT ms t := by
  unfold Dn En DT
  rw [← pz_mul]
  refine pz_congr fun s hs => ?_
  unfold bn
  split
  · rw [Int.mul_one]
  · rw [Int.one_mul]
theorem zE {ms : List (Int × List Int)} {m t place p : Nat} : dotZ ms m t place p t * En ms place t = pz t (gt (fun s => mW ms s (dgt m t s p)) (mB ms) place) := by
  unfold dotZ En
  rw [← pz_mul]
  refine pz_congr fun s hs => ?_
  unfold zn gt
  by_cases h1 : s < place
  · rw [if_pos h1, if_pos h1, if_pos (by omega), Int.mul_one]
  · by_cases h2 : s = place
    · rw [if_neg h1, if_pos h2, if_neg h1, if_pos h2, if_pos (by omega), Int.mul_one]
    · rw [if_neg h1, if_neg h2, if_neg h1, if_neg h2, if_neg (by omega), Int.one_mul]
theorem Y_all (ts : List (List Int)) (test : List Int) (ms : List (Int × List Int)) (m t : Nat) : Yn ts test ms m t (t + 1) = PS ts test (m ^ t) * DT ms t := by
  unfold Yn SZ PS
  rw [sz_mulR]
  have e : (sz (t + 1) fun place => sz (m ^ t) (fun p => (cps ts).getD p 0 * test.getD p 0 * dotZ ms m t place p t) * En ms place t) = sz (t + 1) fun place => sz (m ^ t) fun p => (cps ts).getD p 0 * test.getD p 0 * (dotZ ms m t place p t * En ms place t) :=
    sz_congr fun place _ => by rw [sz_mulR]; exact sz_congr fun p _ => by grind
  rw [e, sz_swap]
  refine sz_congr fun p hp => ?_
  rw [← sz_mulL]
  congr 1
  rw [DT, ← tele (fun s => mW ms s (dgt m t s p)) (mB ms) t]
  exact sz_congr fun place _ => zE
theorem DT_bd {ms : List (Int × List Int)} {m t : Nat} (h : Mss ms m t) (ht : t ≤ 3) : 0 < DT ms t ∧ DT ms t ≤ Cb ^ 3 :=
  ⟨pz_pos fun s hs => by have := h.B hs; omega, pz_const_le (by decide) (by omega) fun s hs => by have := h.B hs; omega⟩
theorem En_bd {ms : List (Int × List Int)} {m t place : Nat} (h : Mss ms m t) (ht : t ≤ 3) : 0 < En ms place t ∧ En ms place t ≤ Cb ^ 3 := by
  have hb : ∀ s, s < t → 1 ≤ (if s ≤ place then (1 : Int) else mB ms s) ∧ (if s ≤ place then (1 : Int) else mB ms s) ≤ Cb := fun s hs => by
    split
    · exact ⟨Int.le_refl _, by decide⟩
    · exact h.B hs
  exact ⟨pz_pos fun s hs => by have := hb s hs; omega, pz_const_le (by decide) (by omega) fun s hs => by have := hb s hs; omega⟩
theorem nat_abs_lt9 {x c : Int} (h : x ≤ c ∧ -c ≤ x) (hc : c < 2 ^ 900) : x.natAbs < 2 ^ 1000 := by
  have h2 : (2 : Nat) ^ 900 < 2 ^ 1000 := Nat.pow_lt_pow_right (by decide) (by decide)
  have h3 : x.natAbs < 2 ^ 900 := by
    have : (x.natAbs : Int) < 2 ^ 900 := by omega
    exact_mod_cast this
  exact Nat.lt_trans h3 h2
theorem Yn_bd {ts : List (List Int)} {test : List Int} {ms : List (Int × List Int)} {m t n : Nat} (hs : SgL (cps ts)) (ht : SgL test) (h : Mss ms m t) (ht3 : t ≤ 3) (hm : m ^ t ≤ 125) (hn : n ≤ 4) : (Yn ts test ms m t n).natAbs < 2 ^ 1000 := by
  have q := sz_abs (n := n) (c := 125 * Cb ^ 3 * Cb ^ 3) (f := fun place => SZ ts test ms m t place (m ^ t) * En ms place t) fun p hp => by
    have a := SZ_bd (place := p) (n := m ^ t) hs ht h ht3 hm
    have b := En_bd (place := p) h ht3
    generalize SZ ts test ms m t p (m ^ t) = x at a
    generalize En ms p t = y at b
    have hm : ((x * y).natAbs : Int) ≤ 125 * Cb ^ 3 * Cb ^ 3 := by
      rw [Int.natAbs_mul]; push_cast
      exact Int.mul_le_mul (by omega) (by omega) (by omega) (by have := cb_400.2.2.2; omega)
    omega
  have hc : 0 < 125 * Cb ^ 3 * Cb ^ 3 ∧ 4 * (125 * Cb ^ 3 * Cb ^ 3) < 2 ^ 900 := by decide +kernel
  refine nat_abs_lt9 (c := 4 * (125 * Cb ^ 3 * Cb ^ 3)) ?_ hc.2
  have e : (n : Int) * (125 * Cb ^ 3 * Cb ^ 3) ≤ 4 * (125 * Cb ^ 3 * Cb ^ 3) := Int.mul_le_mul_of_nonneg_right (by omega) (by omega)
  unfold Yn
  omega
end LW
namespace LW
open PySem L2 Ev
def MeOk (cl : Nat → List D → M D) : Prop := ∀ (S : Store) (n N m : Nat) (mi : Int), mi = (m : Int) → Di n N S → N + 100 < 2 ^ 100 → m ≤ 10 → WP (cl 35 [.ref n, .int mi] S) fun d S' => ∃ p, d = msD p ∧ Ms p.1 p.2 m ∧ Fr n S S' ∧ Di n (N + 50) S'
def CtOk (cl : Nat → List D → M D) : Prop := ∀ (S : Store) (n N m t : Nat) (ts : List (List Int)), Di n N S → N + 1000 < 2 ^ 100 → Ts ts m t → WP (cl 34 [.ref n, tsD ts] S) fun d S' => ∃ l, d = tI l ∧ l.length = m ^ t ∧ SgL l ∧ Fr n S S' ∧ Di n (N + 500) S'
def SpOk (cl : Nat → List D → M D) : Prop := ∀ (S : Store) (m t : Nat) (ts : List (List Int)) (test : List Int) (ms : List (Int × List Int)), Ts ts m t → test.length = m ^ t → SgL test → Mss ms m t → WP (cl 21 [tsD ts, tI test, mssD ms] S) fun d S' => d = .tup ((List.range (t + 1)).map (partD ts test ms m t)) ∧ Al S S'
def PaOk (cl : Nat → List D → M D) : Prop := ∀ (S : Store) (m t place : Nat) (pl : Int) (ts : List (List Int)) (test : List Int) (ms : List (Int × List Int)), Ts ts m t → test.length = m ^ t → SgL test → Mss ms m t → pl = (place : Int) → place ≤ t → WP (cl 33 [tsD ts, tI test, mssD ms, .int pl] S) fun d S' => d = partD ts test ms m t place ∧ Al S S'
def CsOk (cl : Nat → List D → M D) : Prop := ∀ (S : Store) (m t : Nat) (ts : List (List Int)) (test : List Int), Ts ts m t → test.length = m ^ t → SgL test → cl 20 [tsD ts, tI test] S = .ok (.int (PS ts test (m ^ t))) S
theorem right_spec {C : Ev.Ctx} {S : Store} {n N : Nat} (ho : OfOk C.cl) (ht : TrOk C.cl) (hm : MeOk C.cl) (hct : CtOk C.cl) (hsp : SpOk C.cl) (hpa : PaOk C.cl) (hcs : CsOk C.cl) (hadd : QOk C.cl 27 (· + ·)) (h : Di n N S) (hN : N + 10000 < 2 ^ 100) :
    WP (runF C fd_law_right [.ref n] S) fun d S' => d = .bl true ∧ Fr n S S' ∧ Di n (N + 1000) S' := by
  simp only [run_eq, ss_nil, ss_cons, s_nm, s_asg, s_par, par2, par3, s_aug, augD_add, augD_sub, s_augIx, augX_add, augX_sub, s_expr, s_ret, s_retN, s_pass, s_brk, s_cont, s_ite, s_for, s_while, seqF_nx, seqF_rt, seqF_bk, seqF_ct, fnD_rt, fnD_nx, g_nm, g_tp, g_ix, gs_nil, gs_cons, e_int, e_bl, e_non, e_str, e_var, getV_0, getV_s, e_gl, opt_some, e_bin, e_neg, negD_int, e_not, notD_bl, e_and, e_or, bE_app, bolD_bl, okM_app, e_cmp, e_chain, chE_app, e_ite, e_tup, e_lst, e_ix, e_rev, e_slA, e_slL, e_slH, e_slLH, sl1_L, sl1_H, sl2_LH, e_call, e_bi, e_mt, e_comp, es_nil, es_cons, ifD_bl, ifD_t, ifD_f, b_ok, b_assoc, fTurn_eq, turn_eq, inT_some, inC_some, soE_app, evT_nil, evT_one, t_nm, t_tp, ts_nil, ts_cons, mkL_f, mkL_t, o_add, o_sub, c_lt, c_le, c_gt, c_ge, c_eqI, c_neI, b_int, b_intB, b_abs, b_max2, b_min2, b_gcd, b_lenT, b_lenL, b_lenS, b_tupT, b_tupL, b_lstT, b_lstL, b_isiT, b_isiI, b_isiB, revT, revL, ixT0, ixT1, ixT2, ixL0, ixL1, isI, q_vlT, q_vlL, q_vlS, q_enT, q_enL, q_zpTT, q_zpTL, q_zpLT, q_zpLL, forD_some, List.set_cons_zero, List.set_cons_succ, List.map_cons, List.map_nil, List.length_cons, List.length_nil, List.cons_append, List.nil_append, List.replicate_succ, List.replicate_zero, Nat.reduceAdd, Nat.reduceSub, Nat.reduceEqDiff, if_true, Option.bind_some, wipeD, fd_law_right]
  refine WP_call (ho S n N _ h (by omega) (by simp) (by simp)) ?_
  rintro d S1 ⟨hd, f1, d1⟩
  obtain ⟨t, ti, hti, t1, t3, rfl⟩ : ∃ (t : Nat) (ti : Int), ti = (t : Int) ∧ 1 ≤ t ∧ t ≤ 3 ∧ d = .int ti := by
    simp only [List.mem_cons, List.not_mem_nil, or_false] at hd
    rcases hd with rfl | rfl | rfl | rfl
    · exact ⟨1, 1, rfl, by decide, by decide, rfl⟩
    · exact ⟨2, 2, rfl, by decide, by decide, rfl⟩
    · exact ⟨2, 2, rfl, by decide, by decide, rfl⟩
    · exact ⟨3, 3, rfl, by decide, by decide, rfl⟩
  obtain ⟨xs, hxs, hx0, hx1, hx2⟩ : ∃ xs : List D, (∀ S, doIx (.lst [.lst [.int 1, .int 3, .int 5], .lst [.int 1, .int 2, .int 3, .int 4, .int 5], .lst [.int 1, .int 2, .int 3, .int 3]]) (.int (ti - 1)) S = .ok (.lst xs) S) ∧ xs ≠ [] ∧ xs.length < 100 ∧ ∀ d, d ∈ xs → ∃ (m : Nat) (mi : Int), mi = (m : Int) ∧ 1 ≤ m ∧ m ≤ 5 ∧ d = .int mi := by
    have hv : t = 1 ∨ t = 2 ∨ t = 3 := by omega
    have g : ∀ d, d ∈ [D.int 1, D.int 2, D.int 3, D.int 4, D.int 5] → ∃ (m : Nat) (mi : Int), mi = (m : Int) ∧ 1 ≤ m ∧ m ≤ 5 ∧ d = .int mi := fun d hd => by
      simp only [List.mem_cons, List.not_mem_nil, or_false] at hd
      rcases hd with rfl | rfl | rfl | rfl | rfl
      · exact ⟨1, 1, rfl, by decide, by decide, rfl⟩
      · exact ⟨2, 2, rfl, by decide, by decide, rfl⟩
      · exact ⟨3, 3, rfl, by decide, by decide, rfl⟩
      · exact ⟨4, 4, rfl, by decide, by decide, rfl⟩
      · exact ⟨5, 5, rfl, by decide, by decide, rfl⟩
    rcases hv with rfl | rfl | rfl
    · exact ⟨_, fun S => ixL' (k := 0) (by rw [hti]; rfl) rfl, by simp, by simp, fun d hd => g d (by simp only [List.mem_cons, List.not_mem_nil, or_false] at hd ⊢; rcases hd with h | h | h <;> simp [h])⟩
    · exact ⟨_, fun S => ixL' (k := 1) (by rw [hti]; rfl) rfl, by simp, by simp, fun d hd => g d hd⟩
    · exact ⟨_, fun S => ixL' (k := 2) (by rw [hti]; rfl) rfl, by simp, by simp, fun d hd => g d (by simp only [List.mem_cons, List.not_mem_nil, or_false] at hd ⊢; rcases hd with h | h | h | h <;> simp [h])⟩
  simp only [run_eq, ss_nil, ss_cons, s_nm, s_asg, s_par, par2, par3, s_aug, augD_add, augD_sub, s_augIx, augX_add, augX_sub, s_expr, s_ret, s_retN, s_pass, s_brk, s_cont, s_ite, s_for, s_while, seqF_nx, seqF_rt, seqF_bk, seqF_ct, fnD_rt, fnD_nx, g_nm, g_tp, g_ix, gs_nil, gs_cons, e_int, e_bl, e_non, e_str, e_var, getV_0, getV_s, e_gl, opt_some, e_bin, e_neg, negD_int, e_not, notD_bl, e_and, e_or, bE_app, bolD_bl, okM_app, e_cmp, e_chain, chE_app, e_ite, e_tup, e_lst, e_ix, e_rev, e_slA, e_slL, e_slH, e_slLH, sl1_L, sl1_H, sl2_LH, e_call, e_bi, e_mt, e_comp, es_nil, es_cons, ifD_bl, ifD_t, ifD_f, b_ok, b_assoc, fTurn_eq, turn_eq, inT_some, inC_some, soE_app, evT_nil, evT_one, t_nm, t_tp, ts_nil, ts_cons, mkL_f, mkL_t, o_add, o_sub, c_lt, c_le, c_gt, c_ge, c_eqI, c_neI, b_int, b_intB, b_abs, b_max2, b_min2, b_gcd, b_lenT, b_lenL, b_lenS, b_tupT, b_tupL, b_lstT, b_lstL, b_isiT, b_isiI, b_isiB, revT, revL, ixT0, ixT1, ixT2, ixL0, ixL1, isI, q_vlT, q_vlL, q_vlS, q_enT, q_enL, q_zpTT, q_zpTL, q_zpLT, q_zpLL, forD_some, List.set_cons_zero, List.set_cons_succ, List.map_cons, List.map_nil, List.length_cons, List.length_nil, List.cons_append, List.nil_append, List.replicate_succ, List.replicate_zero, Nat.reduceAdd, Nat.reduceSub, Nat.reduceEqDiff, if_true, Option.bind_some, wipeD, hxs]
  refine WP_call (ho S1 n _ xs d1 (by omega) hx0 hx1) ?_
  rintro d S2 ⟨hd, f2, d2⟩
  obtain ⟨m, mi, hmi, m1, m5, rfl⟩ := hx2 d hd
  clear hd
  have f02 := f1.trans f2
  simp only [run_eq, ss_nil, ss_cons, s_nm, s_asg, s_par, par2, par3, s_aug, augD_add, augD_sub, s_augIx, augX_add, augX_sub, s_expr, s_ret, s_retN, s_pass, s_brk, s_cont, s_ite, s_for, s_while, seqF_nx, seqF_rt, seqF_bk, seqF_ct, fnD_rt, fnD_nx, g_nm, g_tp, g_ix, gs_nil, gs_cons, e_int, e_bl, e_non, e_str, e_var, getV_0, getV_s, e_gl, opt_some, e_bin, e_neg, negD_int, e_not, notD_bl, e_and, e_or, bE_app, bolD_bl, okM_app, e_cmp, e_chain, chE_app, e_ite, e_tup, e_lst, e_ix, e_rev, e_slA, e_slL, e_slH, e_slLH, sl1_L, sl1_H, sl2_LH, e_call, e_bi, e_mt, e_comp, es_nil, es_cons, ifD_bl, ifD_t, ifD_f, b_ok, b_assoc, fTurn_eq, turn_eq, inT_some, inC_some, soE_app, evT_nil, evT_one, t_nm, t_tp, ts_nil, ts_cons, mkL_f, mkL_t, o_add, o_sub, c_lt, c_le, c_gt, c_ge, c_eqI, c_neI, b_int, b_intB, b_abs, b_max2, b_min2, b_gcd, b_lenT, b_lenL, b_lenS, b_tupT, b_tupL, b_lstT, b_lstL, b_isiT, b_isiI, b_isiB, revT, revL, ixT0, ixT1, ixT2, ixL0, ixL1, isI, q_vlT, q_vlL, q_vlS, q_enT, q_enL, q_zpTT, q_zpTL, q_zpLT, q_zpLL, forD_some, List.set_cons_zero, List.set_cons_succ, List.map_cons, List.map_nil, List.length_cons, List.length_nil, List.cons_append, List.nil_append, List.replicate_succ, List.replicate_zero, Nat.reduceAdd, Nat.reduceSub, Nat.reduceEqDiff, if_true, Option.bind_some, wipeD, q_rg1' hti (lim_of (show t ≤ 100000 by omega)), compD_some (lim_of (show (natsD t).length ≤ 100000 by rw [natsD_len]; omega))]
  refine WP_call (comp_inv (P := fun acc S' => ∃ us, acc = us.map tI ∧ Ts us m t ∧ Fr n S S' ∧ Di n (N + 100) S')
    (fun i acc S' => ∃ us : List (List Int), acc = us.map tI ∧ us.length = i ∧ (∀ s, s ∈ us → SgL s) ∧ (∀ s, s ∈ us → s.length = m) ∧ Fr n S S' ∧ Di n (N + 2 + 6 * i) S') 0
    ⟨[], rfl, rfl, fun _ hx => (nomatch hx), fun _ hx => (nomatch hx), f02, d2⟩ ?_ ?_) ?_
  · rintro i acc S3 x ⟨us, rfl, hl, hs, hm', hf, hd⟩ hi _ hx
    obtain ⟨rfl, hi2⟩ := natsD_get hx
    refine ⟨dep_nil, ?_⟩
    simp only [run_eq, ss_nil, ss_cons, s_nm, s_asg, s_par, par2, par3, s_aug, augD_add, augD_sub, s_augIx, augX_add, augX_sub, s_expr, s_ret, s_retN, s_pass, s_brk, s_cont, s_ite, s_for, s_while, seqF_nx, seqF_rt, seqF_bk, seqF_ct, fnD_rt, fnD_nx, g_nm, g_tp, g_ix, gs_nil, gs_cons, e_int, e_bl, e_non, e_str, e_var, getV_0, getV_s, e_gl, opt_some, e_bin, e_neg, negD_int, e_not, notD_bl, e_and, e_or, bE_app, bolD_bl, okM_app, e_cmp, e_chain, chE_app, e_ite, e_tup, e_lst, e_ix, e_rev, e_slA, e_slL, e_slH, e_slLH, sl1_L, sl1_H, sl2_LH, e_call, e_bi, e_mt, e_comp, es_nil, es_cons, ifD_bl, ifD_t, ifD_f, b_ok, b_assoc, fTurn_eq, turn_eq, inT_some, inC_some, soE_app, evT_nil, evT_one, t_nm, t_tp, ts_nil, ts_cons, mkL_f, mkL_t, o_add, o_sub, c_lt, c_le, c_gt, c_ge, c_eqI, c_neI, b_int, b_intB, b_abs, b_max2, b_min2, b_gcd, b_lenT, b_lenL, b_lenS, b_tupT, b_tupL, b_lstT, b_lstL, b_isiT, b_isiI, b_isiB, revT, revL, ixT0, ixT1, ixT2, ixL0, ixL1, isI, q_vlT, q_vlL, q_vlS, q_enT, q_enL, q_zpTT, q_zpTL, q_zpLT, q_zpLL, forD_some, List.set_cons_zero, List.set_cons_succ, List.map_cons, List.map_nil, List.length_cons, List.length_nil, List.cons_append, List.nil_append, List.replicate_succ, List.replicate_zero, Nat.reduceAdd, Nat.reduceSub, Nat.reduceEqDiff, if_true, Option.bind_some, wipeD]
    refine WP_call (ht S3 n _ m mi hmi hd (by omega) (by omega)) ?_
    rintro d S4 ⟨l, rfl, g1, g2, g3, g4⟩
    simp only [run_eq, ss_nil, ss_cons, s_nm, s_asg, s_par, par2, par3, s_aug, augD_add, augD_sub, s_augIx, augX_add, augX_sub, s_expr, s_ret, s_retN, s_pass, s_brk, s_cont, s_ite, s_for, s_while, seqF_nx, seqF_rt, seqF_bk, seqF_ct, fnD_rt, fnD_nx, g_nm, g_tp, g_ix, gs_nil, gs_cons, e_int, e_bl, e_non, e_str, e_var, getV_0, getV_s, e_gl, opt_some, e_bin, e_neg, negD_int, e_not, notD_bl, e_and, e_or, bE_app, bolD_bl, okM_app, e_cmp, e_chain, chE_app, e_ite, e_tup, e_lst, e_ix, e_rev, e_slA, e_slL, e_slH, e_slLH, sl1_L, sl1_H, sl2_LH, e_call, e_bi, e_mt, e_comp, es_nil, es_cons, ifD_bl, ifD_t, ifD_f, b_ok, b_assoc, fTurn_eq, turn_eq, inT_some, inC_some, soE_app, evT_nil, evT_one, t_nm, t_tp, ts_nil, ts_cons, mkL_f, mkL_t, o_add, o_sub, c_lt, c_le, c_gt, c_ge, c_eqI, c_neI, b_int, b_intB, b_abs, b_max2, b_min2, b_gcd, b_lenT, b_lenL, b_lenS, b_tupT, b_tupL, b_lstT, b_lstL, b_isiT, b_isiI, b_isiB, revT, revL, ixT0, ixT1, ixT2, ixL0, ixL1, isI, q_vlT, q_vlL, q_vlS, q_enT, q_enL, q_zpTT, q_zpTL, q_zpLT, q_zpLL, forD_some, List.set_cons_zero, List.set_cons_succ, List.map_cons, List.map_nil, List.length_cons, List.length_nil, List.cons_append, List.nil_append, List.replicate_succ, List.replicate_zero, Nat.reduceAdd, Nat.reduceSub, Nat.reduceEqDiff, if_true, Option.bind_some, wipeD, WP_ok]
    refine ⟨us ++ [l], by simp, by simp [hl], fun s hs' => ?_, fun s hs' => ?_, hf.trans g3, g4.mono (by omega)⟩
    · rcases List.mem_append.mp hs' with z | z
      · exact hs s z
      · rw [List.mem_singleton.mp z]; exact g2
    · rcases List.mem_append.mp hs' with z | z
      · exact hm' s z
      · rw [List.mem_singleton.mp z]; exact g1
  · rintro acc S3 ⟨us, rfl, hl, hs, hm', hf, hd⟩
    rw [natsD_len] at hl hd
    exact ⟨dep_nil, us, rfl, ⟨hs, hm', m1, m5, by omega, t1, t3⟩, hf, hd.mono (by omega)⟩
  rintro ys S3 ⟨ts, rfl, hts, f3, d3⟩
  have eT : D.tup (ts.map tI) = tsD ts := rfl
  simp only [run_eq, ss_nil, ss_cons, s_nm, s_asg, s_par, par2, par3, s_aug, augD_add, augD_sub, s_augIx, augX_add, augX_sub, s_expr, s_ret, s_retN, s_pass, s_brk, s_cont, s_ite, s_for, s_while, seqF_nx, seqF_rt, seqF_bk, seqF_ct, fnD_rt, fnD_nx, g_nm, g_tp, g_ix, gs_nil, gs_cons, e_int, e_bl, e_non, e_str, e_var, getV_0, getV_s, e_gl, opt_some, e_bin, e_neg, negD_int, e_not, notD_bl, e_and, e_or, bE_app, bolD_bl, okM_app, e_cmp, e_chain, chE_app, e_ite, e_tup, e_lst, e_ix, e_rev, e_slA, e_slL, e_slH, e_slLH, sl1_L, sl1_H, sl2_LH, e_call, e_bi, e_mt, e_comp, es_nil, es_cons, ifD_bl, ifD_t, ifD_f, b_ok, b_assoc, fTurn_eq, turn_eq, inT_some, inC_some, soE_app, evT_nil, evT_one, t_nm, t_tp, ts_nil, ts_cons, mkL_f, mkL_t, o_add, o_sub, c_lt, c_le, c_gt, c_ge, c_eqI, c_neI, b_int, b_intB, b_abs, b_max2, b_min2, b_gcd, b_lenT, b_lenL, b_lenS, b_tupT, b_tupL, b_lstT, b_lstL, b_isiT, b_isiI, b_isiB, revT, revL, ixT0, ixT1, ixT2, ixL0, ixL1, isI, q_vlT, q_vlL, q_vlS, q_enT, q_enL, q_zpTT, q_zpTL, q_zpLT, q_zpLL, forD_some, List.set_cons_zero, List.set_cons_succ, List.map_cons, List.map_nil, List.length_cons, List.length_nil, List.cons_append, List.nil_append, List.replicate_succ, List.replicate_zero, Nat.reduceAdd, Nat.reduceSub, Nat.reduceEqDiff, if_true, Option.bind_some, wipeD, eT]
  refine WP_call (hct S3 n _ m t ts d3 (by omega) hts) ?_
  rintro d S4 ⟨test, rfl, htl, hsg, f4, d4⟩
  simp only [run_eq, ss_nil, ss_cons, s_nm, s_asg, s_par, par2, par3, s_aug, augD_add, augD_sub, s_augIx, augX_add, augX_sub, s_expr, s_ret, s_retN, s_pass, s_brk, s_cont, s_ite, s_for, s_while, seqF_nx, seqF_rt, seqF_bk, seqF_ct, fnD_rt, fnD_nx, g_nm, g_tp, g_ix, gs_nil, gs_cons, e_int, e_bl, e_non, e_str, e_var, getV_0, getV_s, e_gl, opt_some, e_bin, e_neg, negD_int, e_not, notD_bl, e_and, e_or, bE_app, bolD_bl, okM_app, e_cmp, e_chain, chE_app, e_ite, e_tup, e_lst, e_ix, e_rev, e_slA, e_slL, e_slH, e_slLH, sl1_L, sl1_H, sl2_LH, e_call, e_bi, e_mt, e_comp, es_nil, es_cons, ifD_bl, ifD_t, ifD_f, b_ok, b_assoc, fTurn_eq, turn_eq, inT_some, inC_some, soE_app, evT_nil, evT_one, t_nm, t_tp, ts_nil, ts_cons, mkL_f, mkL_t, o_add, o_sub, c_lt, c_le, c_gt, c_ge, c_eqI, c_neI, b_int, b_intB, b_abs, b_max2, b_min2, b_gcd, b_lenT, b_lenL, b_lenS, b_tupT, b_tupL, b_lstT, b_lstL, b_isiT, b_isiI, b_isiB, revT, revL, ixT0, ixT1, ixT2, ixL0, ixL1, isI, q_vlT, q_vlL, q_vlS, q_enT, q_enL, q_zpTT, q_zpTL, q_zpLT, q_zpLL, forD_some, List.set_cons_zero, List.set_cons_succ, List.map_cons, List.map_nil, List.length_cons, List.length_nil, List.cons_append, List.nil_append, List.replicate_succ, List.replicate_zero, Nat.reduceAdd, Nat.reduceSub, Nat.reduceEqDiff, if_true, Option.bind_some, wipeD, q_rg1' hti (lim_of (show t ≤ 100000 by omega)), compD_some (lim_of (show (natsD t).length ≤ 100000 by rw [natsD_len]; omega))]
  refine WP_call (comp_inv (P := fun acc S' => ∃ us, acc = us.map msD ∧ Mss us m t ∧ Fr n S S' ∧ Di n (N + 900) S')
    (fun i acc S' => ∃ us : List (Int × List Int), acc = us.map msD ∧ us.length = i ∧ (∀ p, p ∈ us → Ms p.1 p.2 m) ∧ Fr n S S' ∧ Di n (N + 100 + 500 + 50 * i) S') 0
    ⟨[], rfl, rfl, fun _ hx => (nomatch hx), f3.trans f4, d4⟩ ?_ ?_) ?_
  · rintro i acc S5 x ⟨us, rfl, hl, hs, hf, hd⟩ hi _ hx
    obtain ⟨rfl, hi2⟩ := natsD_get hx
    refine ⟨dep_nil, ?_⟩
    simp only [run_eq, ss_nil, ss_cons, s_nm, s_asg, s_par, par2, par3, s_aug, augD_add, augD_sub, s_augIx, augX_add, augX_sub, s_expr, s_ret, s_retN, s_pass, s_brk, s_cont, s_ite, s_for, s_while, seqF_nx, seqF_rt, seqF_bk, seqF_ct, fnD_rt, fnD_nx, g_nm, g_tp, g_ix, gs_nil, gs_cons, e_int, e_bl, e_non, e_str, e_var, getV_0, getV_s, e_gl, opt_some, e_bin, e_neg, negD_int, e_not, notD_bl, e_and, e_or, bE_app, bolD_bl, okM_app, e_cmp, e_chain, chE_app, e_ite, e_tup, e_lst, e_ix, e_rev, e_slA, e_slL, e_slH, e_slLH, sl1_L, sl1_H, sl2_LH, e_call, e_bi, e_mt, e_comp, es_nil, es_cons, ifD_bl, ifD_t, ifD_f, b_ok, b_assoc, fTurn_eq, turn_eq, inT_some, inC_some, soE_app, evT_nil, evT_one, t_nm, t_tp, ts_nil, ts_cons, mkL_f, mkL_t, o_add, o_sub, c_lt, c_le, c_gt, c_ge, c_eqI, c_neI, b_int, b_intB, b_abs, b_max2, b_min2, b_gcd, b_lenT, b_lenL, b_lenS, b_tupT, b_tupL, b_lstT, b_lstL, b_isiT, b_isiI, b_isiB, revT, revL, ixT0, ixT1, ixT2, ixL0, ixL1, isI, q_vlT, q_vlL, q_vlS, q_enT, q_enL, q_zpTT, q_zpTL, q_zpLT, q_zpLL, forD_some, List.set_cons_zero, List.set_cons_succ, List.map_cons, List.map_nil, List.length_cons, List.length_nil, List.cons_append, List.nil_append, List.replicate_succ, List.replicate_zero, Nat.reduceAdd, Nat.reduceSub, Nat.reduceEqDiff, if_true, Option.bind_some, wipeD]
    refine WP_call (hm S5 n _ m mi hmi hd (by omega) (by omega)) ?_
    rintro d S6 ⟨p, rfl, g2, g3, g4⟩
    simp only [run_eq, ss_nil, ss_cons, s_nm, s_asg, s_par, par2, par3, s_aug, augD_add, augD_sub, s_augIx, augX_add, augX_sub, s_expr, s_ret, s_retN, s_pass, s_brk, s_cont, s_ite, s_for, s_while, seqF_nx, seqF_rt, seqF_bk, seqF_ct, fnD_rt, fnD_nx, g_nm, g_tp, g_ix, gs_nil, gs_cons, e_int, e_bl, e_non, e_str, e_var, getV_0, getV_s, e_gl, opt_some, e_bin, e_neg, negD_int, e_not, notD_bl, e_and, e_or, bE_app, bolD_bl, okM_app, e_cmp, e_chain, chE_app, e_ite, e_tup, e_lst, e_ix, e_rev, e_slA, e_slL, e_slH, e_slLH, sl1_L, sl1_H, sl2_LH, e_call, e_bi, e_mt, e_comp, es_nil, es_cons, ifD_bl, ifD_t, ifD_f, b_ok, b_assoc, fTurn_eq, turn_eq, inT_some, inC_some, soE_app, evT_nil, evT_one, t_nm, t_tp, ts_nil, ts_cons, mkL_f, mkL_t, o_add, o_sub, c_lt, c_le, c_gt, c_ge, c_eqI, c_neI, b_int, b_intB, b_abs, b_max2, b_min2, b_gcd, b_lenT, b_lenL, b_lenS, b_tupT, b_tupL, b_lstT, b_lstL, b_isiT, b_isiI, b_isiB, revT, revL, ixT0, ixT1, ixT2, ixL0, ixL1, isI, q_vlT, q_vlL, q_vlS, q_enT, q_enL, q_zpTT, q_zpTL, q_zpLT, q_zpLL, forD_some, List.set_cons_zero, List.set_cons_succ, List.map_cons, List.map_nil, List.length_cons, List.length_nil, List.cons_append, List.nil_append, List.replicate_succ, List.replicate_zero, Nat.reduceAdd, Nat.reduceSub, Nat.reduceEqDiff, if_true, Option.bind_some, wipeD, WP_ok]
    refine ⟨us ++ [p], by simp, by simp [hl], fun s hs' => ?_, hf.trans g3, g4.mono (by omega)⟩
    rcases List.mem_append.mp hs' with z | z
    · exact hs s z
    · rw [List.mem_singleton.mp z]; exact g2
  · rintro acc S5 ⟨us, rfl, hl, hs, hf, hd⟩
    rw [natsD_len] at hl hd
    exact ⟨dep_nil, us, rfl, ⟨hs, by omega⟩, hf, hd.mono (by omega)⟩
  rintro ys S5 ⟨ms, rfl, hms, f5, d5⟩
  have eM : D.tup (ms.map msD) = mssD ms := rfl
  simp only [run_eq, ss_nil, ss_cons, s_nm, s_asg, s_par, par2, par3, s_aug, augD_add, augD_sub, s_augIx, augX_add, augX_sub, s_expr, s_ret, s_retN, s_pass, s_brk, s_cont, s_ite, s_for, s_while, seqF_nx, seqF_rt, seqF_bk, seqF_ct, fnD_rt, fnD_nx, g_nm, g_tp, g_ix, gs_nil, gs_cons, e_int, e_bl, e_non, e_str, e_var, getV_0, getV_s, e_gl, opt_some, e_bin, e_neg, negD_int, e_not, notD_bl, e_and, e_or, bE_app, bolD_bl, okM_app, e_cmp, e_chain, chE_app, e_ite, e_tup, e_lst, e_ix, e_rev, e_slA, e_slL, e_slH, e_slLH, sl1_L, sl1_H, sl2_LH, e_call, e_bi, e_mt, e_comp, es_nil, es_cons, ifD_bl, ifD_t, ifD_f, b_ok, b_assoc, fTurn_eq, turn_eq, inT_some, inC_some, soE_app, evT_nil, evT_one, t_nm, t_tp, ts_nil, ts_cons, mkL_f, mkL_t, o_add, o_sub, c_lt, c_le, c_gt, c_ge, c_eqI, c_neI, b_int, b_intB, b_abs, b_max2, b_min2, b_gcd, b_lenT, b_lenL, b_lenS, b_tupT, b_tupL, b_lstT, b_lstL, b_isiT, b_isiI, b_isiB, revT, revL, ixT0, ixT1, ixT2, ixL0, ixL1, isI, q_vlT, q_vlL, q_vlS, q_enT, q_enL, q_zpTT, q_zpTL, q_zpLT, q_zpLL, forD_some, List.set_cons_zero, List.set_cons_succ, List.map_cons, List.map_nil, List.length_cons, List.length_nil, List.cons_append, List.nil_append, List.replicate_succ, List.replicate_zero, Nat.reduceAdd, Nat.reduceSub, Nat.reduceEqDiff, if_true, Option.bind_some, wipeD, eM]
  refine WP_call (hsp S5 m t ts test ms hts htl hsg hms) ?_
  rintro d S6 ⟨rfl, al6⟩
  have hti1 : ti + 1 = ((t + 1 : Nat) : Int) := by omega
  have hlen : ((((List.range (t + 1)).map (partD ts test ms m t)).length : Nat) : Int) = ti + 1 := by simp; omega
  obtain ⟨told, htold⟩ : ∃ l, l = (List.range (t + 1)).map (partD ts test ms m t) := ⟨_, rfl⟩
  rw [← htold] at hlen ⊢
  have hpw := hts.pow'
  have hcps := cps_sg hts.sg
  have hDT := DT_bd hms t3
  have c4 := cb_400
  have hz0 : D.tup [.int 0, .int 1] = frD (fq (Yn ts test ms m t 0) (DT ms t)) := by
    have : fq (Yn ts test ms m t 0) (DT ms t) = fq 0 1 := by
      show fq 0 _ = _
      unfold fq
      have e1 : ((0 : Int) : Rat) = 0 := rfl
      rw [e1, Rat.div_def, Rat.div_def, Rat.zero_mul, Rat.zero_mul]
    rw [this]; exact frD_one 0
  simp only [run_eq, ss_nil, ss_cons, s_nm, s_asg, s_par, par2, par3, s_aug, augD_add, augD_sub, s_augIx, augX_add, augX_sub, s_expr, s_ret, s_retN, s_pass, s_brk, s_cont, s_ite, s_for, s_while, seqF_nx, seqF_rt, seqF_bk, seqF_ct, fnD_rt, fnD_nx, g_nm, g_tp, g_ix, gs_nil, gs_cons, e_int, e_bl, e_non, e_str, e_var, getV_0, getV_s, e_gl, opt_some, e_bin, e_neg, negD_int, e_not, notD_bl, e_and, e_or, bE_app, bolD_bl, okM_app, e_cmp, e_chain, chE_app, e_ite, e_tup, e_lst, e_ix, e_rev, e_slA, e_slL, e_slH, e_slLH, sl1_L, sl1_H, sl2_LH, e_call, e_bi, e_mt, e_comp, es_nil, es_cons, ifD_bl, ifD_t, ifD_f, b_ok, b_assoc, fTurn_eq, turn_eq, inT_some, inC_some, soE_app, evT_nil, evT_one, t_nm, t_tp, ts_nil, ts_cons, mkL_f, mkL_t, o_add, o_sub, c_lt, c_le, c_gt, c_ge, c_eqI, c_neI, b_int, b_intB, b_abs, b_max2, b_min2, b_gcd, b_lenT, b_lenL, b_lenS, b_tupT, b_tupL, b_lstT, b_lstL, b_isiT, b_isiI, b_isiB, revT, revL, ixT0, ixT1, ixT2, ixL0, ixL1, isI, q_vlT, q_vlL, q_vlS, q_enT, q_enL, q_zpTT, q_zpTL, q_zpLT, q_zpLL, forD_some, List.set_cons_zero, List.set_cons_succ, List.map_cons, List.map_nil, List.length_cons, List.length_nil, List.cons_append, List.nil_append, List.replicate_succ, List.replicate_zero, Nat.reduceAdd, Nat.reduceSub, Nat.reduceEqDiff, if_true, Option.bind_some, wipeD, decide_true, decide_false, not_true_eq_false, not_false_eq_true, Bool.false_eq_true, if_false, Bool.not_true, Bool.not_false, ne_eq, hz0, hlen, q_rg1' hti1 (lim_of (show t + 1 ≤ 100000 by omega))]
  refine WP_call (for_inv (P := fun f S' => ∃ e8 e9, f = Fl.nx [some (.ref n), some (.int ti), some (.int mi), some (tsD ts), some (tI test), some (mssD ms), some (.tup told), some (frD (fq (Yn ts test ms m t (t + 1)) (DT ms t))), e8, e9] ∧ Al S6 S')
    (fun i env S' => ∃ e8 e9, env = [some (.ref n), some (.int ti), some (.int mi), some (tsD ts), some (tI test), some (mssD ms), some (.tup told), some (frD (fq (Yn ts test ms m t i) (DT ms t))), e8, e9] ∧ Al S6 S') 0
    ⟨_, _, rfl, Al.refl _⟩ ?_ ?_) ?_
  · rintro i env S7 x ⟨e8, e9, rfl, al7⟩ hi _ hx
    obtain ⟨rfl, hi2⟩ := natsD_get hx
    refine ⟨dep_nil, ?_⟩
    obtain ⟨pi, hpi⟩ : ∃ pi : Int, pi = (i : Int) := ⟨_, rfl⟩
    rw [Nat.sub_zero, ← hpi]
    have hix : ∀ S, doIx (.tup told) (.int pi) S = .ok (partD ts test ms m t i) S := fun S => ixT' hpi (by rw [htold, List.getElem?_map, List.getElem?_range (by omega)]; rfl)
    simp only [run_eq, ss_nil, ss_cons, s_nm, s_asg, s_par, par2, par3, s_aug, augD_add, augD_sub, s_augIx, augX_add, augX_sub, s_expr, s_ret, s_retN, s_pass, s_brk, s_cont, s_ite, s_for, s_while, seqF_nx, seqF_rt, seqF_bk, seqF_ct, fnD_rt, fnD_nx, g_nm, g_tp, g_ix, gs_nil, gs_cons, e_int, e_bl, e_non, e_str, e_var, getV_0, getV_s, e_gl, opt_some, e_bin, e_neg, negD_int, e_not, notD_bl, e_and, e_or, bE_app, bolD_bl, okM_app, e_cmp, e_chain, chE_app, e_ite, e_tup, e_lst, e_ix, e_rev, e_slA, e_slL, e_slH, e_slLH, sl1_L, sl1_H, sl2_LH, e_call, e_bi, e_mt, e_comp, es_nil, es_cons, ifD_bl, ifD_t, ifD_f, b_ok, b_assoc, fTurn_eq, turn_eq, inT_some, inC_some, soE_app, evT_nil, evT_one, t_nm, t_tp, ts_nil, ts_cons, mkL_f, mkL_t, o_add, o_sub, c_lt, c_le, c_gt, c_ge, c_eqI, c_neI, b_int, b_intB, b_abs, b_max2, b_min2, b_gcd, b_lenT, b_lenL, b_lenS, b_tupT, b_tupL, b_lstT, b_lstL, b_isiT, b_isiI, b_isiB, revT, revL, ixT0, ixT1, ixT2, ixL0, ixL1, isI, q_vlT, q_vlL, q_vlS, q_enT, q_enL, q_zpTT, q_zpTL, q_zpLT, q_zpLL, forD_some, List.set_cons_zero, List.set_cons_succ, List.map_cons, List.map_nil, List.length_cons, List.length_nil, List.cons_append, List.nil_append, List.replicate_succ, List.replicate_zero, Nat.reduceAdd, Nat.reduceSub, Nat.reduceEqDiff, if_true, Option.bind_some, wipeD, hix]
    refine WP_call (hpa S7 m t i pi ts test ms hts htl hsg hms hpi (by omega)) ?_
    rintro d S8 ⟨rfl, al8⟩
    have hDn := Dn_bd (place := i) (n := t) hms (Nat.le_refl t) t3
    have hEn := En_bd (place := i) hms t3
    have smY : Sm 1000 (fq (Yn ts test ms m t i) (DT ms t)) := sm_fq hDT.1 (Yn_bd hcps hsg hms t3 hpw.2 (by omega)) (nat_abs_lt (c := Cb ^ 3) (by omega) c4.2.1)
    have smS : Sm 1000 (fq (SZ ts test ms m t i (m ^ t)) (Dn ms i t)) := sm_fq hDn.1 (nat_abs_lt (SZ_bd hcps hsg hms t3 hpw.2) c4.1) (nat_abs_lt (c := Cb ^ 3) (by omega) c4.2.1)
    have ha := hadd S8 _ _ smY smS
    dsimp only at ha
    rw [fq_scale (a := SZ ts test ms m t i (m ^ t)) hDn.1 hEn.1, DE, fq_add hDT.1] at ha
    have hsh : shal 40 (partD ts test ms m t i) = true := rfl
    have eP : partD ts test ms m t i = frD (fq (SZ ts test ms m t i (m ^ t)) (Dn ms i t)) := rfl
    have hadd2 : C.cl 27 [frD (fq (Yn ts test ms m t i) (DT ms t)), partD ts test ms m t i] S8 = .ok (frD (fq (Yn ts test ms m t i + SZ ts test ms m t i (m ^ t) * En ms i t) (DT ms t))) S8 := by
      rw [eP, fq_scale (a := SZ ts test ms m t i (m ^ t)) hDn.1 hEn.1, DE]; exact ha
    simp only [run_eq, ss_nil, ss_cons, s_nm, s_asg, s_par, par2, par3, s_aug, augD_add, augD_sub, s_augIx, augX_add, augX_sub, s_expr, s_ret, s_retN, s_pass, s_brk, s_cont, s_ite, s_for, s_while, seqF_nx, seqF_rt, seqF_bk, seqF_ct, fnD_rt, fnD_nx, g_nm, g_tp, g_ix, gs_nil, gs_cons, e_int, e_bl, e_non, e_str, e_var, getV_0, getV_s, e_gl, opt_some, e_bin, e_neg, negD_int, e_not, notD_bl, e_and, e_or, bE_app, bolD_bl, okM_app, e_cmp, e_chain, chE_app, e_ite, e_tup, e_lst, e_ix, e_rev, e_slA, e_slL, e_slH, e_slLH, sl1_L, sl1_H, sl2_LH, e_call, e_bi, e_mt, e_comp, es_nil, es_cons, ifD_bl, ifD_t, ifD_f, b_ok, b_assoc, fTurn_eq, turn_eq, inT_some, inC_some, soE_app, evT_nil, evT_one, t_nm, t_tp, ts_nil, ts_cons, mkL_f, mkL_t, o_add, o_sub, c_lt, c_le, c_gt, c_ge, c_eqI, c_neI, b_int, b_intB, b_abs, b_max2, b_min2, b_gcd, b_lenT, b_lenL, b_lenS, b_tupT, b_tupL, b_lstT, b_lstL, b_isiT, b_isiI, b_isiB, revT, revL, ixT0, ixT1, ixT2, ixL0, ixL1, isI, q_vlT, q_vlL, q_vlS, q_enT, q_enL, q_zpTT, q_zpTL, q_zpLT, q_zpLL, forD_some, List.set_cons_zero, List.set_cons_succ, List.map_cons, List.map_nil, List.length_cons, List.length_nil, List.cons_append, List.nil_append, List.replicate_succ, List.replicate_zero, Nat.reduceAdd, Nat.reduceSub, Nat.reduceEqDiff, if_true, Option.bind_some, wipeD, decide_true, decide_false, not_true_eq_false, not_false_eq_true, Bool.false_eq_true, if_false, Bool.not_true, Bool.not_false, ne_eq, c_neS hsh, hix, hadd2, WP_ok]
    have e : Yn ts test ms m t (i + 1) = Yn ts test ms m t i + SZ ts test ms m t i (m ^ t) * En ms i t := rfl
    rw [e]
    exact ⟨_, _, rfl, al7.trans al8⟩
  · rintro env S7 ⟨e8, e9, rfl, al7⟩
    rw [natsD_len, Nat.zero_add]
    exact ⟨dep_nil, _, _, rfl, al7⟩
  · rintro f S7 ⟨e8, e9, rfl, al7⟩
    have hone : ∀ x : Int, D.tup [.int x, .int 1] = frD (fq x 1) := frD_one
    have e : fq (Yn ts test ms m t (t + 1)) (DT ms t) = fq (PS ts test (m ^ t)) 1 := by
      rw [Y_all, fq_scale (a := PS ts test (m ^ t)) (b := 1) (by decide) hDT.1, Int.one_mul]
    rw [e]
    simp only [run_eq, ss_nil, ss_cons, s_nm, s_asg, s_par, par2, par3, s_aug, augD_add, augD_sub, s_augIx, augX_add, augX_sub, s_expr, s_ret, s_retN, s_pass, s_brk, s_cont, s_ite, s_for, s_while, seqF_nx, seqF_rt, seqF_bk, seqF_ct, fnD_rt, fnD_nx, g_nm, g_tp, g_ix, gs_nil, gs_cons, e_int, e_bl, e_non, e_str, e_var, getV_0, getV_s, e_gl, opt_some, e_bin, e_neg, negD_int, e_not, notD_bl, e_and, e_or, bE_app, bolD_bl, okM_app, e_cmp, e_chain, chE_app, e_ite, e_tup, e_lst, e_ix, e_rev, e_slA, e_slL, e_slH, e_slLH, sl1_L, sl1_H, sl2_LH, e_call, e_bi, e_mt, e_comp, es_nil, es_cons, ifD_bl, ifD_t, ifD_f, b_ok, b_assoc, fTurn_eq, turn_eq, inT_some, inC_some, soE_app, evT_nil, evT_one, t_nm, t_tp, ts_nil, ts_cons, mkL_f, mkL_t, o_add, o_sub, c_lt, c_le, c_gt, c_ge, c_eqI, c_neI, b_int, b_intB, b_abs, b_max2, b_min2, b_gcd, b_lenT, b_lenL, b_lenS, b_tupT, b_tupL, b_lstT, b_lstL, b_isiT, b_isiI, b_isiB, revT, revL, ixT0, ixT1, ixT2, ixL0, ixL1, isI, q_vlT, q_vlL, q_vlS, q_enT, q_enL, q_zpTT, q_zpTL, q_zpLT, q_zpLL, forD_some, List.set_cons_zero, List.set_cons_succ, List.map_cons, List.map_nil, List.length_cons, List.length_nil, List.cons_append, List.nil_append, List.replicate_succ, List.replicate_zero, Nat.reduceAdd, Nat.reduceSub, Nat.reduceEqDiff, if_true, Option.bind_some, wipeD, decide_true, decide_false, not_true_eq_false, not_false_eq_true, Bool.false_eq_true, if_false, Bool.not_true, Bool.not_false, ne_eq, hcs S7 m t ts test hts htl hsg, hone, c_eqS (frD_shal _), WP_ok]
    have al := al6.trans al7
    exact ⟨trivial, f5.trans (al_fr al), (al_di al d5).mono (by omega)⟩
end LW
namespace LW
open PySem L2 Ev
theorem dice_spec {C : Ev.Ctx} {S : Store} {ns : List Int} {spot : Nat} {si : Int} (hs : si = (spot : Int)) (h3 : spot < 3) : WP (runF C fd_law_hx_dice [.scr (ns.map .int), .int si] S) fun d S' => d = .ref S.length ∧ Di S.length 0 S' := by
  have p54 : doOp .pow false (.int 10) (.int 54) = fun S => .ok (.int (10 ^ 54)) S := by
    funext S
    have := o_pow (m := false) (S := S) (i := 10) 54 54 (by decide +kernel)
    exact this
  have p7 : doOp .pow false (.int (10 ^ 54)) (.int 7) = fun S => .ok (.int ((10 ^ 54) ^ 7)) S := by
    funext S
    have := o_pow (m := false) (S := S) (i := 10 ^ 54) 7 7 (by decide +kernel)
    exact this
  have p16 : doOp .pow false (.int 10) (.int 16) = fun S => .ok (.int 10000000000000000) S := by
    funext S
    have := o_pow (m := false) (S := S) (i := 10) 16 16 (by decide +kernel)
    simpa using this
  have big : (0 : Int) < (10 ^ 54) ^ 7 := by decide +kernel
  have bigb : ((10 : Int) ^ 54) ^ 7 < 2 ^ 1300 := by decide +kernel
  obtain ⟨Z, hZ⟩ : ∃ Z : Int, Z = (10 ^ 54) ^ 7 := ⟨_, rfl⟩
  rw [← hZ] at p7 big bigb
  have hln : doBi .len false [.scr (ns.map D.int)] S = .ok (.int (ns.length : Int)) S := by rw [b_lenS, List.length_map]
  have m1 : big2 431 si = true := big2_of (a := 20) (b := 20) (by decide) (by omega) (by decide)
  have m4 : big2 4909 si = true := big2_of (a := 20) (b := 20) (by decide) (by omega) (by decide)
  have m5 : ∀ b : Bool, big2 47 (if b then 1 else 0) = true := fun b => by cases b <;> decide +kernel
  have p1 : (0 : Int) < 2305843009213693613 := by decide
  have p2 : (0 : Int) < 2305843009213693951 := by decide
  have m3 : ∀ x : Int, big2 (x % 2305843009213693613) 67 = true := fun x => by
    have h1 := Int.emod_nonneg x (show (2305843009213693613 : Int) ≠ 0 by decide)
    have h2 := Int.emod_lt_of_pos x p1
    generalize x % 2305843009213693613 = z at h1 h2
    exact big2_of (a := 70) (b := 20) (by omega) (by decide) (by decide)
  -- behind the cell
  have fin : ∀ cell : Int, WP (evSs C [.asg (.nm 3) (.bin .mod false (.bi .int false [(.bi .abs false [(.var 2)])]) (.bin .pow false (.bin .pow false (.int 10) (.int 54)) (.int 7))), .asg (.nm 4) (.bi .int false [(.bin .add false (.bin .add false (.bin .add false (.bin .mul false (.bin .mod false (.var 3) (.int 2305843009213693613)) (.int 67)) (.bin .mul false (.int 4909) (.var 1))) (.bin .mul false (.int 47) (.bi .int false [(.cmp .lt (.var 2) (.int 0))]))) (.int 31))]), .ret (.lst true [(.bi .max2 false [(.int 0), (.bin .sub false (.var 3) (.bin .pow false (.int 10) (.int 16)))]), (.bin .mod false (.var 4) (.int 2305843009213693951)), (.int 0)])] [some (.scr (ns.map .int)), some (.int si), some (.int cell), none, none] S)
      fun f S' => f = .rt (.ref S.length) ∧ Di S.length 0 S' := fun cell => by
    simp only [run_eq, ss_nil, ss_cons, s_nm, s_asg, s_par, par2, par3, s_aug, augD_add, augD_sub, s_augIx, augX_add, augX_sub, s_expr, s_ret, s_retN, s_pass, s_brk, s_cont, s_ite, s_for, s_while, seqF_nx, seqF_rt, seqF_bk, seqF_ct, fnD_rt, fnD_nx, g_nm, g_tp, g_ix, gs_nil, gs_cons, e_int, e_bl, e_non, e_str, e_var, getV_0, getV_s, e_gl, opt_some, e_bin, e_neg, negD_int, e_not, notD_bl, e_and, e_or, bE_app, bolD_bl, okM_app, e_cmp, e_chain, chE_app, e_ite, e_tup, e_lst, e_ix, e_rev, e_slA, e_slL, e_slH, e_slLH, sl1_L, sl1_H, sl2_LH, e_call, e_bi, e_mt, e_comp, es_nil, es_cons, ifD_bl, ifD_t, ifD_f, b_ok, b_assoc, fTurn_eq, turn_eq, inT_some, inC_some, soE_app, evT_nil, evT_one, t_nm, t_tp, ts_nil, ts_cons, mkL_f, mkL_t, o_add, o_sub, c_lt, c_le, c_gt, c_ge, c_eqI, c_neI, b_int, b_intB, b_abs, b_max2, b_min2, b_gcd, b_lenT, b_lenL, b_lenS, b_tupT, b_tupL, b_lstT, b_lstL, b_isiT, b_isiI, b_isiB, revT, revL, ixT0, ixT1, ixT2, ixL0, ixL1, isI, q_vlT, q_vlL, q_vlS, q_enT, q_enL, q_zpTT, q_zpTL, q_zpLT, q_zpLL, forD_some, List.set_cons_zero, List.set_cons_succ, List.map_cons, List.map_nil, List.length_cons, List.length_nil, List.cons_append, List.nil_append, List.replicate_succ, List.replicate_zero, Nat.reduceAdd, Nat.reduceSub, Nat.reduceEqDiff, if_true, Option.bind_some, wipeD, p54, p7, p16, o_mod big, o_mod p1, o_mod p2, o_mul (m3 _), o_mul m4, o_mul (m5 _), WP_ok]
    refine ⟨trivial, _, _, _, get_new, ?_, by omega, by omega⟩
    split <;> omega
  simp only [run_eq, ss_nil, ss_cons, s_nm, s_asg, s_par, par2, par3, s_aug, augD_add, augD_sub, s_augIx, augX_add, augX_sub, s_expr, s_ret, s_retN, s_pass, s_brk, s_cont, s_ite, s_for, s_while, seqF_nx, seqF_rt, seqF_bk, seqF_ct, fnD_rt, fnD_nx, g_nm, g_tp, g_ix, gs_nil, gs_cons, e_int, e_bl, e_non, e_str, e_var, getV_0, getV_s, e_gl, opt_some, e_bin, e_neg, negD_int, e_not, notD_bl, e_and, e_or, bE_app, bolD_bl, okM_app, e_cmp, e_chain, chE_app, e_ite, e_tup, e_lst, e_ix, e_rev, e_slA, e_slL, e_slH, e_slLH, sl1_L, sl1_H, sl2_LH, e_call, e_bi, e_mt, e_comp, es_nil, es_cons, ifD_bl, ifD_t, ifD_f, b_ok, b_assoc, fTurn_eq, turn_eq, inT_some, inC_some, soE_app, evT_nil, evT_one, t_nm, t_tp, ts_nil, ts_cons, mkL_f, mkL_t, o_add, o_sub, c_lt, c_le, c_gt, c_ge, c_eqI, c_neI, b_int, b_intB, b_abs, b_max2, b_min2, b_gcd, b_lenT, b_lenL, b_lenS, b_tupT, b_tupL, b_lstT, b_lstL, b_isiT, b_isiI, b_isiB, revT, revL, ixT0, ixT1, ixT2, ixL0, ixL1, isI, q_vlT, q_vlL, q_vlS, q_enT, q_enL, q_zpTT, q_zpTL, q_zpLT, q_zpLL, forD_some, List.set_cons_zero, List.set_cons_succ, List.map_cons, List.map_nil, List.length_cons, List.length_nil, List.cons_append, List.nil_append, List.replicate_succ, List.replicate_zero, Nat.reduceAdd, Nat.reduceSub, Nat.reduceEqDiff, if_true, Option.bind_some, wipeD, fd_law_hx_dice, hln]
  by_cases h : si < (ns.length : Int)
  · have hl : spot < ns.length := by omega
    have hix : doIx (.scr (ns.map D.int)) (.int si) S = .ok (.int ns[spot]) S := by rw [hs]; exact ixS (by rw [List.getElem?_map, List.getElem?_eq_getElem hl]; rfl)
    simp only [g_nm, ifD_bl, h, decide_true, if_true, e_bi, es_cons, es_nil, e_ix, e_var, getV_0, getV_s, b_ok, b_assoc, hix, b_int, seqF_nx, List.set_cons_zero, List.set_cons_succ]
    refine WP_call (fin _) ?_
    rintro f S' ⟨rfl, hd⟩
    simp only [fnD_rt, WP_ok]
    exact ⟨trivial, hd⟩
  · simp only [g_nm, ifD_bl, h, decide_false, Bool.false_eq_true, if_false, e_bin, e_int, e_var, getV_0, getV_s, b_ok, b_assoc, o_mul m1, o_add, seqF_nx, List.set_cons_zero, List.set_cons_succ]
    refine WP_call (fin _) ?_
    rintro f S' ⟨rfl, hd⟩
    simp only [fnD_rt, WP_ok]
    exact ⟨trivial, hd⟩
end LW
namespace LW
open PySem L2 Ev
/-! ### copies of a list -/
theorem copies_specL {C : Ev.Ctx} {S : Store} {ts : List (List Int)} {m : Nat} (hs : ∀ t, t ∈ ts → SgL t) (hm : ∀ t, t ∈ ts → t.length = m) (hm1 : 1 ≤ m) (hb : m ^ ts.length ≤ 10000) :
    WP (runF C fd_law_hx_copies [.lst (ts.map tI)] S) fun d S' => ∃ n, d = .ref n ∧ S'[n]? = some (.lst ((cps ts).map .int)) ∧ S.length ≤ n ∧ Al S S' := by
  have lg := lim_ge
  simp only [run_eq, ss_nil, ss_cons, s_nm, s_asg, s_par, par2, par3, s_aug, augD_add, augD_sub, s_augIx, augX_add, augX_sub, s_expr, s_ret, s_retN, s_pass, s_brk, s_cont, s_ite, s_for, s_while, seqF_nx, seqF_rt, seqF_bk, seqF_ct, fnD_rt, fnD_nx, g_nm, g_tp, g_ix, gs_nil, gs_cons, e_int, e_bl, e_non, e_str, e_var, getV_0, getV_s, e_gl, opt_some, e_bin, e_neg, negD_int, e_not, notD_bl, e_and, e_or, bE_app, bolD_bl, okM_app, e_cmp, e_chain, chE_app, e_ite, e_tup, e_lst, e_ix, e_rev, e_slA, e_slL, e_slH, e_slLH, sl1_L, sl1_H, sl2_LH, e_call, e_bi, e_mt, e_comp, es_nil, es_cons, ifD_bl, ifD_t, ifD_f, b_ok, b_assoc, fTurn_eq, turn_eq, inT_some, inC_some, soE_app, evT_nil, evT_one, t_nm, t_tp, ts_nil, ts_cons, mkL_f, mkL_t, o_add, o_sub, c_lt, c_le, c_gt, c_ge, c_eqI, c_neI, b_int, b_intB, b_abs, b_max2, b_min2, b_gcd, b_lenT, b_lenL, b_lenS, b_tupT, b_tupL, b_lstT, b_lstL, b_isiT, b_isiI, b_isiB, revT, revL, ixT0, ixT1, ixT2, ixL0, ixL1, isI, q_vlT, q_vlL, q_vlS, q_enT, q_enL, q_zpTT, q_zpTL, q_zpLT, q_zpLL, forD_some, List.set_cons_zero, List.set_cons_succ, List.map_cons, List.map_nil, List.length_cons, List.length_nil, List.cons_append, List.nil_append, List.replicate_succ, List.replicate_zero, Nat.reduceAdd, Nat.reduceSub, Nat.reduceEqDiff, if_true, Option.bind_some, wipeD, fd_law_hx_copies]
  refine WP_call (for_inv (P := fun f S' => ∃ n e2 e3 e4 e5, f = .nx [some (.lst (ts.map tI)), some (.ref n), e2, e3, e4, e5] ∧ S'[n]? = some (.lst ((cps ts).map .int)) ∧ S.length ≤ n ∧ Al S S')
    (fun i env S' => ∃ n e2 e3 e4 e5, env = [some (.lst (ts.map tI)), some (.ref n), e2, e3, e4, e5] ∧ S'[n]? = some (.lst ((cps (ts.take i)).map .int)) ∧ S.length ≤ n ∧ Al S S') 0
    ⟨S.length, none, none, none, none, rfl, by simp [cps], Nat.le_refl _, Al.one⟩ ?_ ?_) ?_
  · rintro i env S1 x ⟨n, e2, e3, e4, e5, rfl, hn, hle, hal⟩ hi _ hx
    refine ⟨dep_nil, ?_⟩
    rw [Nat.sub_zero, List.getElem?_map] at hx
    obtain ⟨t, ht, rfl⟩ := Option.map_eq_some_iff.mp hx
    have htm := List.mem_of_getElem? ht
    have hts := hs t htm
    generalize hf : cps (ts.take i) = found at hn
    have hfs : SgL found := by rw [← hf]; exact cps_sg fun s hs' => hs s (List.mem_of_mem_take hs')
    have hfl : found.length * t.length ≤ 10000 := by
      rw [← hf, cps_len (m := m) fun s hs' => hm s (List.mem_of_mem_take hs'), hm t htm, ← Nat.pow_succ, List.length_take]
      refine Nat.le_trans (Nat.pow_le_pow_right hm1 ?_) hb
      have : i < ts.length := (List.getElem?_eq_some_iff.mp ht).1
      omega
    have hn2 : (S1 ++ [Cell.lst []])[n]? = some (.lst (found.map .int)) := Al.one.get hn
    have hnl : n < S1.length := (List.getElem?_eq_some_iff.mp hn).1
    simp only [run_eq, ss_nil, ss_cons, s_nm, s_asg, s_par, par2, par3, s_aug, augD_add, augD_sub, s_augIx, augX_add, augX_sub, s_expr, s_ret, s_retN, s_pass, s_brk, s_cont, s_ite, s_for, s_while, seqF_nx, seqF_rt, seqF_bk, seqF_ct, fnD_rt, fnD_nx, g_nm, g_tp, g_ix, gs_nil, gs_cons, e_int, e_bl, e_non, e_str, e_var, getV_0, getV_s, e_gl, opt_some, e_bin, e_neg, negD_int, e_not, notD_bl, e_and, e_or, bE_app, bolD_bl, okM_app, e_cmp, e_chain, chE_app, e_ite, e_tup, e_lst, e_ix, e_rev, e_slA, e_slL, e_slH, e_slLH, sl1_L, sl1_H, sl2_LH, e_call, e_bi, e_mt, e_comp, es_nil, es_cons, ifD_bl, ifD_t, ifD_f, b_ok, b_assoc, fTurn_eq, turn_eq, inT_some, inC_some, soE_app, evT_nil, evT_one, t_nm, t_tp, ts_nil, ts_cons, mkL_f, mkL_t, o_add, o_sub, c_lt, c_le, c_gt, c_ge, c_eqI, c_neI, b_int, b_intB, b_abs, b_max2, b_min2, b_gcd, b_lenT, b_lenL, b_lenS, b_tupT, b_tupL, b_lstT, b_lstL, b_isiT, b_isiI, b_isiB, revT, revL, ixT0, ixT1, ixT2, ixL0, ixL1, isI, q_vlT, q_vlL, q_vlS, q_enT, q_enL, q_zpTT, q_zpTL, q_zpLT, q_zpLL, forD_some, List.set_cons_zero, List.set_cons_succ, List.map_cons, List.map_nil, List.length_cons, List.length_nil, List.cons_append, List.nil_append, List.replicate_succ, List.replicate_zero, Nat.reduceAdd, Nat.reduceSub, Nat.reduceEqDiff, if_true, Option.bind_some, wipeD, q_vlR hn2]
    generalize hk : S1.length = k at *
    refine WP_call (for_inv (P := fun f S' => ∃ e4 e5, f = .nx [some (.lst (ts.map tI)), some (.ref n), some (tI t), some (.ref k), e4, e5] ∧ S'[k]? = some (.lst ((cpsF found t).map .int)) ∧ Al S S')
      (fun j env S' => ∃ e4 e5, env = [some (.lst (ts.map tI)), some (.ref n), some (tI t), some (.ref k), e4, e5] ∧ S'[k]? = some (.lst ((cpsF (found.take j) t).map .int)) ∧ S'[n]? = some (.lst (found.map .int)) ∧ Al S S') 0
      ⟨e4, e5, rfl, by rw [← hk]; simp [cpsF], hn2, hal.trans Al.one⟩ ?_ ?_) ?_
    · rintro j env S2 x ⟨e4, e5, rfl, h1, h2, h3⟩ hj _ hx
      refine ⟨dep_one h2, ?_⟩
      rw [Nat.sub_zero, List.getElem?_map] at hx
      obtain ⟨o, ho, rfl⟩ := Option.map_eq_some_iff.mp hx
      have hos := sg_small hfs (List.mem_of_getElem? ho)
      have htl : t.length ≤ 10000 := by
        have : 0 < found.length := by have := (List.getElem?_eq_some_iff.mp ho).1; omega
        exact Nat.le_trans (Nat.le_mul_of_pos_left _ this) hfl
      unfold tI
      simp only [run_eq, ss_nil, ss_cons, s_nm, s_asg, s_par, par2, par3, s_aug, augD_add, augD_sub, s_augIx, augX_add, augX_sub, s_expr, s_ret, s_retN, s_pass, s_brk, s_cont, s_ite, s_for, s_while, seqF_nx, seqF_rt, seqF_bk, seqF_ct, fnD_rt, fnD_nx, g_nm, g_tp, g_ix, gs_nil, gs_cons, e_int, e_bl, e_non, e_str, e_var, getV_0, getV_s, e_gl, opt_some, e_bin, e_neg, negD_int, e_not, notD_bl, e_and, e_or, bE_app, bolD_bl, okM_app, e_cmp, e_chain, chE_app, e_ite, e_tup, e_lst, e_ix, e_rev, e_slA, e_slL, e_slH, e_slLH, sl1_L, sl1_H, sl2_LH, e_call, e_bi, e_mt, e_comp, es_nil, es_cons, ifD_bl, ifD_t, ifD_f, b_ok, b_assoc, fTurn_eq, turn_eq, inT_some, inC_some, soE_app, evT_nil, evT_one, t_nm, t_tp, ts_nil, ts_cons, mkL_f, mkL_t, o_add, o_sub, c_lt, c_le, c_gt, c_ge, c_eqI, c_neI, b_int, b_intB, b_abs, b_max2, b_min2, b_gcd, b_lenT, b_lenL, b_lenS, b_tupT, b_tupL, b_lstT, b_lstL, b_isiT, b_isiI, b_isiB, revT, revL, ixT0, ixT1, ixT2, ixL0, ixL1, isI, q_vlT, q_vlL, q_vlS, q_enT, q_enL, q_zpTT, q_zpTL, q_zpLT, q_zpLL, forD_some, List.set_cons_zero, List.set_cons_succ, List.map_cons, List.map_nil, List.length_cons, List.length_nil, List.cons_append, List.nil_append, List.replicate_succ, List.replicate_zero, Nat.reduceAdd, Nat.reduceSub, Nat.reduceEqDiff, if_true, Option.bind_some, wipeD, compD_some (show (t.map D.int).length ≤ LIM by rw [List.length_map]; omega)]
      rw [comp_int (fun x => o * x) dep_nil fun x hx => by
        simp only [run_eq, ss_nil, ss_cons, s_nm, s_asg, s_par, par2, par3, s_aug, augD_add, augD_sub, s_augIx, augX_add, augX_sub, s_expr, s_ret, s_retN, s_pass, s_brk, s_cont, s_ite, s_for, s_while, seqF_nx, seqF_rt, seqF_bk, seqF_ct, fnD_rt, fnD_nx, g_nm, g_tp, g_ix, gs_nil, gs_cons, e_int, e_bl, e_non, e_str, e_var, getV_0, getV_s, e_gl, opt_some, e_bin, e_neg, negD_int, e_not, notD_bl, e_and, e_or, bE_app, bolD_bl, okM_app, e_cmp, e_chain, chE_app, e_ite, e_tup, e_lst, e_ix, e_rev, e_slA, e_slL, e_slH, e_slLH, sl1_L, sl1_H, sl2_LH, e_call, e_bi, e_mt, e_comp, es_nil, es_cons, ifD_bl, ifD_t, ifD_f, b_ok, b_assoc, fTurn_eq, turn_eq, inT_some, inC_some, soE_app, evT_nil, evT_one, t_nm, t_tp, ts_nil, ts_cons, mkL_f, mkL_t, o_add, o_sub, c_lt, c_le, c_gt, c_ge, c_eqI, c_neI, b_int, b_intB, b_abs, b_max2, b_min2, b_gcd, b_lenT, b_lenL, b_lenS, b_tupT, b_tupL, b_lstT, b_lstL, b_isiT, b_isiI, b_isiB, revT, revL, ixT0, ixT1, ixT2, ixL0, ixL1, isI, q_vlT, q_vlL, q_vlS, q_enT, q_enL, q_zpTT, q_zpTL, q_zpLT, q_zpLL, forD_some, List.set_cons_zero, List.set_cons_succ, List.map_cons, List.map_nil, List.length_cons, List.length_nil, List.cons_append, List.nil_append, List.replicate_succ, List.replicate_zero, Nat.reduceAdd, Nat.reduceSub, Nat.reduceEqDiff, if_true, Option.bind_some, wipeD, o_mul (mulOk hos (sg_small hts hx))]]
      have hlen : ((cpsF (found.take j) t).map D.int).length + ((t.map fun x => o * x).map D.int).length ≤ LIM := by
        rw [List.length_map, List.length_map, List.length_map, cpsF_len, List.length_take]
        have h1 : min j found.length + 1 ≤ found.length := by have := (List.getElem?_eq_some_iff.mp ho).1; omega
        have h2 := Nat.mul_le_mul_right t.length h1
        rw [Nat.succ_mul] at h2
        omega
      simp only [run_eq, ss_nil, ss_cons, s_nm, s_asg, s_par, par2, par3, s_aug, augD_add, augD_sub, s_augIx, augX_add, augX_sub, s_expr, s_ret, s_retN, s_pass, s_brk, s_cont, s_ite, s_for, s_while, seqF_nx, seqF_rt, seqF_bk, seqF_ct, fnD_rt, fnD_nx, g_nm, g_tp, g_ix, gs_nil, gs_cons, e_int, e_bl, e_non, e_str, e_var, getV_0, getV_s, e_gl, opt_some, e_bin, e_neg, negD_int, e_not, notD_bl, e_and, e_or, bE_app, bolD_bl, okM_app, e_cmp, e_chain, chE_app, e_ite, e_tup, e_lst, e_ix, e_rev, e_slA, e_slL, e_slH, e_slLH, sl1_L, sl1_H, sl2_LH, e_call, e_bi, e_mt, e_comp, es_nil, es_cons, ifD_bl, ifD_t, ifD_f, b_ok, b_assoc, fTurn_eq, turn_eq, inT_some, inC_some, soE_app, evT_nil, evT_one, t_nm, t_tp, ts_nil, ts_cons, mkL_f, mkL_t, o_add, o_sub, c_lt, c_le, c_gt, c_ge, c_eqI, c_neI, b_int, b_intB, b_abs, b_max2, b_min2, b_gcd, b_lenT, b_lenL, b_lenS, b_tupT, b_tupL, b_lstT, b_lstL, b_isiT, b_isiI, b_isiB, revT, revL, ixT0, ixT1, ixT2, ixL0, ixL1, isI, q_vlT, q_vlL, q_vlS, q_enT, q_enL, q_zpTT, q_zpTL, q_zpLT, q_zpLL, forD_some, List.set_cons_zero, List.set_cons_succ, List.map_cons, List.map_nil, List.length_cons, List.length_nil, List.cons_append, List.nil_append, List.replicate_succ, List.replicate_zero, Nat.reduceAdd, Nat.reduceSub, Nat.reduceEqDiff, if_true, Option.bind_some, wipeD, m_extend h1 (show lstOf S2 (.lst ((t.map fun x => o * x).map D.int)) = some ((t.map fun x => o * x).map D.int) from rfl) hlen, WP_ok]
      have hkl : k < S2.length := (List.getElem?_eq_some_iff.mp h1).1
      refine ⟨_, _, rfl, ?_, ?_, h3.set (by have := hal.len; omega)⟩
      · rw [List.getElem?_set_self hkl, cpsF_take ho, List.map_append]
      · rw [List.getElem?_set_ne (by omega)]; exact h2
    · rintro env S2 ⟨e4, e5, rfl, h1, h2, h3⟩
      refine ⟨dep_one h2, e4, e5, rfl, ?_, h3⟩
      rw [List.length_map, Nat.zero_add, List.take_length] at h1
      exact h1
    · rintro f S2 ⟨e4, e5, rfl, h1, h3⟩
      simp only [run_eq, ss_nil, ss_cons, s_nm, s_asg, s_par, par2, par3, s_aug, augD_add, augD_sub, s_augIx, augX_add, augX_sub, s_expr, s_ret, s_retN, s_pass, s_brk, s_cont, s_ite, s_for, s_while, seqF_nx, seqF_rt, seqF_bk, seqF_ct, fnD_rt, fnD_nx, g_nm, g_tp, g_ix, gs_nil, gs_cons, e_int, e_bl, e_non, e_str, e_var, getV_0, getV_s, e_gl, opt_some, e_bin, e_neg, negD_int, e_not, notD_bl, e_and, e_or, bE_app, bolD_bl, okM_app, e_cmp, e_chain, chE_app, e_ite, e_tup, e_lst, e_ix, e_rev, e_slA, e_slL, e_slH, e_slLH, sl1_L, sl1_H, sl2_LH, e_call, e_bi, e_mt, e_comp, es_nil, es_cons, ifD_bl, ifD_t, ifD_f, b_ok, b_assoc, fTurn_eq, turn_eq, inT_some, inC_some, soE_app, evT_nil, evT_one, t_nm, t_tp, ts_nil, ts_cons, mkL_f, mkL_t, o_add, o_sub, c_lt, c_le, c_gt, c_ge, c_eqI, c_neI, b_int, b_intB, b_abs, b_max2, b_min2, b_gcd, b_lenT, b_lenL, b_lenS, b_tupT, b_tupL, b_lstT, b_lstL, b_isiT, b_isiI, b_isiB, revT, revL, ixT0, ixT1, ixT2, ixL0, ixL1, isI, q_vlT, q_vlL, q_vlS, q_enT, q_enL, q_zpTT, q_zpTL, q_zpLT, q_zpLL, forD_some, List.set_cons_zero, List.set_cons_succ, List.map_cons, List.map_nil, List.length_cons, List.length_nil, List.cons_append, List.nil_append, List.replicate_succ, List.replicate_zero, Nat.reduceAdd, Nat.reduceSub, Nat.reduceEqDiff, if_true, Option.bind_some, wipeD, WP_ok]
      exact ⟨k, _, _, _, _, rfl, by rw [cps_take ht, hf]; exact h1, by have := hal.len; omega, h3⟩
  · rintro env S1 ⟨n, e2, e3, e4, e5, rfl, hn, hle, hal⟩
    rw [List.length_map, Nat.zero_add, List.take_length] at hn
    exact ⟨dep_nil, n, e2, e3, e4, e5, rfl, hn, hle, hal⟩
  · rintro f S1 ⟨n, e2, e3, e4, e5, rfl, hn, hle, hal⟩
    simp only [run_eq, ss_nil, ss_cons, s_nm, s_asg, s_par, par2, par3, s_aug, augD_add, augD_sub, s_augIx, augX_add, augX_sub, s_expr, s_ret, s_retN, s_pass, s_brk, s_cont, s_ite, s_for, s_while, seqF_nx, seqF_rt, seqF_bk, seqF_ct, fnD_rt, fnD_nx, g_nm, g_tp, g_ix, gs_nil, gs_cons, e_int, e_bl, e_non, e_str, e_var, getV_0, getV_s, e_gl, opt_some, e_bin, e_neg, negD_int, e_not, notD_bl, e_and, e_or, bE_app, bolD_bl, okM_app, e_cmp, e_chain, chE_app, e_ite, e_tup, e_lst, e_ix, e_rev, e_slA, e_slL, e_slH, e_slLH, sl1_L, sl1_H, sl2_LH, e_call, e_bi, e_mt, e_comp, es_nil, es_cons, ifD_bl, ifD_t, ifD_f, b_ok, b_assoc, fTurn_eq, turn_eq, inT_some, inC_some, soE_app, evT_nil, evT_one, t_nm, t_tp, ts_nil, ts_cons, mkL_f, mkL_t, o_add, o_sub, c_lt, c_le, c_gt, c_ge, c_eqI, c_neI, b_int, b_intB, b_abs, b_max2, b_min2, b_gcd, b_lenT, b_lenL, b_lenS, b_tupT, b_tupL, b_lstT, b_lstL, b_isiT, b_isiI, b_isiB, revT, revL, ixT0, ixT1, ixT2, ixL0, ixL1, isI, q_vlT, q_vlL, q_vlS, q_enT, q_enL, q_zpTT, q_zpTL, q_zpLT, q_zpLL, forD_some, List.set_cons_zero, List.set_cons_succ, List.map_cons, List.map_nil, List.length_cons, List.length_nil, List.cons_append, List.nil_append, List.replicate_succ, List.replicate_zero, Nat.reduceAdd, Nat.reduceSub, Nat.reduceEqDiff, if_true, Option.bind_some, wipeD, WP_ok]
    exact ⟨n, rfl, hn, hle, hal⟩
/-! ### the defs of the table -/
theorem cf (k g : Nat) (fd : FDef) (h : fns[g]? = some (some fd)) (as : List D) : callF pr (k + 1) g as = runF ⟨pr.gv, callF pr k, pr.fuel⟩ fd as := by
  show (match nth fns g with | some (some f) => runF _ f as | _ => stk) = _
  rw [nth_eq, h]
theorem k1 (k : Nat) : WOk (callF pr (k + 1)) := fun S i => by rw [cf k 1 fd_is_whole rfl]; exact whole_spec
theorem k2 (k : Nat) : POk (callF pr (k + 1)) := fun S m t mi ti a b c d e => by rw [cf k 2 fd_power_of rfl]; exact power_spec a b c d e
theorem k3 (k : Nat) : FrOk (callF pr (k + 1)) 3 := fun S t b h1 h2 => by rw [cf k 3 fd_fraction_in rfl]; exact fracin_spec h1 h2
theorem k4 (k : Nat) : RowOk (callF pr (k + 2)) := fun S p m mi a b c => by rw [cf (k + 1) 4 fd_is_row_in rfl]; exact row_spec rfl (k1 k) a b c
theorem k5 (k : Nat) : PartOk (callF pr (k + 3)) := fun S p m mi a b c => by rw [cf (k + 2) 5 fd_is_part_in rfl]; exact ispart_spec (k4 k) a b c
theorem k7 (k : Nat) : SgOk (callF pr (k + 2)) := fun S x h => by rw [cf (k + 1) 7 fd_is_sign rfl]; exact sign_spec (k1 k) h
theorem k8 (k : Nat) : TiOk (callF pr (k + 3)) := fun S l ni a b c => by rw [cf (k + 2) 8 fd_is_truth_in rfl]; exact truthin_spec (k7 k) a b c
theorem k9 (k : Nat) : AnyOk (callF pr (k + 4)) := fun S l a b c => by rw [cf (k + 3) 9 fd_is_any_truth rfl]; exact anytruth_spec rfl (k8 k) a b c
theorem k12 (k : Nat) : WsOk (callF pr (k + 1)) := fun S m t ts test fv fs ws a b c d e f g => by rw [cf k 12 fd_weighed_sum rfl]; exact weighed_spec a b c d e f g
theorem k13 (k : Nat) : ∀ (S : Store) (m t : Nat) (ts : List (List Int)) (test : List Int), Ts ts m t → test.length = m ^ t → SgL test → callF pr (k + 2) 13 [tsD ts, tI test] S = .ok (.int (PS ts test (m ^ t))) S := fun S m t ts test a b c => by
  rw [cf (k + 1) 13 fd_plain_sum rfl]; exact plain_spec (k12 k) a b c
theorem k14 (k : Nat) : SiOk (callF pr (k + 2)) := fun S m t place pl ts test ms a b c d e => by rw [cf (k + 1) 14 fd_part_in rfl]; exact partin_spec (k12 k) (k3 k) a b c d e
theorem k15 (k : Nat) : ArOk (callF pr (k + 5)) := fun S ts m t a => by rw [cf (k + 4) 15 fd_are_truths rfl]; exact aretruths_spec rfl (k8 (k + 1)) (k9 k) a
theorem kC (k : Nat) : ChkOk (callF pr (k + 6)) where
  rt := fun S ts m t a => by rw [cf (k + 5) 16 fd_require_truths rfl]; exact reqtruths_spec (k15 k) a
  rc := fun S test m t mi ti a b c d e f g h => by rw [cf (k + 5) 17 fd_require_copies_test rfl]; exact reqtest_spec (k2 (k + 4)) (k8 (k + 2)) a b c d e f g h
  np := fun S m t mi ti a b c d e f => by rw [cf (k + 5) 18 fd_need_places rfl]; exact need_spec rfl (k2 (k + 4)) a b c d e f
  ap := fun S ms m t mi ti a b c d e => by rw [cf (k + 5) 19 fd_are_parts rfl]; exact areparts_spec (k5 (k + 2)) a b c d e
theorem k20 (k : Nat) : CsOk (callF pr (k + 7)) := fun S m t ts test a b c => by rw [cf (k + 6) 20 fd_copies_sum rfl]; exact csum_spec (kC k) (fun S => k13 (k + 4) S m t ts test a b c) a b c
theorem k21 (k : Nat) : SpOk (callF pr (k + 7)) := fun S m t ts test ms a b c d => by rw [cf (k + 6) 21 fd_splits rfl]; exact splits_spec (kC k) (k14 (k + 4)) a b c d
theorem k23 (k : Nat) : UpOk (callF pr (k + 1)) := fun S n N t a b c d => by rw [cf k 23 fd_law_hx_up rfl]; exact up_spec a b c d
theorem k24 (k : Nat) : OfOk (callF pr (k + 2)) := fun S n N xs a b c d => by rw [cf (k + 1) 24 fd_law_hx_of rfl]; exact of_spec (k23 k) a b c d
theorem k26 (k : Nat) : FrOk (callF pr (k + 2)) 26 := fun S t b h1 h2 => by rw [cf (k + 1) 26 fd_law_hx_fraction rfl]; exact fraction_spec (fun x y => by show callF pr (k + 1) 25 [.int x, .int y] S = .ok (.int (Int.gcd x y : Int)) S; rw [cf k 25 fd_law_hx_shared rfl]; exact shared_spec) h1 h2
theorem k27 (k : Nat) : QOk (callF pr (k + 3)) 27 (· + ·) := fun S p q a b => by rw [cf (k + 2) 27 fd_law_hx_plus rfl]; exact plus_spec (k26 k) a b
theorem k28 (k : Nat) : QOk (callF pr (k + 3)) 28 (· - ·) := fun S p q a b => by rw [cf (k + 2) 28 fd_law_hx_less rfl]; exact less_spec (k26 k) a b
theorem k29 (k : Nat) : QOk (callF pr (k + 3)) 29 (· * ·) := fun S p q a b => by rw [cf (k + 2) 29 fd_law_hx_times rfl]; exact times_spec (k26 k) a b
theorem k30 (k : Nat) : TrOk (callF pr (k + 2)) := fun S n N m mi a b c d => by rw [cf (k + 1) 30 fd_law_hx_truth rfl, a]; exact truth_spec (k23 k) b c d
theorem k31 (k : Nat) : CpOk (callF pr (k + 1)) := fun S ts m a b c d => by rw [cf k 31 fd_law_hx_copies rfl]; exact copies_spec a b c d
theorem k32 (k : Nat) : PlOk (callF pr (k + 1)) := fun S m t p mi ti pi a b c d e f => by rw [cf k 32 fd_law_hx_places rfl]; exact places_spec a b c d e f
theorem k33 (k : Nat) : PaOk (callF pr (k + 4)) := fun S m t place pl ts test ms a b c d e f => by rw [cf (k + 3) 33 fd_law_hx_part rfl]; exact part_spec (k31 (k + 2)) (k32 (k + 2)) (k26 (k + 1)) (k27 k) (k28 k) (k29 k) a b c d e f
theorem k35 (k : Nat) : MeOk (callF pr (k + 3)) := fun S n N m mi a b c d => by rw [cf (k + 2) 35 fd_law_measure rfl]; exact measure_spec a (k23 (k + 1)) (k24 k) b c d
theorem k31L (k : Nat) : CpOkL (callF pr (k + 1)) := fun S ts m a b c d => by rw [cf k 31 fd_law_hx_copies rfl]; exact copies_specL a b c d
theorem k34 (k : Nat) : CtOk (callF pr (k + 3)) := fun S n N m t ts a b c => by rw [cf (k + 2) 34 fd_law_hx_copies_test rfl]; exact ct_spec (k23 (k + 1)) (k30 k) (k31 (k + 1)) (k31L (k + 1)) a b c
def RgOk (cl : Nat → List D → M D) : Prop := ∀ (S : Store) (n N : Nat), Di n N S → N + 10000 < 2 ^ 100 → WP (cl 36 [.ref n] S) fun d S' => d = .bl true ∧ Fr n S S' ∧ Di n (N + 1000) S'
theorem k36 (k : Nat) : RgOk (callF pr (k + 8)) := fun S n N a b => by rw [cf (k + 7) 36 fd_law_right rfl]; exact right_spec (k24 (k + 5)) (k30 (k + 5)) (k35 (k + 4)) (k34 (k + 4)) (k21 k) (k33 (k + 3)) (k20 k) (k27 (k + 4)) a b
theorem k22 (k : Nat) : ∀ (S : Store) (ns : List Int) (spot : Nat) (si : Int), si = (spot : Int) → spot < 3 → WP (callF pr (k + 1) 22 [.scr (ns.map .int), .int si] S) fun d S' => d = .ref S.length ∧ Di S.length 0 S' := fun S ns spot si a b => by
  rw [cf k 22 fd_law_hx_dice rfl]; exact dice_spec a b
/-! ### the law -/
theorem in1 {α : Type} {a : α} {P : α → Prop} (h : P a) : ∀ s, s ∈ [a] → P s := fun s hs => by
  have : s = a := by simpa using hs
  subst this; exact h
theorem in2 {α : Type} {a : α} {P : α → Prop} (h : P a) : ∀ s, s ∈ [a, a] → P s := fun s hs => by
  have : s = a := by simpa using hs
  subst this; exact h
theorem sgl2 : ∀ s, s ∈ [[(1 : Int), -1], [1, -1]] → SgL s := fun s hs x hx => by
  have : s = [1, -1] := by simpa using hs
  subst this; simpa using hx
theorem law_spec {C : Ev.Ctx} {S : Store} {ns : List Int} (hr : RgOk C.cl) (hs : SpOk C.cl) (hd : ∀ (S : Store) (ns : List Int) (spot : Nat) (si : Int), si = (spot : Int) → spot < 3 → WP (C.cl 22 [.scr (ns.map .int), .int si] S) fun d S' => d = .ref S.length ∧ Di S.length 0 S') :
    WP (runF C fd_law [.scr (ns.map .int)] S) fun d _ => d = .bl true := by
  obtain ⟨n, ni, hn, hn3, hmax⟩ : ∃ (n : Nat) (ni : Int), ni = (n : Int) ∧ n ≤ 3 ∧ (if (if (ns.length : Int) < 3 then (ns.length : Int) else 3) > 1 then (if (ns.length : Int) < 3 then (ns.length : Int) else 3) else 1) = ni := by
    refine ⟨max 1 (min 3 ns.length), ((max 1 (min 3 ns.length) : Nat) : Int), rfl, by omega, ?_⟩
    split <;> split <;> omega
  simp only [run_eq, ss_nil, ss_cons, s_nm, s_asg, s_par, par2, par3, s_aug, augD_add, augD_sub, s_augIx, augX_add, augX_sub, s_expr, s_ret, s_retN, s_pass, s_brk, s_cont, s_ite, s_for, s_while, seqF_nx, seqF_rt, seqF_bk, seqF_ct, fnD_rt, fnD_nx, g_nm, g_tp, g_ix, gs_nil, gs_cons, e_int, e_bl, e_non, e_str, e_var, getV_0, getV_s, e_gl, opt_some, e_bin, e_neg, negD_int, e_not, notD_bl, e_and, e_or, bE_app, bolD_bl, okM_app, e_cmp, e_chain, chE_app, e_ite, e_tup, e_lst, e_ix, e_rev, e_slA, e_slL, e_slH, e_slLH, sl1_L, sl1_H, sl2_LH, e_call, e_bi, e_mt, e_comp, es_nil, es_cons, ifD_bl, ifD_t, ifD_f, b_ok, b_assoc, fTurn_eq, turn_eq, inT_some, inC_some, soE_app, evT_nil, evT_one, t_nm, t_tp, ts_nil, ts_cons, mkL_f, mkL_t, o_add, o_sub, c_lt, c_le, c_gt, c_ge, c_eqI, c_neI, b_int, b_intB, b_abs, b_max2, b_min2, b_gcd, b_lenT, b_lenL, b_lenS, b_tupT, b_tupL, b_lstT, b_lstL, b_isiT, b_isiI, b_isiB, revT, revL, ixT0, ixT1, ixT2, ixL0, ixL1, isI, q_vlT, q_vlL, q_vlS, q_enT, q_enL, q_zpTT, q_zpTL, q_zpLT, q_zpLL, forD_some, List.set_cons_zero, List.set_cons_succ, List.map_cons, List.map_nil, List.length_cons, List.length_nil, List.cons_append, List.nil_append, List.replicate_succ, List.replicate_zero, Nat.reduceAdd, Nat.reduceSub, Nat.reduceEqDiff, if_true, Option.bind_some, wipeD, fd_law, List.length_map]
  rw [hmax, q_rg1' hn (lim_of (show n ≤ 100000 by omega))]
  simp only [run_eq, ss_nil, ss_cons, s_nm, s_asg, s_par, par2, par3, s_aug, augD_add, augD_sub, s_augIx, augX_add, augX_sub, s_expr, s_ret, s_retN, s_pass, s_brk, s_cont, s_ite, s_for, s_while, seqF_nx, seqF_rt, seqF_bk, seqF_ct, fnD_rt, fnD_nx, g_nm, g_tp, g_ix, gs_nil, gs_cons, e_int, e_bl, e_non, e_str, e_var, getV_0, getV_s, e_gl, opt_some, e_bin, e_neg, negD_int, e_not, notD_bl, e_and, e_or, bE_app, bolD_bl, okM_app, e_cmp, e_chain, chE_app, e_ite, e_tup, e_lst, e_ix, e_rev, e_slA, e_slL, e_slH, e_slLH, sl1_L, sl1_H, sl2_LH, e_call, e_bi, e_mt, e_comp, es_nil, es_cons, ifD_bl, ifD_t, ifD_f, b_ok, b_assoc, fTurn_eq, turn_eq, inT_some, inC_some, soE_app, evT_nil, evT_one, t_nm, t_tp, ts_nil, ts_cons, mkL_f, mkL_t, o_add, o_sub, c_lt, c_le, c_gt, c_ge, c_eqI, c_neI, b_int, b_intB, b_abs, b_max2, b_min2, b_gcd, b_lenT, b_lenL, b_lenS, b_tupT, b_tupL, b_lstT, b_lstL, b_isiT, b_isiI, b_isiB, revT, revL, ixT0, ixT1, ixT2, ixL0, ixL1, isI, q_vlT, q_vlL, q_vlS, q_enT, q_enL, q_zpTT, q_zpTL, q_zpLT, q_zpLL, forD_some, List.set_cons_zero, List.set_cons_succ, List.map_cons, List.map_nil, List.length_cons, List.length_nil, List.cons_append, List.nil_append, List.replicate_succ, List.replicate_zero, Nat.reduceAdd, Nat.reduceSub, Nat.reduceEqDiff, if_true, Option.bind_some, wipeD]
  refine WP_call (for_inv (P := fun f S' => ∃ e1 e2, f = Fl.nx [some (.scr (ns.map .int)), e1, e2, none, none, none]) (fun i env S' => ∃ e1 e2, env = [some (.scr (ns.map .int)), e1, e2, none, none, none]) 0 ⟨_, _, rfl⟩ ?_ ?_) ?_
  · rintro i env S1 x ⟨e1, e2, rfl⟩ hi _ hx
    obtain ⟨rfl, hi2⟩ := natsD_get hx
    refine ⟨dep_nil, ?_⟩
    obtain ⟨si, hsi⟩ : ∃ si : Int, si = (i : Int) := ⟨_, rfl⟩
    rw [Nat.sub_zero, ← hsi]
    simp only [run_eq, ss_nil, ss_cons, s_nm, s_asg, s_par, par2, par3, s_aug, augD_add, augD_sub, s_augIx, augX_add, augX_sub, s_expr, s_ret, s_retN, s_pass, s_brk, s_cont, s_ite, s_for, s_while, seqF_nx, seqF_rt, seqF_bk, seqF_ct, fnD_rt, fnD_nx, g_nm, g_tp, g_ix, gs_nil, gs_cons, e_int, e_bl, e_non, e_str, e_var, getV_0, getV_s, e_gl, opt_some, e_bin, e_neg, negD_int, e_not, notD_bl, e_and, e_or, bE_app, bolD_bl, okM_app, e_cmp, e_chain, chE_app, e_ite, e_tup, e_lst, e_ix, e_rev, e_slA, e_slL, e_slH, e_slLH, sl1_L, sl1_H, sl2_LH, e_call, e_bi, e_mt, e_comp, es_nil, es_cons, ifD_bl, ifD_t, ifD_f, b_ok, b_assoc, fTurn_eq, turn_eq, inT_some, inC_some, soE_app, evT_nil, evT_one, t_nm, t_tp, ts_nil, ts_cons, mkL_f, mkL_t, o_add, o_sub, c_lt, c_le, c_gt, c_ge, c_eqI, c_neI, b_int, b_intB, b_abs, b_max2, b_min2, b_gcd, b_lenT, b_lenL, b_lenS, b_tupT, b_tupL, b_lstT, b_lstL, b_isiT, b_isiI, b_isiB, revT, revL, ixT0, ixT1, ixT2, ixL0, ixL1, isI, q_vlT, q_vlL, q_vlS, q_enT, q_enL, q_zpTT, q_zpTL, q_zpLT, q_zpLL, forD_some, List.set_cons_zero, List.set_cons_succ, List.map_cons, List.map_nil, List.length_cons, List.length_nil, List.cons_append, List.nil_append, List.replicate_succ, List.replicate_zero, Nat.reduceAdd, Nat.reduceSub, Nat.reduceEqDiff, if_true, Option.bind_some, wipeD]
    refine WP_call (hd S1 ns i si hsi (by omega)) ?_
    rintro d S2 ⟨rfl, h2⟩
    simp only [run_eq, ss_nil, ss_cons, s_nm, s_asg, s_par, par2, par3, s_aug, augD_add, augD_sub, s_augIx, augX_add, augX_sub, s_expr, s_ret, s_retN, s_pass, s_brk, s_cont, s_ite, s_for, s_while, seqF_nx, seqF_rt, seqF_bk, seqF_ct, fnD_rt, fnD_nx, g_nm, g_tp, g_ix, gs_nil, gs_cons, e_int, e_bl, e_non, e_str, e_var, getV_0, getV_s, e_gl, opt_some, e_bin, e_neg, negD_int, e_not, notD_bl, e_and, e_or, bE_app, bolD_bl, okM_app, e_cmp, e_chain, chE_app, e_ite, e_tup, e_lst, e_ix, e_rev, e_slA, e_slL, e_slH, e_slLH, sl1_L, sl1_H, sl2_LH, e_call, e_bi, e_mt, e_comp, es_nil, es_cons, ifD_bl, ifD_t, ifD_f, b_ok, b_assoc, fTurn_eq, turn_eq, inT_some, inC_some, soE_app, evT_nil, evT_one, t_nm, t_tp, ts_nil, ts_cons, mkL_f, mkL_t, o_add, o_sub, c_lt, c_le, c_gt, c_ge, c_eqI, c_neI, b_int, b_intB, b_abs, b_max2, b_min2, b_gcd, b_lenT, b_lenL, b_lenS, b_tupT, b_tupL, b_lstT, b_lstL, b_isiT, b_isiI, b_isiB, revT, revL, ixT0, ixT1, ixT2, ixL0, ixL1, isI, q_vlT, q_vlL, q_vlS, q_enT, q_enL, q_zpTT, q_zpTL, q_zpLT, q_zpLL, forD_some, List.set_cons_zero, List.set_cons_succ, List.map_cons, List.map_nil, List.length_cons, List.length_nil, List.cons_append, List.nil_append, List.replicate_succ, List.replicate_zero, Nat.reduceAdd, Nat.reduceSub, Nat.reduceEqDiff, if_true, Option.bind_some, wipeD]
    refine WP_call (hr S2 _ 0 h2 (by decide)) ?_
    rintro d S3 ⟨rfl, _, h3⟩
    simp only [run_eq, ss_nil, ss_cons, s_nm, s_asg, s_par, par2, par3, s_aug, augD_add, augD_sub, s_augIx, augX_add, augX_sub, s_expr, s_ret, s_retN, s_pass, s_brk, s_cont, s_ite, s_for, s_while, seqF_nx, seqF_rt, seqF_bk, seqF_ct, fnD_rt, fnD_nx, g_nm, g_tp, g_ix, gs_nil, gs_cons, e_int, e_bl, e_non, e_str, e_var, getV_0, getV_s, e_gl, opt_some, e_bin, e_neg, negD_int, e_not, notD_bl, e_and, e_or, bE_app, bolD_bl, okM_app, e_cmp, e_chain, chE_app, e_ite, e_tup, e_lst, e_ix, e_rev, e_slA, e_slL, e_slH, e_slLH, sl1_L, sl1_H, sl2_LH, e_call, e_bi, e_mt, e_comp, es_nil, es_cons, ifD_bl, ifD_t, ifD_f, b_ok, b_assoc, fTurn_eq, turn_eq, inT_some, inC_some, soE_app, evT_nil, evT_one, t_nm, t_tp, ts_nil, ts_cons, mkL_f, mkL_t, o_add, o_sub, c_lt, c_le, c_gt, c_ge, c_eqI, c_neI, b_int, b_intB, b_abs, b_max2, b_min2, b_gcd, b_lenT, b_lenL, b_lenS, b_tupT, b_tupL, b_lstT, b_lstL, b_isiT, b_isiI, b_isiB, revT, revL, ixT0, ixT1, ixT2, ixL0, ixL1, isI, q_vlT, q_vlL, q_vlS, q_enT, q_enL, q_zpTT, q_zpTL, q_zpLT, q_zpLL, forD_some, List.set_cons_zero, List.set_cons_succ, List.map_cons, List.map_nil, List.length_cons, List.length_nil, List.cons_append, List.nil_append, List.replicate_succ, List.replicate_zero, Nat.reduceAdd, Nat.reduceSub, Nat.reduceEqDiff, if_true, Option.bind_some, wipeD, decide_true, decide_false, not_true_eq_false, not_false_eq_true, Bool.false_eq_true, if_false, Bool.not_true, Bool.not_false, ne_eq]
    refine WP_call (hr S3 _ _ h3 (by decide)) ?_
    rintro d S4 ⟨rfl, _, h4⟩
    simp only [run_eq, ss_nil, ss_cons, s_nm, s_asg, s_par, par2, par3, s_aug, augD_add, augD_sub, s_augIx, augX_add, augX_sub, s_expr, s_ret, s_retN, s_pass, s_brk, s_cont, s_ite, s_for, s_while, seqF_nx, seqF_rt, seqF_bk, seqF_ct, fnD_rt, fnD_nx, g_nm, g_tp, g_ix, gs_nil, gs_cons, e_int, e_bl, e_non, e_str, e_var, getV_0, getV_s, e_gl, opt_some, e_bin, e_neg, negD_int, e_not, notD_bl, e_and, e_or, bE_app, bolD_bl, okM_app, e_cmp, e_chain, chE_app, e_ite, e_tup, e_lst, e_ix, e_rev, e_slA, e_slL, e_slH, e_slLH, sl1_L, sl1_H, sl2_LH, e_call, e_bi, e_mt, e_comp, es_nil, es_cons, ifD_bl, ifD_t, ifD_f, b_ok, b_assoc, fTurn_eq, turn_eq, inT_some, inC_some, soE_app, evT_nil, evT_one, t_nm, t_tp, ts_nil, ts_cons, mkL_f, mkL_t, o_add, o_sub, c_lt, c_le, c_gt, c_ge, c_eqI, c_neI, b_int, b_intB, b_abs, b_max2, b_min2, b_gcd, b_lenT, b_lenL, b_lenS, b_tupT, b_tupL, b_lstT, b_lstL, b_isiT, b_isiI, b_isiB, revT, revL, ixT0, ixT1, ixT2, ixL0, ixL1, isI, q_vlT, q_vlL, q_vlS, q_enT, q_enL, q_zpTT, q_zpTL, q_zpLT, q_zpLL, forD_some, List.set_cons_zero, List.set_cons_succ, List.map_cons, List.map_nil, List.length_cons, List.length_nil, List.cons_append, List.nil_append, List.replicate_succ, List.replicate_zero, Nat.reduceAdd, Nat.reduceSub, Nat.reduceEqDiff, if_true, Option.bind_some, wipeD, decide_true, decide_false, not_true_eq_false, not_false_eq_true, Bool.false_eq_true, if_false, Bool.not_true, Bool.not_false, ne_eq, WP_ok]
    exact ⟨_, _, rfl⟩
  · rintro env S1 ⟨e1, e2, rfl⟩
    exact ⟨dep_nil, _, _, rfl⟩
  · rintro f S1 ⟨e1, e2, rfl⟩
    simp only [run_eq, ss_nil, ss_cons, s_nm, s_asg, s_par, par2, par3, s_aug, augD_add, augD_sub, s_augIx, augX_add, augX_sub, s_expr, s_ret, s_retN, s_pass, s_brk, s_cont, s_ite, s_for, s_while, seqF_nx, seqF_rt, seqF_bk, seqF_ct, fnD_rt, fnD_nx, g_nm, g_tp, g_ix, gs_nil, gs_cons, e_int, e_bl, e_non, e_str, e_var, getV_0, getV_s, e_gl, opt_some, e_bin, e_neg, negD_int, e_not, notD_bl, e_and, e_or, bE_app, bolD_bl, okM_app, e_cmp, e_chain, chE_app, e_ite, e_tup, e_lst, e_ix, e_rev, e_slA, e_slL, e_slH, e_slLH, sl1_L, sl1_H, sl2_LH, e_call, e_bi, e_mt, e_comp, es_nil, es_cons, ifD_bl, ifD_t, ifD_f, b_ok, b_assoc, fTurn_eq, turn_eq, inT_some, inC_some, soE_app, evT_nil, evT_one, t_nm, t_tp, ts_nil, ts_cons, mkL_f, mkL_t, o_add, o_sub, c_lt, c_le, c_gt, c_ge, c_eqI, c_neI, b_int, b_intB, b_abs, b_max2, b_min2, b_gcd, b_lenT, b_lenL, b_lenS, b_tupT, b_tupL, b_lstT, b_lstL, b_isiT, b_isiI, b_isiB, revT, revL, ixT0, ixT1, ixT2, ixL0, ixL1, isI, q_vlT, q_vlL, q_vlS, q_enT, q_enL, q_zpTT, q_zpTL, q_zpLT, q_zpLL, forD_some, List.set_cons_zero, List.set_cons_succ, List.map_cons, List.map_nil, List.length_cons, List.length_nil, List.cons_append, List.nil_append, List.replicate_succ, List.replicate_zero, Nat.reduceAdd, Nat.reduceSub, Nat.reduceEqDiff, if_true, Option.bind_some, wipeD]
    have g1 : SgL [1, 1, 1, -1] := fun x hx => by simpa using hx
    have g2 : SgL [1, -1] := fun x hx => by simpa using hx
    have g3 : SgL [1, 1] := fun x hx => by left; simpa using hx
    have t1 : Ts [[1, -1], [1, -1]] 2 2 := ⟨in2 g2, in2 rfl, by decide, by decide, rfl, by decide, by decide⟩
    have t2 : Ts [[1, 1]] 2 1 := ⟨in1 g3, in1 rfl, by decide, by decide, rfl, by decide, by decide⟩
    have r12 : ∀ (B w : Int), 2 ≤ B → w ∈ [(1 : Int), 2] → 0 ≤ w ∧ w ≤ B := fun B w hB hw => by
      have : w = 1 ∨ w = 2 := by simpa using hw
      omega
    have u1 : Ms 2 [1, 2] 2 := ⟨by decide, by decide, rfl, fun w hw => r12 2 w (by decide) hw⟩
    have u2 : Ms 3 [1, 2] 2 := ⟨by decide, by decide, rfl, fun w hw => r12 3 w (by decide) hw⟩
    have m1 : Mss [(2, [1, 2]), (2, [1, 2])] 2 2 := ⟨in2 (a := ((2 : Int), [(1 : Int), 2])) u1, rfl⟩
    have m2 : Mss [(3, [1, 2])] 2 1 := ⟨in1 (a := ((3 : Int), [(1 : Int), 2])) u2, rfl⟩
    have v1 : D.tup ((List.range (2 + 1)).map (partD [[1, -1], [1, -1]] [1, 1, 1, -1] [(2, [1, 2]), (2, [1, 2])] 2 2)) = .tup [.tup [.int (-2), .int 1], .tup [.int (-1), .int 4], .tup [.int 1, .int 4]] := by decide +kernel
    have v2 : D.tup ((List.range (1 + 1)).map (partD [[1, 1]] [1, -1] [(3, [1, 2])] 2 1)) = .tup [.tup [.int (-1), .int 3], .tup [.int 1, .int 3]] := by decide +kernel
    refine WP_call (hs S1 2 2 [[1, -1], [1, -1]] [1, 1, 1, -1] [(2, [1, 2]), (2, [1, 2])] t1 rfl g1 m1) ?_
    rintro d S2 ⟨rfl, _⟩
    rw [v1]
    simp only [run_eq, ss_nil, ss_cons, s_nm, s_asg, s_par, par2, par3, s_aug, augD_add, augD_sub, s_augIx, augX_add, augX_sub, s_expr, s_ret, s_retN, s_pass, s_brk, s_cont, s_ite, s_for, s_while, seqF_nx, seqF_rt, seqF_bk, seqF_ct, fnD_rt, fnD_nx, g_nm, g_tp, g_ix, gs_nil, gs_cons, e_int, e_bl, e_non, e_str, e_var, getV_0, getV_s, e_gl, opt_some, e_bin, e_neg, negD_int, e_not, notD_bl, e_and, e_or, bE_app, bolD_bl, okM_app, e_cmp, e_chain, chE_app, e_ite, e_tup, e_lst, e_ix, e_rev, e_slA, e_slL, e_slH, e_slLH, sl1_L, sl1_H, sl2_LH, e_call, e_bi, e_mt, e_comp, es_nil, es_cons, ifD_bl, ifD_t, ifD_f, b_ok, b_assoc, fTurn_eq, turn_eq, inT_some, inC_some, soE_app, evT_nil, evT_one, t_nm, t_tp, ts_nil, ts_cons, mkL_f, mkL_t, o_add, o_sub, c_lt, c_le, c_gt, c_ge, c_eqI, c_neI, b_int, b_intB, b_abs, b_max2, b_min2, b_gcd, b_lenT, b_lenL, b_lenS, b_tupT, b_tupL, b_lstT, b_lstL, b_isiT, b_isiI, b_isiB, revT, revL, ixT0, ixT1, ixT2, ixL0, ixL1, isI, q_vlT, q_vlL, q_vlS, q_enT, q_enL, q_zpTT, q_zpTL, q_zpLT, q_zpLL, forD_some, List.set_cons_zero, List.set_cons_succ, List.map_cons, List.map_nil, List.length_cons, List.length_nil, List.cons_append, List.nil_append, List.replicate_succ, List.replicate_zero, Nat.reduceAdd, Nat.reduceSub, Nat.reduceEqDiff, if_true, Option.bind_some, wipeD]
    refine WP_call (hs S2 2 1 [[1, 1]] [1, -1] [(3, [1, 2])] t2 rfl g2 m2) ?_
    rintro d S3 ⟨rfl, _⟩
    rw [v2]
    simp only [run_eq, ss_nil, ss_cons, s_nm, s_asg, s_par, par2, par3, s_aug, augD_add, augD_sub, s_augIx, augX_add, augX_sub, s_expr, s_ret, s_retN, s_pass, s_brk, s_cont, s_ite, s_for, s_while, seqF_nx, seqF_rt, seqF_bk, seqF_ct, fnD_rt, fnD_nx, g_nm, g_tp, g_ix, gs_nil, gs_cons, e_int, e_bl, e_non, e_str, e_var, getV_0, getV_s, e_gl, opt_some, e_bin, e_neg, negD_int, e_not, notD_bl, e_and, e_or, bE_app, bolD_bl, okM_app, e_cmp, e_chain, chE_app, e_ite, e_tup, e_lst, e_ix, e_rev, e_slA, e_slL, e_slH, e_slLH, sl1_L, sl1_H, sl2_LH, e_call, e_bi, e_mt, e_comp, es_nil, es_cons, ifD_bl, ifD_t, ifD_f, b_ok, b_assoc, fTurn_eq, turn_eq, inT_some, inC_some, soE_app, evT_nil, evT_one, t_nm, t_tp, ts_nil, ts_cons, mkL_f, mkL_t, o_add, o_sub, c_lt, c_le, c_gt, c_ge, c_eqI, c_neI, b_int, b_intB, b_abs, b_max2, b_min2, b_gcd, b_lenT, b_lenL, b_lenS, b_tupT, b_tupL, b_lstT, b_lstL, b_isiT, b_isiI, b_isiB, revT, revL, ixT0, ixT1, ixT2, ixL0, ixL1, isI, q_vlT, q_vlL, q_vlS, q_enT, q_enL, q_zpTT, q_zpTL, q_zpLT, q_zpLL, forD_some, List.set_cons_zero, List.set_cons_succ, List.map_cons, List.map_nil, List.length_cons, List.length_nil, List.cons_append, List.nil_append, List.replicate_succ, List.replicate_zero, Nat.reduceAdd, Nat.reduceSub, Nat.reduceEqDiff, if_true, Option.bind_some, wipeD, c_eqS (show shal 40 (D.lst [.tup [.tup [.int (-2), .int 1], .tup [.int (-1), .int 4], .tup [.int 1, .int 4]], .tup [.tup [.int (-1), .int 3], .tup [.int 1, .int 3]]]) = true from rfl), WP_ok]
theorem law_true (ns : List Int) (h : ns.length ≤ 63) : WP (callF pr 21 37 [.scr (ns.map .int)] []) fun d _ => d = .bl true := by
  rw [cf 20 37 fd_law rfl]
  exact law_spec (k36 12) (k21 13) (fun S ns spot si a b => k22 19 S ns spot si a b)
end LW

open PySem PySem.W PyProof.Rows
set_option maxHeartbeats 0 in
theorem PySem.Challenge.cw_hardbits_k58_whole_sums_that_are_split_holds : PySem.Challenge.rw_hardbits_k58_whole_sums_that_are_split.Holds := by
  w_on; o_law; k_head; (case hw => w_witness2)
  k_fill
  refine L2.walk_of (l := PySem.Challenge.rw_hardbits_k58_whole_sums_that_are_split) (n := 63) (k := 21) (x := "script") (CX := fun _ => L2.CX0) (sp := fun w => Ev.spF _ (Ev.callF LW.pr 21 37)) rfl (by decide) rfl ⟨rfl, by decide, by decide⟩ (fun w h Y => PySem.W.kIn_of Y) ?F (fun _ _ a ns hl hO hS => Ev.law_sp hO hS (LW.law_true ns hl)) (fun _ _ _ _ _ h => h)
  case F =>
    intro w mg fa h KX G hmg
    refine' Ev.law_F (k := 20) (g := 37) (fuel := 1000) (gs := LW.gs) (bl := LW.bl) (gcd := LW.gcdB) (fns := LW.fns) (gvs := LW.gvs) (d := LW.fd_law) (N := LW.ns_law) (st := LW.st_law) (x := "script") ⟨⟨Ev.cn_int ?a0, Ev.Ent.e (Ev.ent_mk (d := LW.fd_is_whole) (N := LW.ns_is_whole) (st := LW.st_is_whole) ?a1 ?l1 ?c1 ?k1 (ps := ["value"]) rfl (fun _ _ _ _ _ _ us hl => match us, hl with | [_], _ => rfl) LW.chk_is_whole), Ev.Ent.e (Ev.ent_mk (d := LW.fd_power_of) (N := LW.ns_power_of) (st := LW.st_power_of) ?a2 ?l2 ?c2 ?k2 (ps := ["base", "times"]) rfl (fun _ _ _ _ _ _ us hl => match us, hl with | [_, _], _ => rfl) LW.chk_power_of), Ev.Ent.e (Ev.ent_mk (d := LW.fd_fraction_in) (N := LW.ns_fraction_in) (st := LW.st_fraction_in) ?a3 ?l3 ?c3 ?k3 (ps := ["top", "bottom"]) rfl (fun _ _ _ _ _ _ us hl => match us, hl with | [_, _], _ => rfl) LW.chk_fraction_in), Ev.Ent.e (Ev.ent_mk (d := LW.fd_is_row_in) (N := LW.ns_is_row_in) (st := LW.st_is_row_in) ?a4 ?l4 ?c4 ?k4 (ps := ["many", "value"]) rfl (fun _ _ _ _ _ _ us hl => match us, hl with | [_, _], _ => rfl) LW.chk_is_row_in), Ev.Ent.e (Ev.ent_mk (d := LW.fd_is_part_in) (N := LW.ns_is_part_in) (st := LW.st_is_part_in) ?a5 ?l5 ?c5 ?k5 (ps := ["many", "value"]) rfl (fun _ _ _ _ _ _ us hl => match us, hl with | [_, _], _ => rfl) LW.chk_is_part_in), Ev.cn_int ?a6, Ev.Ent.e (Ev.ent_mk (d := LW.fd_is_sign) (N := LW.ns_is_sign) (st := LW.st_is_sign) ?a7 ?l7 ?c7 ?k7 (ps := ["value"]) rfl (fun _ _ _ _ _ _ us hl => match us, hl with | [_], _ => rfl) LW.chk_is_sign), Ev.Ent.e (Ev.ent_mk (d := LW.fd_is_truth_in) (N := LW.ns_is_truth_in) (st := LW.st_is_truth_in) ?a8 ?l8 ?c8 ?k8 (ps := ["N", "value"]) rfl (fun _ _ _ _ _ _ us hl => match us, hl with | [_, _], _ => rfl) LW.chk_is_truth_in), Ev.Ent.e (Ev.ent_mk (d := LW.fd_is_any_truth) (N := LW.ns_is_any_truth) (st := LW.st_is_any_truth) ?a9 ?l9 ?c9 ?k9 (ps := ["value"]) rfl (fun _ _ _ _ _ _ us hl => match us, hl with | [_], _ => rfl) LW.chk_is_any_truth), Ev.cn_int ?a10, Ev.cn_int ?a11, Ev.Ent.e (Ev.ent_mk (d := LW.fd_weighed_sum) (N := LW.ns_weighed_sum) (st := LW.st_weighed_sum) ?a12 ?l12 ?c12 ?k12 (ps := ["truths", "test", "factors"]) rfl (fun _ _ _ _ _ _ us hl => match us, hl with | [_, _, _], _ => rfl) LW.chk_weighed_sum), Ev.Ent.e (Ev.ent_mk (d := LW.fd_plain_sum) (N := LW.ns_plain_sum) (st := LW.st_plain_sum) ?a13 ?l13 ?c13 ?k13 (ps := ["truths", "test"]) rfl (fun _ _ _ _ _ _ us hl => match us, hl with | [_, _], _ => rfl) LW.chk_plain_sum), Ev.Ent.e (Ev.ent_mk (d := LW.fd_part_in) (N := LW.ns_part_in) (st := LW.st_part_in) ?a14 ?l14 ?c14 ?k14 (ps := ["truths", "test", "measures", "place"]) rfl (fun _ _ _ _ _ _ us hl => match us, hl with | [_, _, _, _], _ => rfl) LW.chk_part_in), Ev.Ent.e (Ev.ent_mk (d := LW.fd_are_truths) (N := LW.ns_are_truths) (st := LW.st_are_truths) ?a15 ?l15 ?c15 ?k15 (ps := ["value"]) rfl (fun _ _ _ _ _ _ us hl => match us, hl with | [_], _ => rfl) LW.chk_are_truths), Ev.Ent.e (Ev.ent_mk (d := LW.fd_require_truths) (N := LW.ns_require_truths) (st := LW.st_require_truths) ?a16 ?l16 ?c16 ?k16 (ps := ["value"]) rfl (fun _ _ _ _ _ _ us hl => match us, hl with | [_], _ => rfl) LW.chk_require_truths), Ev.Ent.e (Ev.ent_mk (d := LW.fd_require_copies_test) (N := LW.ns_require_copies_test) (st := LW.st_require_copies_test) ?a17 ?l17 ?c17 ?k17 (ps := ["many", "times", "value"]) rfl (fun _ _ _ _ _ _ us hl => match us, hl with | [_, _, _], _ => rfl) LW.chk_require_copies_test), Ev.Ent.e (Ev.ent_mk (d := LW.fd_need_places) (N := LW.ns_need_places) (st := LW.st_need_places) ?a18 ?l18 ?c18 ?k18 (ps := ["many", "times"]) rfl (fun _ _ _ _ _ _ us hl => match us, hl with | [_, _], _ => rfl) LW.chk_need_places), Ev.Ent.e (Ev.ent_mk (d := LW.fd_are_parts) (N := LW.ns_are_parts) (st := LW.st_are_parts) ?a19 ?l19 ?c19 ?k19 (ps := ["many", "times", "value"]) rfl (fun _ _ _ _ _ _ us hl => match us, hl with | [_, _, _], _ => rfl) LW.chk_are_parts), Ev.Ent.e (Ev.ent_mk (d := LW.fd_copies_sum) (N := LW.ns_copies_sum) (st := LW.st_copies_sum) ?a20 ?l20 ?c20 ?k20 (ps := ["truths", "test"]) rfl (fun _ _ _ _ _ _ us hl => match us, hl with | [_, _], _ => rfl) LW.chk_copies_sum), Ev.Ent.e (Ev.ent_mk (d := LW.fd_splits) (N := LW.ns_splits) (st := LW.st_splits) ?a21 ?l21 ?c21 ?k21 (ps := ["truths", "test", "measures"]) rfl (fun _ _ _ _ _ _ us hl => match us, hl with | [_, _, _], _ => rfl) LW.chk_splits), Ev.Ent.e (Ev.ent_mk (d := LW.fd_law_hx_dice) (N := LW.ns_law_hx_dice) (st := LW.st_law_hx_dice) ?a22 ?l22 ?c22 ?k22 (ps := ["script", "spot"]) rfl (fun _ _ _ _ _ _ us hl => match us, hl with | [_, _], _ => rfl) LW.chk_law_hx_dice), Ev.Ent.e (Ev.ent_mk (d := LW.fd_law_hx_up) (N := LW.ns_law_hx_up) (st := LW.st_law_hx_up) ?a23 ?l23 ?c23 ?k23 (ps := ["dice", "total"]) rfl (fun _ _ _ _ _ _ us hl => match us, hl with | [_, _], _ => rfl) LW.chk_law_hx_up), Ev.Ent.e (Ev.ent_mk (d := LW.fd_law_hx_of) (N := LW.ns_law_hx_of) (st := LW.st_law_hx_of) ?a24 ?l24 ?c24 ?k24 (ps := ["dice", "items"]) rfl (fun _ _ _ _ _ _ us hl => match us, hl with | [_, _], _ => rfl) LW.chk_law_hx_of), Ev.Ent.e (Ev.ent_mk (d := LW.fd_law_hx_shared) (N := LW.ns_law_hx_shared) (st := LW.st_law_hx_shared) ?a25 ?l25 ?c25 ?k25 (ps := ["one", "other"]) rfl (fun _ _ _ _ _ _ us hl => match us, hl with | [_, _], _ => rfl) LW.chk_law_hx_shared), Ev.Ent.e (Ev.ent_mk (d := LW.fd_law_hx_fraction) (N := LW.ns_law_hx_fraction) (st := LW.st_law_hx_fraction) ?a26 ?l26 ?c26 ?k26 (ps := ["top", "bottom"]) rfl (fun _ _ _ _ _ _ us hl => match us, hl with | [_, _], _ => rfl) LW.chk_law_hx_fraction), Ev.Ent.e (Ev.ent_mk (d := LW.fd_law_hx_plus) (N := LW.ns_law_hx_plus) (st := LW.st_law_hx_plus) ?a27 ?l27 ?c27 ?k27 (ps := ["one", "other"]) rfl (fun _ _ _ _ _ _ us hl => match us, hl with | [_, _], _ => rfl) LW.chk_law_hx_plus), Ev.Ent.e (Ev.ent_mk (d := LW.fd_law_hx_less) (N := LW.ns_law_hx_less) (st := LW.st_law_hx_less) ?a28 ?l28 ?c28 ?k28 (ps := ["one", "other"]) rfl (fun _ _ _ _ _ _ us hl => match us, hl with | [_, _], _ => rfl) LW.chk_law_hx_less), Ev.Ent.e (Ev.ent_mk (d := LW.fd_law_hx_times) (N := LW.ns_law_hx_times) (st := LW.st_law_hx_times) ?a29 ?l29 ?c29 ?k29 (ps := ["one", "other"]) rfl (fun _ _ _ _ _ _ us hl => match us, hl with | [_, _], _ => rfl) LW.chk_law_hx_times), Ev.Ent.e (Ev.ent_mk (d := LW.fd_law_hx_truth) (N := LW.ns_law_hx_truth) (st := LW.st_law_hx_truth) ?a30 ?l30 ?c30 ?k30 (ps := ["dice", "many"]) rfl (fun _ _ _ _ _ _ us hl => match us, hl with | [_, _], _ => rfl) LW.chk_law_hx_truth), Ev.Ent.e (Ev.ent_mk (d := LW.fd_law_hx_copies) (N := LW.ns_law_hx_copies) (st := LW.st_law_hx_copies) ?a31 ?l31 ?c31 ?k31 (ps := ["truths"]) rfl (fun _ _ _ _ _ _ us hl => match us, hl with | [_], _ => rfl) LW.chk_law_hx_copies), Ev.Ent.e (Ev.ent_mk (d := LW.fd_law_hx_places) (N := LW.ns_law_hx_places) (st := LW.st_law_hx_places) ?a32 ?l32 ?c32 ?k32 (ps := ["many", "times", "at"]) rfl (fun _ _ _ _ _ _ us hl => match us, hl with | [_, _, _], _ => rfl) LW.chk_law_hx_places), Ev.Ent.e (Ev.ent_mk (d := LW.fd_law_hx_part) (N := LW.ns_law_hx_part) (st := LW.st_law_hx_part) ?a33 ?l33 ?c33 ?k33 (ps := ["truths", "test", "measures", "place"]) rfl (fun _ _ _ _ _ _ us hl => match us, hl with | [_, _, _, _], _ => rfl) LW.chk_law_hx_part), Ev.Ent.e (Ev.ent_mk (d := LW.fd_law_hx_copies_test) (N := LW.ns_law_hx_copies_test) (st := LW.st_law_hx_copies_test) ?a34 ?l34 ?c34 ?k34 (ps := ["dice", "truths"]) rfl (fun _ _ _ _ _ _ us hl => match us, hl with | [_, _], _ => rfl) LW.chk_law_hx_copies_test), Ev.Ent.e (Ev.ent_mk (d := LW.fd_law_measure) (N := LW.ns_law_measure) (st := LW.st_law_measure) ?a35 ?l35 ?c35 ?k35 (ps := ["dice", "many"]) rfl (fun _ _ _ _ _ _ us hl => match us, hl with | [_, _], _ => rfl) LW.chk_law_measure), Ev.Ent.e (Ev.ent_mk (d := LW.fd_law_right) (N := LW.ns_law_right) (st := LW.st_law_right) ?a36 ?l36 ?c36 ?k36 (ps := ["dice"]) rfl (fun _ _ _ _ _ _ us hl => match us, hl with | [_], _ => rfl) LW.chk_law_right), Ev.Ent.e (Ev.ent_mk (d := LW.fd_law) (N := LW.ns_law) (st := LW.st_law) ?a37 ?l37 ?c37 ?k37 (ps := ["script"]) rfl (fun _ _ _ _ _ _ us hl => match us, hl with | [_], _ => rfl) LW.chk_law), trivial⟩, LW.bl_mk ?z0 ?z1 ?z2 ?z3 ?z4 ?z5 ?z6 ?z7 ?z8 ?z9 ?z10 ?z11 ?z12 ?z13, fun _ => ?g⟩ KX G hmg (Ev.ent_mk (st := LW.st_law) ?xa ?xl ?xc ?xk (ps := ["script"]) rfl (fun _ _ _ _ _ _ us hl => match us, hl with | [_], _ => rfl) LW.chk_law) rfl rfl (fun _ _ _ _ _ _ _ => rfl)
    (case a0 => k_is)
    (case a1 => k_is)
    (case l1 => k_is)
    (case c1 => k_is)
    (case k1 => k_is)
    (case a2 => k_is)
    (case l2 => k_is)
    (case c2 => k_is)
    (case k2 => k_is)
    (case a3 => k_is)
    (case l3 => k_is)
    (case c3 => k_is)
    (case k3 => k_is)
    (case a4 => k_is)
    (case l4 => k_is)
    (case c4 => k_is)
    (case k4 => k_is)
    (case a5 => k_is)
    (case l5 => k_is)
    (case c5 => k_is)
    (case k5 => k_is)
    (case a6 => k_is)
    (case a7 => k_is)
    (case l7 => k_is)
    (case c7 => k_is)
    (case k7 => k_is)
    (case a8 => k_is)
    (case l8 => k_is)
    (case c8 => k_is)
    (case k8 => k_is)
    (case a9 => k_is)
    (case l9 => k_is)
    (case c9 => k_is)
    (case k9 => k_is)
    (case a10 => k_is)
    (case a11 => k_is)
    (case a12 => k_is)
    (case l12 => k_is)
    (case c12 => k_is)
    (case k12 => k_is)
    (case a13 => k_is)
    (case l13 => k_is)
    (case c13 => k_is)
    (case k13 => k_is)
    (case a14 => k_is)
    (case l14 => k_is)
    (case c14 => k_is)
    (case k14 => k_is)
    (case a15 => k_is)
    (case l15 => k_is)
    (case c15 => k_is)
    (case k15 => k_is)
    (case a16 => k_is)
    (case l16 => k_is)
    (case c16 => k_is)
    (case k16 => k_is)
    (case a17 => k_is)
    (case l17 => k_is)
    (case c17 => k_is)
    (case k17 => k_is)
    (case a18 => k_is)
    (case l18 => k_is)
    (case c18 => k_is)
    (case k18 => k_is)
    (case a19 => k_is)
    (case l19 => k_is)
    (case c19 => k_is)
    (case k19 => k_is)
    (case a20 => k_is)
    (case l20 => k_is)
    (case c20 => k_is)
    (case k20 => k_is)
    (case a21 => k_is)
    (case l21 => k_is)
    (case c21 => k_is)
    (case k21 => k_is)
    (case a22 => k_is)
    (case l22 => k_is)
    (case c22 => k_is)
    (case k22 => k_is)
    (case a23 => k_is)
    (case l23 => k_is)
    (case c23 => k_is)
    (case k23 => k_is)
    (case a24 => k_is)
    (case l24 => k_is)
    (case c24 => k_is)
    (case k24 => k_is)
    (case a25 => k_is)
    (case l25 => k_is)
    (case c25 => k_is)
    (case k25 => k_is)
    (case a26 => k_is)
    (case l26 => k_is)
    (case c26 => k_is)
    (case k26 => k_is)
    (case a27 => k_is)
    (case l27 => k_is)
    (case c27 => k_is)
    (case k27 => k_is)
    (case a28 => k_is)
    (case l28 => k_is)
    (case c28 => k_is)
    (case k28 => k_is)
    (case a29 => k_is)
    (case l29 => k_is)
    (case c29 => k_is)
    (case k29 => k_is)
    (case a30 => k_is)
    (case l30 => k_is)
    (case c30 => k_is)
    (case k30 => k_is)
    (case a31 => k_is)
    (case l31 => k_is)
    (case c31 => k_is)
    (case k31 => k_is)
    (case a32 => k_is)
    (case l32 => k_is)
    (case c32 => k_is)
    (case k32 => k_is)
    (case a33 => k_is)
    (case l33 => k_is)
    (case c33 => k_is)
    (case k33 => k_is)
    (case a34 => k_is)
    (case l34 => k_is)
    (case c34 => k_is)
    (case k34 => k_is)
    (case a35 => k_is)
    (case l35 => k_is)
    (case c35 => k_is)
    (case k35 => k_is)
    (case a36 => k_is)
    (case l36 => k_is)
    (case c36 => k_is)
    (case k36 => k_is)
    (case a37 => k_is)
    (case l37 => k_is)
    (case c37 => k_is)
    (case k37 => k_is)
    (case z0 => k_is)
    (case z1 => k_is)
    (case z2 => k_is)
    (case z3 => k_is)
    (case z4 => k_is)
    (case z5 => k_is)
    (case z6 => k_is)
    (case z7 => k_is)
    (case z8 => k_is)
    (case z9 => k_is)
    (case z10 => k_is)
    (case z11 => k_is)
    (case z12 => k_is)
    (case z13 => k_is)
    (case g => k_is)
    (case xa => k_is)
    (case xl => k_is)
    (case xc => k_is)
    (case xk => k_is)
