import PyProof.Rows.All
import Wide.All
import OpenK.AllK
import Wide.FinOn
import HandS.Base
import HandS.Call
import HandS.List
import HandS.Comp
import HandS.Iter
import HandS.Zip
import HandS.Exc
import HandS.TryOnly
import HandS.ExcOwn
import HandS.WordsExc
import HandS.Defaults
import HandS.Lambda
import HandS.Wide
import KE.KStar
import HandS.More
import HandS.TupAny
import HandS.TupMul
import HandS.Deep
import HandS.Style
import HandS.IsInst
import KE.GoesEnum
import HandS.Conv
import KE.KSuperObj
import KE.KSuper
import KE.KExcSuper
import HandS.Small
import HandS.ExcIs
import HandS.ExcField
import KE.KExcIs
import KE.KExcInit
import HandS.Head0
import HandS.HeadHook4
import KE.KNestM
import KE.KStateDown
import HandS.Head1
import HandS.Head2
import HandS.HeadWalk
import PySem.Challenge.RW_signstops_k75_whole_just_so_many_and_eac
set_option Elab.async false
set_option linter.all false
set_option maxRecDepth 100000
/-! Ev0: values, programs and the big step function of my own fragment. -/
namespace Ev
open PySem PySem.Spec L2
/-- not taken for a rfl lemma -/
theorem nr {α : Sort _} {a b : α} (h : a = b) : a = b := by cases h; exact rfl

/-- values: uns is a slot without a value; rl a list that is read alone; ref n is the n-th list of the store; clo k l a lambda with its maker's slots -/
inductive D where
  | uns | non | bl (b : Bool) | int (i : Int) | str (s : Str) | tup (l : List D) | rl (l : List D) | ref (n : Nat) | fn (x : String)
  | exn (c : String) (l : List D) | clo (k : Nat) (l : List D)
  deriving Inhabited
inductive Cell where
  | lst (l : List D)
  deriving Inhabited
abbrev Store := List Cell

mutual
def D.eqb : D → D → Bool
  | .uns, .uns => true
  | .non, .non => true
  | .bl a, .bl b => a == b
  | .int a, .int b => decide (a = b)
  | .str a, .str b => decide (a = b)
  | .tup a, .tup b => D.eqbs a b
  | .rl a, .rl b => D.eqbs a b
  | .ref a, .ref b => decide (a = b)
  | .fn a, .fn b => decide (a = b)
  | .exn c a, .exn d b => decide (c = d) && D.eqbs a b
  | .clo c a, .clo d b => decide (c = d) && D.eqbs a b
  | _, _ => false
def D.eqbs : List D → List D → Bool
  | [], [] => true
  | a :: r, b :: s => D.eqb a b && D.eqbs r s
  | _, _ => false
end
mutual
theorem D.eqb_refl : ∀ d : D, D.eqb d d = true
  | .uns => rfl
  | .non => rfl
  | .bl b => by simp [D.eqb]
  | .int i => by simp [D.eqb]
  | .str s => by simp [D.eqb]
  | .tup l => by simp [D.eqb, D.eqbs_refl l]
  | .rl l => by simp [D.eqb, D.eqbs_refl l]
  | .ref n => by simp [D.eqb]
  | .fn x => by simp [D.eqb]
  | .exn c l => by simp [D.eqb, D.eqbs_refl l]
  | .clo c l => by simp [D.eqb, D.eqbs_refl l]
theorem D.eqbs_refl : ∀ l : List D, D.eqbs l l = true
  | [] => rfl
  | a :: r => by simp [D.eqbs, D.eqb_refl a, D.eqbs_refl r]
end
mutual
theorem D.eqb_eq : ∀ a b : D, D.eqb a b = true → a = b
  | .uns, b, h => by cases b <;> simp [D.eqb] at h <;> rfl
  | .non, b, h => by cases b <;> simp [D.eqb] at h <;> rfl
  | .bl x, b, h => by cases b <;> simp [D.eqb] at h; rw [h]
  | .int x, b, h => by cases b <;> simp [D.eqb] at h; rw [h]
  | .str x, b, h => by cases b <;> simp [D.eqb] at h; rw [h]
  | .tup x, b, h => by cases b <;> simp [D.eqb] at h; rw [D.eqbs_eq x _ h]
  | .rl x, b, h => by cases b <;> simp [D.eqb] at h; rw [D.eqbs_eq x _ h]
  | .ref x, b, h => by cases b <;> simp [D.eqb] at h; rw [h]
  | .fn x, b, h => by cases b <;> simp [D.eqb] at h; rw [h]
  | .exn c x, b, h => by cases b <;> simp [D.eqb] at h; rw [h.1, D.eqbs_eq x _ h.2]
  | .clo c x, b, h => by cases b <;> simp [D.eqb] at h; rw [h.1, D.eqbs_eq x _ h.2]
theorem D.eqbs_eq : ∀ a b : List D, D.eqbs a b = true → a = b
  | [], [], _ => rfl
  | [], _ :: _, h => by simp [D.eqbs] at h
  | _ :: _, [], h => by simp [D.eqbs] at h
  | a :: r, b :: s, h => by
    simp [D.eqbs] at h
    rw [D.eqb_eq a b h.1, D.eqbs_eq r s h.2]
end
def Cell.eqb : Cell → Cell → Bool
  | .lst a, .lst b => D.eqbs a b
theorem Cell.eqb_refl (c : Cell) : Cell.eqb c c = true := by cases c; exact D.eqbs_refl _
theorem Cell.eqb_eq (a b : Cell) (h : Cell.eqb a b = true) : a = b := by
  cases a; cases b; exact congrArg Cell.lst (D.eqbs_eq _ _ h)

/-! all references lie below n, no lambda is in it -/
mutual
def D.under (n : Nat) : D → Bool
  | .tup l => D.unders n l
  | .rl l => D.unders n l
  | .ref m => decide (m < n)
  | .exn _ l => D.unders n l
  | .clo _ _ => false
  | .uns => false
  | _ => true
def D.unders (n : Nat) : List D → Bool
  | [] => true
  | a :: r => D.under n a && D.unders n r
end
/-! no lambda is in it -/
mutual
def D.flat : D → Bool
  | .tup l => D.flats l
  | .rl l => D.flats l
  | .exn _ _ => false
  | .clo _ _ => false
  | .uns => false
  | _ => true
def D.flats : List D → Bool
  | [] => true
  | a :: r => D.flat a && D.flats r
end
def Cell.under (n : Nat) : Cell → Bool
  | .lst l => D.unders n l

/-- what comes: a value and the store, an exception of an own class with its fields, or nothing is said -/
inductive R (α : Type) where
  | ok (a : α) (S : Store) | ex (c : String) (l : List D) (S : Store) | bad
def R.bind {α β : Type} (r : R α) (f : α → Store → R β) : R β := match r with
  | .ok a S => f a S
  | .ex c l S => .ex c l S
  | .bad => .bad
@[simp] theorem R.ok_bind {α β : Type} (a : α) (S : Store) (f : α → Store → R β) : (R.ok a S).bind f = f a S := nr rfl
@[simp] theorem R.ex_bind {α β : Type} (c : String) (l : List D) (S : Store) (f : α → Store → R β) : (R.ex c l S).bind f = .ex c l S := nr rfl
@[simp] theorem R.bad_bind {α β : Type} (f : α → Store → R β) : (R.bad : R α).bind f = .bad := nr rfl
def R.when {α : Type} (b : Bool) (r : R α) : R α := match b with
  | true => r
  | false => .bad
@[simp] theorem R.when_true {α : Type} (r : R α) : R.when true r = r := nr rfl
@[simp] theorem R.when_false {α : Type} (r : R α) : R.when false r = .bad := nr rfl

inductive Bop where | add | sub | mul | fdiv | mod | pow
inductive Cop where | eq | ne | lt | le | gt | ge | is | isnot | in_ | notin
inductive Bi where | len | int | abs | min | max | sum | all | any | list | tuple | divmod | range | zip | enumerate | sorted | repr | str | bool
inductive Mt where | append | index | count | extend | get | items | values | join | upper
inductive Pt where
  | v (i : Nat) | tp (l : List Pt)

mutual
inductive E where
  | var (i : Nat) | cint (i : Int) | cstr (s : String) | cbl (b : Bool) | cnon | glb (x : String)
  | tup (es : Es) | lst (es : Es)
  | bin (o : Bop) (a b : E) | neg (a : E) | cmp (o : Cop) (a b : E) | cmp2 (o p : Cop) (a b c : E)
  | and (a b : E) | or (a b : E) | not (a : E) | ifx (c a b : E)
  | call (x : String) (es : Es) (ks : Ks) | callv (i : Nat) (es : Es) (ks : Ks)
  | bi (x : Bi) (es : Es) | isi (a : E) (ts : List String) | isx (i : Nat) (c : String)
  | meth (m : Mt) (o : E) (es : Es) | fld (o : E) (f : String)
  | sub (a b : E) | sl (a : E) (lo hi : Eo) | slr (a : E)
  | lc (e : E) (p : Pt) (it : It) (c : Eo) (own : List Nat)
  | calll (x : String) (es : Es) (k : Nat)
  | lrng (a : E)
  | bad
inductive It where
  | seq (e : E) | bi (b : Bi) (es : Es)
inductive Eo where
  | no | yes (e : E)
inductive Es where
  | nil | cons (e : E) (r : Es) | star (e : E) (r : Es)
inductive Ks where
  | nil | cons (x : Str) (e : E) (r : Ks)
end
/-- a target of an assignment -/
inductive Tg where
  | v (i : Nat) | ix (o i : E) | tp (l : List Tg)
mutual
inductive Sm where
  | asg (t : Tg) (e : E) | expr (e : E) | ret (e : E) | retn | pass | brk | cnt
  | ifs (c : E) (a b : Ss) | for_ (p : Pt) (it : It) (b : Ss) | while_ (c : E) (b : Ss)
  | raise (c : String) (es : Es) | tr (b : Ss) (c : String) (i : Option Nat) (h : Ss) | bad
inductive Ss where
  | nil | cons (s : Sm) (r : Ss)
end

structure Fn where
  ps : List Str
  dfl : List D
  n : Nat
  body : Ss
structure Lm where
  ps : List Nat
  body : E
structure Prog where
  fns : String → Option Fn
  glob : String → Option D
  exc : String → Option (List String × List String)
  lams : Nat → Option Lm
structure Kap where
  glob : String → Option D
  call : String → List D → List (Str × D) → Store → R D
  clo : Nat → List D → List D → Store → R D
  exc : String → Option (List String × List String)
/-- whether an own class of errors stands under a class -/
def Kap.isx (κ : Kap) (cn c : String) : Option Bool := match κ.exc cn with
  | some p => if (κ.exc c).isSome || c == "ValueError" then some (decide (c ∈ p.1)) else none
  | none => none
/-- a field of an error -/
def Kap.efld (κ : Kap) (cn : String) (l : List D) (f : String) : Option D := match κ.exc cn with
  | some p => if p.2 = [f] then l.head? else none
  | none => none

/-! ### operations -/
def mulOk (i j : Int) : Bool := decide (i.natAbs.log2 + j.natAbs.log2 < 1000000)
def divOk (j : Int) : Bool := decide (0 < j) && decide (j.natAbs.log2 < 9000)
def sz (n : Nat) : Bool := decide (n ≤ sizeLine)
def lstOf (S : Store) (n : Nat) : Option (List D) := match S[n]? with
  | some (.lst l) => some l
  | none => none
/-- a list's or a tuple's items -/
def items (d : D) (S : Store) : Option (List D) := match d with
  | .tup l => some l
  | .rl l => some l
  | .ref n => lstOf S n
  | _ => none
def new (l : List D) (S : Store) : R D := R.when (sz l.length && D.flats l) (.ok (.ref S.length) (S ++ [.lst l]))
def binop (o : Bop) (x y : D) (S : Store) : R D := match o, x, y with
  | .add, .int i, .int j => .ok (.int (i + j)) S
  | .sub, .int i, .int j => .ok (.int (i - j)) S
  | .mul, .int i, .int j => R.when (mulOk i j) (.ok (.int (i * j)) S)
  | .fdiv, .int i, .int j => R.when (divOk j) (.ok (.int (i / j)) S)
  | .mod, .int i, .int j => R.when (decide (0 < j)) (.ok (.int (i % j)) S)
  | .pow, .int i, .int j => R.when (decide (0 ≤ j) && decide (j ≤ 1000000) && decide (i.natAbs < 2 ^ 64)) (.ok (.int (i ^ j.toNat)) S)
  | .add, .str a, .str b => R.when (sz (a.length + b.length)) (.ok (.str (a ++ b)) S)
  | .add, .tup a, .tup b => R.when (sz (a.length + b.length)) (.ok (.tup (a ++ b)) S)
  | .add, .ref a, .ref b => match lstOf S a, lstOf S b with
    | some l, some m => new (l ++ m) S
    | _, _ => .bad
  | .mul, .ref a, .int k => match lstOf S a with
    | some l => R.when (decide (-(2 ^ 62) ≤ k) && decide (k < 2 ^ 62) && sz (l.length * k.toNat)) (new (List.replicate k.toNat l).flatten S)
    | none => .bad
  | .mul, .tup l, .int k => R.when (!l.isEmpty && decide (-1000 ≤ k) && decide (k ≤ 1000) && decide (l.length ≤ 1000)) (.ok (.tup (List.replicate k.toNat l).flatten) S)
  | _, _, _ => .bad


def optAll {α : Type} : List (Option α) → Option (List α)
  | [] => some []
  | none :: _ => none
  | some a :: r => (optAll r).map (a :: ·)
/-- data: as the library's own -/
def pyN (S : Store) : Nat → D → Option PyData
  | _, .non => some .none
  | _, .bl b => some (.bool b)
  | _, .int i => some (.int i)
  | _, .str s => if PyData.strOk s then some (.str s) else none
  | n + 1, .tup l => (optAll (l.map (pyN S n))).map .tuple
  | n + 1, .rl l => (optAll (l.map (pyN S n))).map .list
  | n + 1, .ref a => match lstOf S a with
    | some l => (optAll (l.map (pyN S n))).map .list
    | none => none
  | _, _ => none
def eqD (S : Store) (x y : D) : Option Bool := match x, y with
  | .str a, .str b => some (decide (a = b))
  | x, y => (match pyN S 20 x, pyN S 20 y with
    | some a, some b => some (PyData.eqv a b)
    | _, _ => none)
def small : D → Bool
  | .non => true
  | .bl _ => true
  | .int _ => true
  | .str _ => true
  | _ => false
def inD (S : Store) (x y : D) : Option Bool := match items y S with
  | some l => (match pyN S 20 x, optAll (l.map (pyN S 19)) with
    | some a, some bs => some (bs.any fun b => PyData.eqv b a)
    | _, _ => none)
  | none => none
def obl (o : Option Bool) (S : Store) : R D := match o with
  | some b => .ok (.bl b) S
  | none => .bad
def cmpop (o : Cop) (x y : D) (S : Store) : R D := match o, x, y with
  | .eq, x, y => obl (eqD S x y) S
  | .ne, x, y => obl ((eqD S x y).map (!·)) S
  | .lt, .int i, .int j => .ok (.bl (decide (i < j))) S
  | .le, .int i, .int j => .ok (.bl (decide (i ≤ j))) S
  | .gt, .int i, .int j => .ok (.bl (decide (j < i))) S
  | .ge, .int i, .int j => .ok (.bl (decide (j ≤ i))) S
  | .is, x, .non => .ok (.bl (match x with | .non => true | _ => false)) S
  | .isnot, x, .non => .ok (.bl (match x with | .non => false | _ => true)) S
  | .in_, x, y => obl (inD S x y) S
  | .notin, x, y => obl ((inD S x y).map (!·)) S
  | _, _, _ => .bad
def truth (d : D) (S : Store) : Option Bool := match d with
  | .non => some false
  | .bl b => some b
  | .int i => some (i != 0)
  | .tup l => some (!l.isEmpty)
  | .rl l => some (!l.isEmpty)
  | .ref n => (lstOf S n).map fun l => !l.isEmpty
  | _ => none
def intsOf : List D → Option (List Int)
  | [] => some []
  | .int i :: r => (intsOf r).map (i :: ·)
  | _ :: _ => none
def blsOf : List D → Option (List Bool)
  | [] => some []
  | .bl i :: r => (blsOf r).map (i :: ·)
  | _ :: _ => none
def maxI : List Int → Int
  | [] => 0
  | [a] => a
  | a :: r => max a (maxI r)
def minI : List Int → Int
  | [] => 0
  | [a] => a
  | a :: r => min a (minI r)
/-- the built-in class of a value -/
def tyOf (d : D) : Option String := match d with
  | .non => some "NoneType"
  | .bl _ => some "bool"
  | .int _ => some "int"
  | .str _ => some "str"
  | .tup _ => some "tuple"
  | .ref _ => some "list"
  | .rl _ => some "list"
  | _ => none
/-- a reference to a list that is there -/
def refOk (x : D) (S : Store) : Bool := match x with
  | .ref n => (lstOf S n).isSome
  | _ => true
/-- a list that may be changed -/
def lsOk (x : D) (S : Store) : Bool := match x with
  | .ref n => (lstOf S n).isSome
  | _ => false
/-- isinstance of built-in classes -/
def isTy (t : String) (s : String) : Bool := t == s || (t == "bool" && s == "int")
def isSq : D → Bool
  | .tup _ => true
  | .rl _ => true
  | .ref _ => true
  | _ => false
def bltD (b : Bi) (l : List D) (S : Store) : R D := match b, l with
  | .len, [d] => match d with
    | .str s => R.when (sz s.length) (.ok (.int s.length) S)
    | d => match items d S with
      | some l => .ok (.int l.length) S
      | none => .bad
  | .int, [.int i] => .ok (.int i) S
  | .abs, [.int i] => .ok (.int (if i < 0 then -i else i)) S
  | .min, [.int i, .int j] => .ok (.int (if j < i then j else i)) S
  | .max, [.int i, .int j] => .ok (.int (if j > i then j else i)) S
  | .min, [.ref n] => match (lstOf S n).bind intsOf with
    | some l => R.when (!l.isEmpty) (.ok (.int (minI l)) S)
    | none => .bad
  | .max, [.ref n] => match (lstOf S n).bind intsOf with
    | some l => R.when (!l.isEmpty) (.ok (.int (maxI l)) S)
    | none => .bad
  | .sum, [.ref n] => match (lstOf S n).bind intsOf with
    | some l => .ok (.int l.sum) S
    | none => .bad
  | .all, [.ref n] => match (lstOf S n).bind blsOf with
    | some l => .ok (.bl (l.all id)) S
    | none => .bad
  | .any, [.ref n] => match (lstOf S n).bind blsOf with
    | some l => .ok (.bl (l.any id)) S
    | none => .bad
  | .list, [d] => match items d S with
    | some l => new l S
    | none => .bad
  | .tuple, [.tup l] => .ok (.tup l) S
  | .tuple, [.ref n] => match lstOf S n with
    | some l => .ok (.tup l) S
    | none => .bad
  | .repr, [x] => match isSq x, pyN S 20 x with
    | true, some d => R.when (PyData.showable d && !PyData.hasDict d && decide ((PyData.shown d).length ≤ sizeLine)) (.ok (.str (PyData.shown d)) S)
    | _, _ => .bad
  | .divmod, [.int i, .int j] => R.when (decide (0 < j) && decide (j < 1073741824)) (.ok (.tup [.int (i / j), .int (i % j)]) S)
  | _, _ => .bad
/-- a place counted from the front or the back -/
def ixD (n : Nat) (i : Int) : Option Nat := if 0 ≤ i then (if i < n then some i.toNat else none) else if -(n : Int) ≤ i then some (i + n).toNat else none
def atD (l : List D) (i : Int) : Option D := if 0 ≤ i then l[i.toNat]? else if -(l.length : Int) ≤ i then l[(i + l.length).toNat]? else none
def subD (x y : D) (S : Store) : R D := match y with
  | .int i => match (items x S).bind (atD · i) with
    | some d => .ok d S
    | none => .bad
  | _ => .bad
def clip (n d : Nat) : Option Int → Nat
  | none => d
  | some v => if v < 0 then (v + (n : Int)).toNat else min v.toNat n
def cutD (l : List D) (lo hi : Option Int) : List D := (l.drop (clip l.length 0 lo)).take (clip l.length l.length hi - clip l.length 0 lo)
def slD (x : D) (lo hi : Option Int) (S : Store) : R D := match x with
  | .tup l => .ok (.tup (cutD l lo hi)) S
  | .rl l => new (cutD l lo hi) S
  | .ref n => match lstOf S n with
    | some l => new (cutD l lo hi) S
    | none => .bad
  | _ => .bad
def slrD (x : D) (S : Store) : R D := match x with
  | .tup l => .ok (.tup l.reverse) S
  | .ref n => match lstOf S n with
    | some l => new l.reverse S
    | none => .bad
  | _ => .bad
def methD (m : Mt) (o : D) (l : List D) (S : Store) : R D := match m, o, l with
  | .append, .ref n, [d] => match lstOf S n with
    | some l => R.when (sz (l.length + 1) && D.flat d) (.ok .non (S.set n (.lst (l ++ [d]))))
    | none => .bad
  | .index, .ref n, [d] => match lstOf S n with
    | some l => (match pyN S 20 d, optAll (l.map (pyN S 19)) with
      | some a, some bs => (match bs.findIdx? fun b => PyData.eqv b a with
        | some k => .ok (.int k) S
        | none => .bad)
      | _, _ => .bad)
    | none => .bad
  | .count, .ref n, [d] => match lstOf S n with
    | some l => (match pyN S 20 d, optAll (l.map (pyN S 19)) with
      | some a, some bs => .ok (.int (bs.countP fun b => PyData.eqv b a)) S
      | _, _ => .bad)
    | none => .bad
  | .extend, .ref n, [.ref j] => match lstOf S n, lstOf S j with
    | some l, some k => R.when (sz (l.length + k.length)) (.ok .non (S.set n (.lst (l ++ k))))
    | _, _ => .bad
  | _, _, _ => .bad
/-- what is walked: the items, the lists that have to stay as they are -/
structure Src where
  l : List D
  w : List (Nat × List D)
def Src.ok (s : Src) (S : Store) : Bool := s.w.all fun p => match lstOf S p.1 with
  | some l => D.eqbs l p.2
  | none => false
def srcD (d : D) (S : Store) : Option Src := match d with
  | .tup l => some ⟨l, []⟩
  | .rl l => some ⟨l, []⟩
  | .ref n => (lstOf S n).map fun l => ⟨l, [(n, l)]⟩
  | _ => none
def rngD (lo : Int) (n : Nat) : List D := (List.range n).map fun (i : Nat) => .int (lo + i)
def rngDn (lo : Int) (n : Nat) : List D := (List.range n).map fun (i : Nat) => .int (lo + (i : Nat) * (-1))
def srcB (b : Bi) (l : List D) (S : Store) : Option Src := match b, l with
  | .range, [.int j] => if -(2 ^ 62) ≤ j ∧ j < 2 ^ 62 then some ⟨rngD 0 j.toNat, []⟩ else none
  | .range, [.int i, .int j] => if -(2 ^ 62) ≤ i ∧ i < 2 ^ 62 ∧ -(2 ^ 62) ≤ j ∧ j < 2 ^ 62 then some ⟨rngD i (j - i).toNat, []⟩ else none
  | .range, [.int i, .int j, .int c] => if c = -1 ∧ -(2 ^ 62) ≤ i ∧ i < 2 ^ 62 ∧ -(2 ^ 62) ≤ j ∧ j < 2 ^ 62 then some ⟨rngDn i (i - j).toNat, []⟩ else none
  | .zip, [.tup a, .tup b] => some ⟨List.zipWith (fun x y => .tup [x, y]) a b, []⟩
  | .zip, [.tup a, .ref n] => match lstOf S n with
    | some b => some ⟨List.zipWith (fun x y => .tup [x, y]) a b, [(n, b)]⟩
    | none => none
  | .zip, [.ref m, .ref n] => match lstOf S m, lstOf S n with
    | some a, some b => some ⟨List.zipWith (fun x y => .tup [x, y]) a b, [(m, a), (n, b)]⟩
    | _, _ => none
  | .enumerate, [.tup a] => some ⟨a.mapIdx fun i x => .tup [.int i, x], []⟩
  | .enumerate, [.ref n] => match lstOf S n with
    | some a => some ⟨a.mapIdx fun i x => .tup [.int i, x], [(n, a)]⟩
    | none => none
  | _, _ => none
def orBad {α β : Type} (o : Option α) (f : α → R β) : R β := match o with
  | some a => f a
  | none => .bad
@[simp] theorem orBad_some {α β : Type} (a : α) (f : α → R β) : orBad (some a) f = f a := nr rfl
@[simp] theorem orBad_none {α β : Type} (f : α → R β) : orBad none f = .bad := nr rfl
/-! names take what comes -/
mutual
def Pt.bind : Pt → D → List D → Option (List D)
  | .v i, d, σ => some (σ.set i d)
  | .tp ps, .tup l, σ => Pt.binds ps l σ
  | .tp _, _, _ => none
def Pt.binds : List Pt → List D → List D → Option (List D)
  | [], [], σ => some σ
  | p :: ps, d :: ds, σ => (Pt.bind p d σ).bind (Pt.binds ps ds ·)
  | _, _, _ => none
end
def wipeD (σ : List D) : List Nat → List D
  | [] => σ
  | v :: vs => (wipeD σ vs).set v .uns
/-- within a comprehension no lambda is known -/
def noClo (σ : List D) : List D := σ.map fun d => if D.flat d then d else .uns
/-- n: where the list that is made lies -/
def lcF (p : Pt) (σ : List D) (src : Src) (c : List D → Store → R Bool) (f : List D → Store → R D) : List D → Nat → Store → R Unit
  | [], _, S => R.when (src.ok S) (.ok () S)
  | x :: r, n, S => R.when (src.ok S && D.flat x) (orBad (Pt.bind p x σ) fun σ' => match c σ' S with
    | .ok true S1 => match f σ' S1 with
      | .ok d S2 => orBad (lstOf S2 n) fun acc => R.when (D.flat d && sz (acc.length + 1)) (lcF p σ src c f r n (S2.set n (.lst (acc ++ [d]))))
      | _ => .bad
    | .ok false S1 => lcF p σ src c f r n S1
    | _ => .bad)
inductive Fl where
  | nx (σ : List D) (S : Store) | rt (d : D) (S : Store) | bk (σ : List D) (S : Store) | ct (σ : List D) (S : Store) | ex (c : String) (l : List D) (σ : List D) (S : Store) | bad
/-- an expression in a statement -/
def R.fl {α : Type} (r : R α) (σ : List D) (f : α → Store → Fl) : Fl := match r with
  | .ok a S => f a S
  | .ex c l S => .ex c l σ S
  | .bad => .bad
@[simp] theorem R.ok_fl {α : Type} (a : α) (S : Store) (σ : List D) (f : α → Store → Fl) : (R.ok a S).fl σ f = f a S := nr rfl
@[simp] theorem R.ex_fl {α : Type} (c : String) (l : List D) (S : Store) (σ : List D) (f : α → Store → Fl) : (R.ex c l S : R α).fl σ f = .ex c l σ S := nr rfl
@[simp] theorem R.bad_fl {α : Type} (σ : List D) (f : α → Store → Fl) : (R.bad : R α).fl σ f = .bad := nr rfl

/-- as a test: by its truth -/
def fin (m : Bool) (r : R D) : R D := match m with
  | false => r
  | true => r.bind fun d S => match truth d S with
    | some b => .ok (.bl b) S
    | none => .bad
@[simp] theorem fin_false (r : R D) : fin false r = r := nr rfl
@[simp] theorem fin_bad (m : Bool) : fin m .bad = .bad := by cases m <;> rfl
@[simp] theorem fin_ex (m : Bool) (c : String) (l : List D) (S : Store) : fin m (.ex c l S) = .ex c l S := by cases m <;> rfl
@[simp] theorem fin_bl (m b : Bool) (S : Store) : fin m (.ok (.bl b) S) = .ok (.bl b) S := by cases m <;> rfl
def toB (r : R D) : R Bool := r.bind fun d S => match d with
  | .bl b => .ok b S
  | _ => .bad
@[simp] theorem toB_bl (b : Bool) (S : Store) : toB (.ok (.bl b) S) = .ok b S := nr rfl
@[simp] theorem toB_ex (c : String) (l : List D) (S : Store) : toB (.ex c l S) = .ex c l S := nr rfl
@[simp] theorem toB_bad : toB .bad = .bad := nr rfl

mutual
/-- m: whether as a test -/
def evE (κ : Kap) (σ : List D) (m : Bool) : E → Store → R D
  | .var i, S => match σ[i]? with
    | some .uns => .bad
    | some d => fin m (.ok d S)
    | none => .bad
  | .cint i, S => fin m (.ok (.int i) S)
  | .cstr s, S => fin m (.ok (.str (Str.ofString s)) S)
  | .cbl b, S => .ok (.bl b) S
  | .cnon, S => fin m (.ok .non S)
  | .glb x, S => orBad (κ.glob x) fun d => fin m (.ok d S)
  | .tup es, S => (evEs κ σ es S).bind fun l S => R.when (sz l.length) (fin m (.ok (.tup l) S))
  | .lst es, S => (evEs κ σ es S).bind fun l S => fin m (new l S)
  | .bin o a b, S => (evE κ σ false a S).bind fun x S => (evE κ σ false b S).bind fun y S => fin m (binop o x y S)
  | .neg a, S => (evE κ σ false a S).bind fun x S => match x with
    | .int i => fin m (.ok (.int (-i)) S)
    | _ => .bad
  | .cmp o a b, S => (evE κ σ false a S).bind fun x S => (evE κ σ false b S).bind fun y S => cmpop o x y S
  | .cmp2 o p a b c, S => (evE κ σ false a S).bind fun x S => (evE κ σ false b S).bind fun y S => (toB (cmpop o x y S)).bind fun r S => match r with
    | true => (evE κ σ false c S).bind fun z S => cmpop p y z S
    | false => .ok (.bl false) S
  | .and a b, S => (toB (evE κ σ m a S)).bind fun x S => match x with
    | true => evE κ σ m b S
    | false => .ok (.bl false) S
  | .or a b, S => (toB (evE κ σ m a S)).bind fun x S => match x with
    | true => .ok (.bl true) S
    | false => evE κ σ m b S
  | .not a, S => (toB (evE κ σ m a S)).bind fun x S => .ok (.bl (!x)) S
  | .ifx c a b, S => (toB (evE κ σ true c S)).bind fun t S => match t with
    | true => evE κ σ m a S
    | false => evE κ σ m b S
  | .call x es ks, S => (evEs κ σ es S).bind fun l S => (evKs κ σ ks S).bind fun kw S => fin m (κ.call x l kw S)
  | .callv i es ks, S => match σ[i]? with
    | some (.fn x) => (evEs κ σ es S).bind fun l S => (evKs κ σ ks S).bind fun kw S => fin m (κ.call x l kw S)
    | some (.clo k σ') => match ks with
      | .nil => (evEs κ σ es S).bind fun l S => fin m (κ.clo k σ' l S)
      | _ => .bad
    | _ => .bad
  | .bi b es, S => (evEs κ σ es S).bind fun l S => fin m (bltD b l S)
  | .isi a ts, S => (evE κ σ false a S).bind fun x S => orBad (tyOf x) fun t => R.when (refOk x S) (.ok (.bl (ts.any (isTy t))) S)
  | .meth k o es, S => (evE κ σ false o S).bind fun x S => R.when (lsOk x S) ((evEs κ σ es S).bind fun l S => fin m (methD k x l S))
  | .isx i y, S => match σ[i]? with
    | some (.exn cn _) => orBad (κ.isx cn y) fun b => .ok (.bl b) S
    | _ => .bad
  | .fld o f, S => (evE κ σ false o S).bind fun x S => match x with
    | .exn cn l => orBad (κ.efld cn l f) fun d => fin m (.ok d S)
    | _ => .bad
  | .sub a b, S => (evE κ σ false a S).bind fun x S => (evE κ σ false b S).bind fun y S => fin m (subD x y S)
  | .sl a lo hi, S => (evE κ σ false a S).bind fun x S => (evEo κ σ lo S).bind fun l S => (evEo κ σ hi S).bind fun h S => fin m (slD x l h S)
  | .slr a, S => (evE κ σ false a S).bind fun x S => fin m (slrD x S)
  | .lc e p it c own, S => (evIt κ σ it S).bind fun src S =>
      (lcF p (wipeD (noClo σ) own) src (fun σ S => evC κ σ c S) (fun σ S => evE κ σ false e S) src.l S.length (S ++ [.lst []])).bind fun _ S' => fin m (.ok (.ref S.length) S')
  | .calll x es k, S => (evEs κ σ es S).bind fun l S => fin m (κ.call x (l ++ [.clo k σ]) [] S)
  | .lrng a, S => (evE κ σ false a S).bind fun x S => match x with
    | .int j => R.when (decide (-(2 ^ 62) ≤ j) && decide (j ≤ 16777216)) (fin m (new (rngD 0 j.toNat) S))
    | _ => .bad
  | .bad, _ => .bad
/-- a comprehension's test -/
def evC (κ : Kap) (σ : List D) : Eo → Store → R Bool
  | .no, S => .ok true S
  | .yes c, S => toB (evE κ σ true c S)
/-- a slice's end -/
def evEo (κ : Kap) (σ : List D) : Eo → Store → R (Option Int)
  | .no, S => .ok none S
  | .yes e, S => (evE κ σ false e S).bind fun x S => match x with
    | .int i => .ok (some i) S
    | _ => .bad
def evEs (κ : Kap) (σ : List D) : Es → Store → R (List D)
  | .nil, S => .ok [] S
  | .cons e r, S => (evE κ σ false e S).bind fun x S => (evEs κ σ r S).bind fun l S => .ok (x :: l) S
  | .star e r, S => (evE κ σ false e S).bind fun x S => orBad (items x S) fun a => (evEs κ σ r S).bind fun l S => .ok (a ++ l) S
def evKs (κ : Kap) (σ : List D) : Ks → Store → R (List (Str × D))
  | .nil, S => .ok [] S
  | .cons y e r, S => (evE κ σ false e S).bind fun x S => (evKs κ σ r S).bind fun l S => .ok ((y, x) :: l) S
/-- what is walked: range, zip, enumerate as such -/
def evIt (κ : Kap) (σ : List D) : It → Store → R Src
  | .seq e, S => (evE κ σ false e S).bind fun d S => orBad (srcD d S) fun s => .ok s S
  | .bi b es, S => (evEs κ σ es S).bind fun l S => orBad (srcB b l S) fun s => .ok s S
end
/-! the targets of an assignment -/
mutual
def Tg.put (κ : Kap) : Tg → D → List D → Store → Fl
  | .v i, d, σ, S => .nx (σ.set i d) S
  | .ix o i, d, σ, S => (evE κ σ false o S).fl σ fun x S => (evE κ σ false i S).fl σ fun y S => match x, y with
    | .ref n, .int k => match lstOf S n with
      | some l => match ixD l.length k with
        | some j => if D.flat d then .nx σ (S.set n (.lst (l.set j d))) else .bad
        | none => .bad
      | none => .bad
    | _, _ => .bad
  | .tp ts, d, σ, S => match d with
    | .tup l => if l.length = ts.length then Tg.puts κ ts l σ S else .bad
    | _ => .bad
def Tg.puts (κ : Kap) : List Tg → List D → List D → Store → Fl
  | [], [], σ, S => .nx σ S
  | t :: ts, d :: ds, σ, S => match Tg.put κ t d σ S with
    | .nx σ S => Tg.puts κ ts ds σ S
    | r => r
  | _, _, _, _ => .bad
end
def forF (p : Pt) (src : Src) (f : List D → Store → Fl) : List D → List D → Store → Fl
  | [], σ, S => if src.ok S then .nx σ S else .bad
  | x :: r, σ, S => if src.ok S then (match Pt.bind p x σ with
    | some σ' => (match f σ' S with
      | .nx σ2 S2 => forF p src f r σ2 S2
      | .ct σ2 S2 => forF p src f r σ2 S2
      | .bk σ2 S2 => .nx σ2 S2
      | .rt d S2 => .rt d S2
      | .ex c l σ2 S2 => .ex c l σ2 S2
      | .bad => .bad)
    | none => .bad) else .bad
def whF (c : List D → Store → R D) (f : List D → Store → Fl) : Nat → List D → Store → Fl
  | 0, _, _ => .bad
  | n + 1, σ, S => (toB (c σ S)).fl σ fun b S => match b with
    | false => .nx σ S
    | true => match f σ S with
      | .nx σ2 S2 => whF c f n σ2 S2
      | .ct σ2 S2 => whF c f n σ2 S2
      | .bk σ2 S2 => .nx σ2 S2
      | .rt d S2 => .rt d S2
      | .ex c l σ2 S2 => .ex c l σ2 S2
      | .bad => .bad
/-- how many turns a while may take -/
def turns : Nat := 2 ^ 20000
def evA (κ : Kap) (σ : List D) : List E → Store → R (List D)
  | [], S => .ok [] S
  | e :: r, S => (evE κ σ false e S).bind fun x S => (evA κ σ r S).bind fun l S => .ok (x :: l) S
/-- the name of an except clause -/
def unO (i : Option Nat) (σ : List D) : List D := match i with
  | some i => σ.set i .uns
  | none => σ
def setO (i : Option Nat) (σ : List D) (d : D) : List D := match i with
  | some i => σ.set i d
  | none => σ
/-- behind a suite: only what is known without the error -/
def endH (i : Option Nat) : Fl → Fl
  | .nx σ S => .nx (unO i (noClo σ)) S
  | .bk σ S => .bk (unO i (noClo σ)) S
  | .ct σ S => .ct (unO i (noClo σ)) S
  | .rt d S => match D.flat d with
    | true => .rt d S
    | false => .bad
  | _ => .bad
mutual
def evS (κ : Kap) (ec : String → Option (List String)) : Sm → List D → Store → Fl
  | .asg t e, σ, S => (evE κ σ false e S).fl σ fun d S => Tg.put κ t d σ S
  | .expr e, σ, S => (evE κ σ false e S).fl σ fun _ S => .nx σ S
  | .ret e, σ, S => (evE κ σ false e S).fl σ fun d S => .rt d S
  | .retn, σ, S => .rt .non S
  | .pass, σ, S => .nx σ S
  | .brk, σ, S => .bk σ S
  | .cnt, σ, S => .ct σ S
  | .ifs c a b, σ, S => (toB (evE κ σ true c S)).fl σ fun t S => match t with
    | true => evSs κ ec a σ S
    | false => evSs κ ec b σ S
  | .for_ p it b, σ, S => (evIt κ σ it S).fl σ fun src S => forF p src (fun σ S => evSs κ ec b σ S) src.l σ S
  | .while_ c b, σ, S => whF (fun σ S => evE κ σ true c S) (fun σ S => evSs κ ec b σ S) turns σ S
  | .raise c es, σ, S => (evEs κ σ es S).fl σ fun l S => match ec c with
    | some fs => if l.length = fs.length && D.flats l then .ex c l σ S else .bad
    | none => .bad
  | .tr b c i h, σ, S => match evSs κ ec b σ S with
    | .ex cn l σ1 S1 => (match κ.isx cn c with
      | some true => endH i (evSs κ ec h (setO i σ1 (.exn cn l)) S1)
      | some false => .ex cn l σ1 S1
      | none => .bad)
    | f => f
  | .bad, _, _ => .bad
def evSs (κ : Kap) (ec : String → Option (List String)) : Ss → List D → Store → Fl
  | .nil, σ, S => .nx σ S
  | .cons s r, σ, S => match evS κ ec s σ S with
    | .nx σ S => evSs κ ec r σ S
    | f => f
end
/-! ### calls -/
/-- what a call gives to the parameters -/
def kwOk {α : Type} (ps : List Str) (slots : List (Str × α)) : List (Str × α) → Bool
  | [] => true
  | (k, v) :: r => ps.contains k && (slots.lookup k).isNone && kwOk ps (slots ++ [(k, v)]) r
def fillD {α : Type} (slots : List (Str × α)) : List (Str × α) → List (Str × α)
  | [] => slots
  | (n, d) :: r => fillD (if (slots.lookup n).isNone then slots ++ [(n, d)] else slots) r
def bindG {α : Type} (ps : List Str) (dl us : List α) (kw : List (Str × α)) : Option (List α) :=
  if (decide (us.length ≤ ps.length) && decide (dl.length ≤ ps.length) && kwOk ps (ps.zip us) kw && (ps.take (ps.length - dl.length)).all fun n => ((ps.zip us ++ kw).lookup n).isSome) = true then
    optAll (ps.map fun n => (fillD (ps.zip us ++ kw) ((ps.drop (ps.length - dl.length)).zip dl)).lookup n)
  else none
def bindA (f : Fn) (l : List D) (kw : List (Str × D)) : Option (List D) := bindG f.ps f.dfl l kw
/-- the lists that came before are as they were, or speak of such alone -/
def oldOk (S S' : Store) : Bool := (List.range S.length).all fun i => match S[i]?, S'[i]? with
  | some a, some b => Cell.eqb a b || Cell.under S.length b
  | _, _ => false
/-- what a call leaves of the lists that it made -/
def gc (S : Store) (d : D) (S' : Store) : R D :=
  if S'.length ≤ S.length then .ok d S' else
  if oldOk S S' then
    if D.under S.length d then .ok d (S'.take S.length) else
    match d with
    | .ref k => (match S'[k]? with
      | some c => if Cell.under S.length c then .ok (.ref S.length) (S'.take S.length ++ [c]) else .ok d S'
      | none => .ok d S')
    | _ => .ok d S'
  else .ok d S'
/-- how a call ends -/
def endD (S : Store) : Fl → R D
  | .nx _ S' => gc S .non S'
  | .rt d S' => R.when (D.flat d) (gc S d S')
  | .ex c l _ S' => .ex c l S'
  | _ => .bad
def callD (P : Prog) (κ : Kap) (x : String) (l : List D) (kw : List (Str × D)) (S : Store) : R D := match P.fns x with
  | none => .bad
  | some f => match bindA f l kw with
    | none => .bad
    | some σ => endD S (evSs κ (fun c => (P.exc c).map (·.2)) f.body (σ ++ List.replicate (f.n - σ.length) .uns) S)
def putAt (σ : List D) : List Nat → List D → Option (List D)
  | [], [] => some σ
  | i :: is, d :: ds => putAt (σ.set i d) is ds
  | _, _ => none
def cloD (P : Prog) (κ : Kap) (k : Nat) (σ : List D) (l : List D) (S : Store) : R D := match P.lams k with
  | none => .bad
  | some f => R.when (D.flats l) (match putAt (noClo σ) f.ps l with
    | none => .bad
    | some σ' => match evE κ σ' false f.body S with
      | .ok d S' => R.when (D.flat d) (gc S d S')
      | .ex c l S' => .ex c l S'
      | .bad => .bad)
/-- calls, n deep at most -/
def kap (P : Prog) : Nat → Kap
  | 0 => ⟨P.glob, fun _ _ _ _ => .bad, fun _ _ _ _ => .bad, P.exc⟩
  | n + 1 => ⟨P.glob, callD P (kap P n), cloD P (kap P n), P.exc⟩
end Ev
set_option Elab.async false
set_option linter.all false
set_option maxRecDepth 100000
/-! Ev1: how the values of my fragment stand for those of the hand layer. -/
namespace Ev
open PySem PySem.Spec PyProof.Rows L2

/-- a lambda as it stands in the text: its qualified name, parameters, body, scope, its maker's slots -/
structure LamA where
  qual : Str
  params : Arguments
  body : Expr
  scope : Scope
  N : List Str
/-- what stands through the whole law -/
structure GC where
  K : PySem.W.Frag
  mg : Str → Option Value
  T : List (Addr × Str)
  lamA : Nat → LamA → Bool
/-- the error that a suite holds -/
structure ExI where
  a : Addr
  C : Addr
  dx : Option Addr
  cn : String
  ns : List String
/-- the state at which lambdas that were handed in are known; the error that is held -/
structure CC where
  h : Heap
  H : Hp
  fr : List Addr
  ex : Option ExI
def CloH (G : GC) (c : CC) (H : Hp) (k : Nat) (f : Addr) (vs : L2.St) : Prop :=
  ∃ (L : LamA) (cells : List (Str × Addr)) (pm : Value) (c' : Addr) (ctv : Value), (G.lamA k L = true ∧ vs.length = L.N.length) ∧
    c.h.get? f = some (PySem.W.kla_obj "<lambda>" L.qual L.params L.body L.scope cells pm c' ctv) ∧ c.H f = none ∧ f ∉ c.fr ∧ H c' = some (LamX.CodeO c' L.qual) ∧
    (∀ x y a, cells.lookup x = some a → cells.lookup y = some a → x = y) ∧
    (∀ x a, cells.lookup x = some a → c.H a = none ∧ a ∉ c.fr ∧ ∃ w, c.h.IsCell a w) ∧
    ∀ y ∈ L.scope.names, y.2 = .free → ∃ a, cells.lookup y.1 = some a ∧
      ∀ (i : Nat) (v : V), L.N[i]? = some y.1 → vs[i]? = some (some v) → ∃ u, RelV v u ∧ c.h.IsCell a (some u)
/-- a list that is read alone -/
def SqR (K : PySem.W.Frag) (H : Hp) (a : Addr) (xs : List V) : Prop :=
  (∃ o, H a = some (.frz o (.lst xs))) ∨
    ∃ (o : Obj) (its : Array Value) (n : Nat), K.lookup a = some o ∧ o.cls = .type "list" ∧ o.dict = none ∧ o.data = .seq its n ∧ its.size ≤ sizeLine ∧ Vals xs its.toList
theorem SqR.l {K : PySem.W.Frag} {H : Hp} {a : Addr} {xs : List V} (h : SqR K H a xs) : SqL K H a xs := h.elim (fun h => .inl (.inr h)) .inr
/-- a tuple that is tracked, or an object of the module -/
def SqU (K : PySem.W.Frag) (H : Hp) (a : Addr) (xs : List V) : Prop :=
  H a = some (.tup xs) ∨
    ∃ (o : Obj) (its : Array Value) (n : Nat), K.lookup a = some o ∧ o.cls = .type "tuple" ∧ o.data = .seq its n ∧ its.size ≤ sizeLine ∧ Vals xs its.toList
theorem SqU.t {K : PySem.W.Frag} {H : Hp} {a : Addr} {xs : List V} (h : SqU K H a xs) : SqT K H a xs := h.elim (fun h => .inl (.inl h)) .inr
mutual
inductive Rep (G : GC) (c : Option CC) (H : Hp) (ρ : List Addr) : D → V → Prop
  | non : Rep G c H ρ .non .non
  | bl (b : Bool) : Rep G c H ρ (.bl b) (.bl b)
  | int (i : Int) : Rep G c H ρ (.int i) (.int i)
  | str (s : Str) : Rep G c H ρ (.str s) (.str s)
  | tup {a : Addr} {vs : List V} {l : List D} : SqU G.K H a vs → Reps G c H ρ l vs → Rep G c H ρ (.tup l) (.ref a)
  | rl {a : Addr} {vs : List V} {l : List D} : SqR G.K H a vs → Reps G c H ρ l vs → Rep G c H ρ (.rl l) (.ref a)
  | ref {n : Nat} {a : Addr} : ρ[n]? = some a → Rep G c H ρ (.ref n) (.ref a)
  | fn {x : String} {a : Addr} : G.mg (Str.ofString x) = some (.ref a) → PySem.W.keepIn G.K (.ref a) = true → Rep G c H ρ (.fn x) (.ref a)
  | clo {k : Nat} {l : List D} {f : Addr} {vs : L2.St} {cc : CC} : c = some cc → Repo G c H ρ l vs → CloH G cc H k f vs → Rep G c H ρ (.clo k l) (.ref f)
  | exn {cc : CC} {i : ExI} {l : List D} {vs : List V} : c = some cc → cc.ex = some i → l.length = i.ns.length → D.flats l = true → Reps G c H ρ l vs → ((i.ns = [] ∧ i.dx = none) ∨ ∃ d, i.dx = some d ∧ H d = some (.xd ((i.ns.map Str.ofString).zip vs))) → Rep G c H ρ (.exn i.cn l) (.ref i.a)
inductive Reps (G : GC) (c : Option CC) (H : Hp) (ρ : List Addr) : List D → List V → Prop
  | nil : Reps G c H ρ [] []
  | cons {d : D} {v : V} {l : List D} {vs : List V} : Rep G c H ρ d v → Reps G c H ρ l vs → Reps G c H ρ (d :: l) (v :: vs)
inductive Repo (G : GC) (c : Option CC) (H : Hp) (ρ : List Addr) : List D → L2.St → Prop
  | nil : Repo G c H ρ [] []
  | uns {l : List D} {v : Option V} {vs : L2.St} : Repo G c H ρ l vs → Repo G c H ρ (.uns :: l) (v :: vs)
  | cons {d : D} {v : V} {l : List D} {vs : L2.St} : Rep G c H ρ d v → Repo G c H ρ l vs → Repo G c H ρ (d :: l) (some v :: vs)
end
/-- what never changes -/
def Stay : HO → Bool
  | .tup _ => true
  | .frz _ _ => true
  | .ext _ => true
  | .xd _ => true
  | _ => false
def HX (H H' : Hp) : Prop := ∀ b o, H b = some o → Stay o = true → H' b = some o
theorem HX.refl (H : Hp) : HX H H := fun _ _ h _ => h
theorem HX.trans {H H1 H2 : Hp} (a : HX H H1) (b : HX H1 H2) : HX H H2 := fun x o h s => b x o (a x o h s) s
theorem HX.new {H : Hp} {p : Addr} {o : HO} (h : H p = none) : HX H (upd H p o) := fun a u e _ => by
  rw [upd_ne (ne_of_none e h)]; exact e
theorem HX.put {H : Hp} {p : Addr} {o u : HO} (h : H p = some u) (n : Stay u = false) : HX H (upd H p o) := fun a x e s => by
  have : a ≠ p := fun z => by
    subst z; rw [h] at e; cases e; rw [n] at s; cases s
  rw [upd_ne this]; exact e
def PX (ρ ρ' : List Addr) : Prop := ∀ (n : Nat) (a : Addr), ρ[n]? = some a → ρ'[n]? = some a
theorem PX.refl (ρ : List Addr) : PX ρ ρ := fun _ _ h => h
theorem PX.trans {ρ ρ1 ρ2 : List Addr} (a : PX ρ ρ1) (b : PX ρ1 ρ2) : PX ρ ρ2 := fun n x h => b n x (a n x h)
theorem PX.app (ρ l : List Addr) : PX ρ (ρ ++ l) := fun n a h => by
  rw [List.getElem?_append_left (by have := List.getElem?_eq_some_iff.mp h; exact this.1)]; exact h
section
variable {G : GC} {c : Option CC} {H H' : Hp} {ρ ρ' : List Addr}
theorem SqU.hx {K : PySem.W.Frag} {a : Addr} {xs : List V} (e : HX H H') (h : SqU K H a xs) : SqU K H' a xs := by
  rcases h with h | h
  · exact .inl (e _ _ h rfl)
  · exact .inr h
theorem SqR.hx {K : PySem.W.Frag} {a : Addr} {xs : List V} (e : HX H H') (h : SqR K H a xs) : SqR K H' a xs := by
  rcases h with ⟨o, h⟩ | h
  · exact .inl ⟨o, e _ _ h rfl⟩
  · exact .inr h
theorem CloH.hx {cc : CC} {k : Nat} {f : Addr} {vs : L2.St} (e : HX H H') (h : CloH G cc H k f vs) : CloH G cc H' k f vs := by
  obtain ⟨L, cells, pm, c', ctv, h1, h2, h3, h4, h5, h6⟩ := h
  exact ⟨L, cells, pm, c', ctv, h1, h2, h3, h4, e _ _ h5 rfl, h6⟩
mutual
theorem Rep.mono (e : HX H H') (p : PX ρ ρ') {d : D} {v : V} : Rep G c H ρ d v → Rep G c H' ρ' d v
  | .non => .non
  | .bl b => .bl b
  | .int i => .int i
  | .str s => .str s
  | .tup t r => .tup (SqU.hx e t) (Reps.mono e p r)
  | .rl t r => .rl (SqR.hx e t) (Reps.mono e p r)
  | .ref h => .ref (p _ _ h)
  | .fn h k => .fn h k
  | .clo h r q => .clo h (Repo.mono e p r) (CloH.hx e q)
  | .exn h1 h2 h3 hf r h4 => .exn h1 h2 h3 hf (Reps.mono e p r) (h4.imp id fun ⟨d, e1, e2⟩ => ⟨d, e1, e _ _ e2 rfl⟩)
theorem Reps.mono (e : HX H H') (p : PX ρ ρ') {l : List D} {vs : List V} : Reps G c H ρ l vs → Reps G c H' ρ' l vs
  | .nil => .nil
  | .cons h r => .cons (Rep.mono e p h) (Reps.mono e p r)
theorem Repo.mono (e : HX H H') (p : PX ρ ρ') {l : List D} {vs : L2.St} : Repo G c H ρ l vs → Repo G c H' ρ' l vs
  | .nil => .nil
  | .uns r => .uns (Repo.mono e p r)
  | .cons h r => .cons (Rep.mono e p h) (Repo.mono e p r)
end
mutual
theorem Rep.flat {d : D} {v : V} : D.flat d = true → Rep G c H ρ d v → Rep G none H ρ d v
  | _, .non => .non
  | _, .bl b => .bl b
  | _, .int i => .int i
  | _, .str s => .str s
  | f, .tup t r => .tup t (Reps.flat (by simpa [D.flat] using f) r)
  | f, .rl t r => .rl t (Reps.flat (by simpa [D.flat] using f) r)
  | _, .ref h => .ref h
  | _, .fn h k => .fn h k
  | f, .clo _ _ _ => by simp [D.flat] at f
  | f, .exn _ _ _ _ _ _ => by simp [D.flat] at f
theorem Reps.flat {l : List D} {vs : List V} : D.flats l = true → Reps G c H ρ l vs → Reps G none H ρ l vs
  | _, .nil => .nil
  | f, .cons h r => by
    simp [D.flats] at f
    exact .cons (Rep.flat f.1 h) (Reps.flat f.2 r)
end
mutual
theorem Rep.any0 {c0 : Option CC} (e : c0 = none) {d : D} {v : V} : Rep G c0 H ρ d v → Rep G c H ρ d v
  | .non => .non
  | .bl b => .bl b
  | .int i => .int i
  | .str s => .str s
  | .tup t r => .tup t (Reps.any0 e r)
  | .rl t r => .rl t (Reps.any0 e r)
  | .ref h => .ref h
  | .fn h k => .fn h k
  | .clo h _ _ => by rw [e] at h; cases h
  | .exn h _ _ _ _ _ => by rw [e] at h; cases h
theorem Reps.any0 {c0 : Option CC} (e : c0 = none) {l : List D} {vs : List V} : Reps G c0 H ρ l vs → Reps G c H ρ l vs
  | .nil => .nil
  | .cons h r => .cons (Rep.any0 e h) (Reps.any0 e r)
end
theorem Rep.any {d : D} {v : V} (h : Rep G none H ρ d v) : Rep G c H ρ d v := Rep.any0 rfl h
theorem Reps.any {l : List D} {vs : List V} (h : Reps G none H ρ l vs) : Reps G c H ρ l vs := Reps.any0 rfl h
theorem Repo.any {l : List D} {vs : L2.St} (h : Repo G none H ρ l vs) : Repo G c H ρ l vs := by
  induction vs generalizing l with
  | nil => cases h; exact .nil
  | cons v vs ih => cases h with
    | uns r => exact .uns (ih r)
    | cons h r => exact .cons h.any (ih r)
theorem Repo.noClo {l : List D} {vs : L2.St} (h : Repo G c H ρ l vs) : Repo G none H ρ (noClo l) vs := by
  induction vs generalizing l with
  | nil => cases h; exact .nil
  | cons v vs ih => cases h with
    | @uns l _ _ r =>
      show Repo G none H ρ ((if D.flat .uns then .uns else .uns) :: Ev.noClo l) _
      simp only [ite_self]
      exact .uns (ih r)
    | @cons d v l vs h r =>
      show Repo G none H ρ ((if D.flat d then d else .uns) :: Ev.noClo l) _
      split
      · exact .cons (h.flat (by assumption)) (ih r)
      · exact .uns (ih r)
/-- values whose references are old -/
theorem under_ref {d : D} {n : Nat} : True := trivial
mutual
theorem Rep.under (hp : ∀ (n : Nat) (a : Addr), n < k → ρ[n]? = some a → ρ'[n]? = some a) {d : D} {v : V} : D.under k d = true → Rep G c H ρ d v → Rep G c H ρ' d v
  | _, .non => .non
  | _, .bl b => .bl b
  | _, .int i => .int i
  | _, .str s => .str s
  | f, .tup t r => .tup t (Reps.under hp (by simpa [D.under] using f) r)
  | f, .rl t r => .rl t (Reps.under hp (by simpa [D.under] using f) r)
  | f, .ref h => .ref (hp _ _ (by simpa [D.under] using f) h)
  | _, .fn h k => .fn h k
  | f, .clo _ _ _ => by simp [D.under] at f
  | f, .exn h1 h2 h3 hf r h4 => .exn h1 h2 h3 hf (Reps.under hp (by simpa [D.under] using f) r) h4
theorem Reps.under (hp : ∀ (n : Nat) (a : Addr), n < k → ρ[n]? = some a → ρ'[n]? = some a) {l : List D} {vs : List V} : D.unders k l = true → Reps G c H ρ l vs → Reps G c H ρ' l vs
  | _, .nil => .nil
  | f, .cons h r => by
    simp [D.unders] at f
    exact .cons (Rep.under hp f.1 h) (Reps.under hp f.2 r)
end
theorem Reps.length {l : List D} {vs : List V} (h : Reps G c H ρ l vs) : l.length = vs.length := by
  induction vs generalizing l with
  | nil => cases h; rfl
  | cons v vs ih => cases h with
    | cons h r => simp [ih r]
theorem Repo.length {l : List D} {vs : L2.St} (h : Repo G c H ρ l vs) : l.length = vs.length := by
  induction vs generalizing l with
  | nil => cases h; rfl
  | cons v vs ih => cases h with
    | uns r => simp [ih r]
    | cons h r => simp [ih r]
theorem Reps.get {l : List D} {vs : List V} (h : Reps G c H ρ l vs) {i : Nat} {d : D} (e : l[i]? = some d) : ∃ v, vs[i]? = some v ∧ Rep G c H ρ d v := by
  induction vs generalizing l i with
  | nil => cases h; simp at e
  | cons v vs ih => cases h with
    | cons h r => cases i with
      | zero => simp at e; subst e; exact ⟨v, by simp, h⟩
      | succ i => simpa using ih r (by simpa using e)
theorem Reps.getV {l : List D} {vs : List V} (h : Reps G c H ρ l vs) {i : Nat} {v : V} (e : vs[i]? = some v) : ∃ d, l[i]? = some d ∧ Rep G c H ρ d v := by
  induction vs generalizing l i with
  | nil => simp at e
  | cons v vs ih => cases h with
    | cons h r => cases i with
      | zero => simp at e; subst e; exact ⟨_, by simp, h⟩
      | succ i => simpa using ih r (by simpa using e)
theorem Repo.get {l : List D} {vs : L2.St} (h : Repo G c H ρ l vs) {i : Nat} {d : D} (e : l[i]? = some d) (n : d ≠ .uns) : ∃ v, vs[i]? = some (some v) ∧ Rep G c H ρ d v := by
  induction vs generalizing l i with
  | nil => cases h; simp at e
  | cons v vs ih => cases h with
    | uns r => cases i with
      | zero => simp at e; exact absurd e.symm n
      | succ i => simpa using ih r (by simpa using e)
    | cons h r => cases i with
      | zero => simp at e; subst e; exact ⟨_, by simp, h⟩
      | succ i => simpa using ih r (by simpa using e)
theorem Reps.append {l m : List D} {vs ws : List V} (h : Reps G c H ρ l vs) (k : Reps G c H ρ m ws) : Reps G c H ρ (l ++ m) (vs ++ ws) := by
  induction vs generalizing l with
  | nil => cases h; exact k
  | cons v vs ih => cases h with
    | cons h r => exact .cons h (ih r)
theorem Reps.take {l : List D} {vs : List V} (h : Reps G c H ρ l vs) (n : Nat) : Reps G c H ρ (l.take n) (vs.take n) := by
  induction vs generalizing l n with
  | nil => cases h; simp; exact .nil
  | cons v vs ih => cases h with
    | cons h r => cases n with
      | zero => simp; exact .nil
      | succ n => simp; exact .cons h (ih r n)
theorem Reps.drop {l : List D} {vs : List V} (h : Reps G c H ρ l vs) (n : Nat) : Reps G c H ρ (l.drop n) (vs.drop n) := by
  induction vs generalizing l n with
  | nil => cases h; simp; exact .nil
  | cons v vs ih => cases h with
    | cons h r => cases n with
      | zero => simp; exact .cons h r
      | succ n => simp; exact ih r n
theorem Reps.set {l : List D} {vs : List V} {d : D} {v : V} (h : Reps G c H ρ l vs) (q : Rep G c H ρ d v) (n : Nat) : Reps G c H ρ (l.set n d) (vs.set n v) := by
  induction vs generalizing l n with
  | nil => cases h; simp; exact .nil
  | cons w vs ih => cases h with
    | cons h r => cases n with
      | zero => simp; exact .cons q r
      | succ n => simp; exact .cons h (ih r n)
theorem Reps.reverse {l : List D} {vs : List V} (h : Reps G c H ρ l vs) : Reps G c H ρ l.reverse vs.reverse := by
  induction vs generalizing l with
  | nil => cases h; exact .nil
  | cons v vs ih => cases h with
    | cons h r => rw [List.reverse_cons, List.reverse_cons]; exact (ih r).append (.cons h .nil)
theorem Reps.rep {l : List D} {vs : List V} (h : Reps G c H ρ l vs) : ∀ n : Nat, Reps G c H ρ (List.replicate n l).flatten (List.replicate n vs).flatten
  | 0 => by simp; exact .nil
  | n + 1 => by rw [List.replicate_succ, List.replicate_succ, List.flatten_cons, List.flatten_cons]; exact h.append (h.rep n)
theorem Repo.set {l : List D} {vs : L2.St} {d : D} {v : V} (h : Repo G c H ρ l vs) (q : Rep G c H ρ d v) (n : Nat) : Repo G c H ρ (l.set n d) (vs.set n (some v)) := by
  induction vs generalizing l n with
  | nil => cases h; simp; exact .nil
  | cons w vs ih => cases h with
    | uns r => cases n with
      | zero => simp; exact .cons q r
      | succ n => simp; exact .uns (ih r n)
    | cons h r => cases n with
      | zero => simp; exact .cons q r
      | succ n => simp; exact .cons h (ih r n)
theorem Repo.unset {l : List D} {vs : L2.St} {v : Option V} (h : Repo G c H ρ l vs) (n : Nat) : Repo G c H ρ (l.set n .uns) (vs.set n v) := by
  induction vs generalizing l n with
  | nil => cases h; simp; exact .nil
  | cons w vs ih => cases h with
    | uns r => cases n with
      | zero => simp; exact .uns r
      | succ n => simp; exact .uns (ih r n)
    | cons h r => cases n with
      | zero => simp; exact .uns r
      | succ n => simp; exact .cons h (ih r n)
theorem Repo.wipe {l : List D} {vs : L2.St} (h : Repo G c H ρ l vs) : ∀ ns : List Nat, Repo G c H ρ (wipeD l ns) (L2.wipe vs ns)
  | [] => h
  | n :: ns => (h.wipe ns).unset n
theorem Repo.ofReps {l : List D} {vs : List V} (h : Reps G c H ρ l vs) (n : Nat) : Repo G c H ρ (l ++ List.replicate n .uns) (vs.map some ++ List.replicate n none) := by
  induction vs generalizing l with
  | nil =>
    cases h
    simp
    induction n with
    | zero => simp; exact .nil
    | succ n ih => rw [List.replicate_succ, List.replicate_succ]; exact .uns ih
  | cons v vs ih => cases h with
    | cons h r => exact .cons h (ih r)
/-- the lists of the store, the tables of code objects -/
structure SRep (G : GC) (H : Hp) (ρ : List Addr) (S : Store) : Prop where
  len : ρ.length = S.length
  nd : ρ.Nodup
  cell : ∀ (n : Nat) (l : List D) (a : Addr), S[n]? = some (.lst l) → ρ[n]? = some a → ∃ vs, H a = some (.lst vs) ∧ Reps G none H ρ l vs
  tabs : LamX.Tabs G.T H
end
end Ev
set_option Elab.async false
set_option linter.all false
set_option maxRecDepth 100000
/-! Ev2: expressions: what the big step function says is so. -/
namespace Ev
open PySem PySem.Spec PyProof.Rows L2

/-- an exception as it flies -/
def ExRep (G : GC) (fl : String → Option (List String)) (H : Hp) (ρ : List Addr) (cn : String) (l : List D) (C : Addr) (dx : Option Addr) : Prop :=
  ∃ ns vs, fl cn = some ns ∧ G.mg (Str.ofString cn) = some (.ref C) ∧ l.length = ns.length ∧ Reps G none H ρ l vs ∧ ((ns = [] ∧ dx = none) ∨ ∃ d, dx = some d ∧ H d = some (.xd ((ns.map Str.ofString).zip vs)))
section
variable (G : GC) (fl : String → Option (List String)) (W : WX) (vσ : L2.St)
def PostG {α β : Type} (rel : Hp → List Addr → α → β → Prop) (H : Hp) (ρ : List Addr) (Q : β → Hp → Prop) : R α → Prop
  | .ok a S' => ∀ b H' ρ', HX H H' → PX ρ ρ' → SRep G H' ρ' S' → rel H' ρ' a b → Q b H'
  | .ex cn l S' => ∀ C dx H' ρ', HX H H' → PX ρ ρ' → SRep G H' ρ' S' → ExRep G fl H' ρ' cn l C dx → W (.ref C) dx vσ H'
  | .bad => False
end
section
variable {G : GC} {fl : String → Option (List String)} {W : WX} {vσ : L2.St} {α β γ δ : Type} {rel : Hp → List Addr → α → β → Prop} {rel' : Hp → List Addr → γ → δ → Prop} {H H1 : Hp} {ρ ρ1 : List Addr}
theorem PostG.mono {Q : β → Hp → Prop} {r : R α} (e : HX H H1) (p : PX ρ ρ1) (h : PostG G fl W vσ rel H ρ Q r) : PostG G fl W vσ rel H1 ρ1 Q r := by
  cases r with
  | ok a S => exact fun b H' ρ' e' p' => h b H' ρ' (e.trans e') (p.trans p')
  | ex c l S => exact fun C dx H' ρ' e' p' => h C dx H' ρ' (e.trans e') (p.trans p')
  | bad => exact h
theorem PostG.imp {Q Q' : β → Hp → Prop} {r : R α} (h : PostG G fl W vσ rel H ρ Q r) (k : ∀ b H', Q b H' → Q' b H') : PostG G fl W vσ rel H ρ Q' r := by
  cases r with
  | ok a S => exact fun b H' ρ' e p s q => k _ _ (h b H' ρ' e p s q)
  | ex c l S => exact h
  | bad => exact h
theorem PostG.bind {Q : δ → Hp → Prop} {r : R α} {f : α → Store → R γ} (h : PostG G fl W vσ rel' H ρ Q (r.bind f)) :
    PostG G fl W vσ rel H ρ (fun b H1 => ∃ ρ1 a S1, HX H H1 ∧ PX ρ ρ1 ∧ SRep G H1 ρ1 S1 ∧ rel H1 ρ1 a b ∧ PostG G fl W vσ rel' H1 ρ1 Q (f a S1)) r := by
  cases r with
  | ok a S => exact fun b H' ρ' e p s q => ⟨ρ', a, S, e, p, s, q, h.mono e p⟩
  | ex c l S => exact h
  | bad => exact h
end
theorem imp_PE {X : Cx} {e : Expr} {t t' : TE} (h : PE X e t) (k : ∀ σ H Q, t' σ H Q → t σ H Q) : PE X e t' := ⟨fun pins s σ H Q I q => h.run pins s σ H Q I (k _ _ _ q)⟩
theorem imp_PT {X : Cx} {e : Expr} {t t' : TT} (h : PT X e t) (k : ∀ σ H Q, t' σ H Q → t σ H Q) : PT X e t' := ⟨fun pins s σ H Q I q => h.run pins s σ H Q I (k _ _ _ q)⟩
theorem imp_PA {X : Cx} {e : List Expr} {t t' : TA} (h : PA X e t) (k : ∀ σ H Q, t' σ H Q → t σ H Q) : PA X e t' := ⟨fun pos pins s σ H Q I q => h.run pos pins s σ H Q I (k _ _ _ q)⟩
theorem imp_PK {X : Cx} {e : List Keyword} {t t' : TA} (h : PK X e t) (k : ∀ σ H Q, t' σ H Q → t σ H Q) : PK X e t' := ⟨fun pos pins s σ H Q I q => h.run pos pins s σ H Q I (k _ _ _ q)⟩
theorem imp_PO {X : Cx} {e : Option Expr} {t t' : TO} (h : PO X e t) (k : ∀ σ H Q, t' σ H Q → t σ H Q) : PO X e t' := ⟨fun pins s σ H Q I q => h.run pins s σ H Q I (k _ _ _ q)⟩
theorem imp_PI {X : Cx} {tg e : Expr} {t t' : TI} (h : PI X tg e t) (k : ∀ σ H Q, t' σ H Q → t σ H Q) : PI X tg e t' := ⟨fun pins s σ H Q I q => h.run pins s σ H Q I (k _ _ _ q)⟩

/-- the setting: G, the exceptions' fields, the lambdas known, what is wanted of an exception -/
structure Se where
  G : GC
  fl : String → Option (List String)
  cc : Option CC
  W : WX
def relD (Z : Se) : Hp → List Addr → D → V → Prop := fun H ρ d v => Rep Z.G Z.cc H ρ d v
def relL (Z : Se) : Hp → List Addr → List D → List V → Prop := fun H ρ d v => Reps Z.G Z.cc H ρ d v
def relE {α : Type} : Hp → List Addr → α → α → Prop := fun _ _ a b => b = a
/-- the reading of a big step -/
def tvG (Z : Se) {α β : Type} (rel : Hp → List Addr → α → β → Prop) (f : List D → Store → R α) : L2.St → Hp → (β → Hp → Prop) → Prop := fun vσ H Q =>
  ∃ ρ σ S, Repo Z.G Z.cc H ρ σ vσ ∧ SRep Z.G H ρ S ∧ PostG Z.G Z.fl Z.W vσ rel H ρ Q (f σ S)
abbrev tv (Z : Se) (f : List D → Store → R D) : TE := tvG Z (relD Z) f
abbrev tvB (Z : Se) (f : List D → Store → R Bool) : TT := tvG Z relE f
abbrev tvL (Z : Se) (f : List D → Store → R (List D)) : TA := tvG Z (relL Z) f
abbrev tvO (Z : Se) (f : List D → Store → R (Option Int)) : TO := tvG Z relE f
abbrev Pst (Z : Se) (vσ : L2.St) {α β : Type} (rel : Hp → List Addr → α → β → Prop) (H : Hp) (ρ : List Addr) (Q : β → Hp → Prop) (r : R α) : Prop := PostG Z.G Z.fl Z.W vσ rel H ρ Q r

section
variable {Z : Se} {X : Cx} {vσ : L2.St} {H : Hp} {ρ : List Addr} {α β : Type} {rel : Hp → List Addr → α → β → Prop} {Q : β → Hp → Prop}
theorem Pst.ok {a : α} {S : Store} (h : Pst Z vσ rel H ρ Q (.ok a S)) {b : β} (s : SRep Z.G H ρ S) (r : rel H ρ a b) : Q b H := h b H ρ (HX.refl H) (PX.refl ρ) s r
theorem Pst.okN {a : α} {S : Store} (h : Pst Z vσ rel H ρ Q (.ok a S)) {b : β} {H' : Hp} {ρ' : List Addr} (e : HX H H') (p : PX ρ ρ') (s : SRep Z.G H' ρ' S) (r : rel H' ρ' a b) : Q b H' := h b H' ρ' e p s r
theorem Pst.when {b : Bool} {r : R α} (h : Pst Z vσ rel H ρ Q (R.when b r)) : b = true ∧ Pst Z vσ rel H ρ Q r := by
  cases b with
  | true => exact ⟨rfl, h⟩
  | false => exact h.elim
theorem Pst.orBad {γ : Type} {o : Option γ} {f : γ → R α} (h : Pst Z vσ rel H ρ Q (orBad o f)) : ∃ c, o = some c ∧ Pst Z vσ rel H ρ Q (f c) := by
  cases o with
  | some c => exact ⟨c, rfl, h⟩
  | none => exact h.elim
theorem tests_of {H : Hp} {ρ : List Addr} {S : Store} {d : D} {v : V} {b : Bool} (r : Rep Z.G Z.cc H ρ d v) (s : SRep Z.G H ρ S) (h : truth d S = some b) : TruV Z.G.K v H b := by
  cases r with
  | non =>
    have q : b = false := by simpa [truth] using h.symm
    exact q
  | bl c => simpa [truth, TruV] using h.symm
  | int i => simpa [truth, TruV] using h.symm
  | str s => simp [truth] at h
  | @tup a vs l t r =>
    refine .inr (.inl ⟨vs, t.t, ?_⟩)
    have e := r.length
    have q : b = !l.isEmpty := by simpa [truth] using h.symm
    rw [q]
    cases l <;> cases vs <;> simp_all
  | @rl a vs l t r =>
    refine .inl ⟨vs, t.l, ?_⟩
    have e := r.length
    have q : b = !l.isEmpty := by simpa [truth] using h.symm
    rw [q]
    cases l <;> cases vs <;> simp_all
  | @ref n a q =>
    cases e : lstOf S n with
    | none => simp [truth, e] at h
    | some l =>
      have eS : S[n]? = some (.lst l) := by
        unfold lstOf at e
        split at e
        · simp at e; subst e; assumption
        · cases e
      obtain ⟨vs, h1, h2⟩ := s.cell n l a eS q
      refine .inl ⟨vs, .of h1, ?_⟩
      have e2 := h2.length
      have q : b = !l.isEmpty := by simpa [truth, e] using h.symm
      rw [q]
      cases l <;> cases vs <;> simp_all
  | fn h k => simp [truth] at h
  | clo _ _ _ => simp [truth] at h
  | exn _ _ _ _ _ _ => simp [truth] at h
theorem lst_at {H : Hp} {ρ : List Addr} {S : Store} {n : Nat} {a : Addr} {l : List D} (s : SRep Z.G H ρ S) (q : ρ[n]? = some a) (e : lstOf S n = some l) : ∃ vs, H a = some (.lst vs) ∧ Reps Z.G none H ρ l vs := by
  unfold lstOf at e
  split at e
  · rename_i h
    simp at e; subst e
    exact s.cell n _ a h q
  · cases e
/-- a test by the value -/
theorem pt_of {e : Expr} {f : List D → Store → R D} (h : PE X e (tv Z f)) (hK : X.K = Z.G.K) (he : ∀ whole, isTrue e X.env whole = (do let v ← whole; standAt e.pos; holding [v] (truthy v)) := by intro _; rfl) :
    PT X e (tvB Z fun σ S => toB (fin true (f σ S))) := by
  refine imp_PT (pt_truth h he) fun vσ H Q q => ?_
  obtain ⟨ρ, σ, S, r, s, q⟩ := q
  refine ⟨ρ, σ, S, r, s, ?_⟩
  dsimp only at q
  cases hr : f σ S with
  | bad => rw [hr] at q; exact q.elim
  | ex c l S1 => rw [hr] at q; exact q
  | ok d S1 =>
    rw [hr] at q
    intro v H1 ρ1 e p s1 r1
    have q' : Pst Z vσ relE H ρ Q (toB (match truth d S1 with | some b => .ok (.bl b) S1 | none => .bad)) := q
    cases ht : truth d S1 with
    | none => rw [ht] at q'; exact q'.elim
    | some b =>
      rw [ht] at q'
      have q' : Pst Z vσ relE H ρ Q (.ok b S1) := q'
      exact ⟨b, by rw [hK]; exact tests_of r1 s1 ht, q'.okN e p s1 rfl⟩
/-- a new list -/
theorem SRep.new {H : Hp} {ρ : List Addr} {S : Store} {p : Addr} {l : List D} {vs : List V} (s : SRep Z.G H ρ S) (hp : H p = none) (r : Reps Z.G none H ρ l vs) :
    SRep Z.G (upd H p (.lst vs)) (ρ ++ [p]) (S ++ [.lst l]) := by
  have np : ∀ (n : Nat) (a : Addr), ρ[n]? = some a → a ≠ p := fun n a e z => by
    have hn : n < S.length := by rw [← s.len]; exact (List.getElem?_eq_some_iff.mp e).1
    obtain ⟨c, hc⟩ : ∃ c, S[n]? = some c := ⟨S[n], List.getElem?_eq_getElem hn⟩
    obtain ⟨l⟩ := c
    obtain ⟨vs, h1, _⟩ := s.cell n l a hc e
    rw [z, hp] at h1; cases h1
  refine ⟨by simp [s.len], ?_, fun n l' a e q => ?_, s.tabs.ext fun b o e => by rw [upd_ne (ne_of_none e hp)]; exact e⟩
  · rw [List.nodup_append]
    refine ⟨s.nd, by simp, fun a ha b hb => ?_⟩
    simp at hb; subst hb
    obtain ⟨n, hn⟩ := List.getElem?_of_mem ha
    exact np n a hn
  · by_cases hn : n < S.length
    · rw [List.getElem?_append_left hn] at e
      rw [List.getElem?_append_left (by rw [s.len]; exact hn)] at q
      obtain ⟨ws, h1, h2⟩ := s.cell n l' a e q
      exact ⟨ws, by rw [upd_ne (np n a q)]; exact h1, h2.mono (HX.new hp) (PX.app ρ _)⟩
    · rw [List.getElem?_append_right (by omega)] at e
      rw [List.getElem?_append_right (by rw [s.len]; omega)] at q
      have h0 : n - S.length = 0 := by
        have := (List.getElem?_eq_some_iff.mp e).1
        simp at this; omega
      rw [h0] at e
      rw [s.len, h0] at q
      simp at e q
      subst q; subst e
      exact ⟨vs, upd_same, r.mono (HX.new hp) (PX.app ρ _)⟩
theorem SRep.last {H : Hp} {ρ : List Addr} {S : Store} {p : Addr} (s : SRep Z.G H ρ S) : (ρ ++ [p])[S.length]? = some p := by
  rw [List.getElem?_append_right (by rw [s.len]; exact Nat.le_refl _), s.len]; simp
/-- a list is changed -/
theorem SRep.put {H : Hp} {ρ : List Addr} {S : Store} {n : Nat} {a : Addr} {l : List D} {vs ws : List V} (s : SRep Z.G H ρ S) (q : ρ[n]? = some a) (h : H a = some (.lst ws)) (r : Reps Z.G none H ρ l vs) :
    SRep Z.G (upd H a (.lst vs)) ρ (S.set n (.lst l)) := by
  have hx : HX H (upd H a (.lst vs)) := HX.put h rfl
  refine ⟨by simp [s.len], s.nd, fun m l' b e q' => ?_, ?_⟩
  · by_cases hm : m = n
    · subst hm
      rw [q] at q'; cases q'
      have hl : m < S.length := by rw [← s.len]; exact (List.getElem?_eq_some_iff.mp q).1
      rw [List.getElem?_set_self hl] at e
      cases e
      exact ⟨vs, upd_same, r.mono hx (PX.refl ρ)⟩
    · rw [List.getElem?_set_ne (Ne.symm hm)] at e
      obtain ⟨us, h1, h2⟩ := s.cell m l' b e q'
      have : b ≠ a := fun z => by
        subst z
        exact hm ((List.getElem_inj s.nd (h₀ := (List.getElem?_eq_some_iff.mp q').1) (h₁ := (List.getElem?_eq_some_iff.mp q).1)).mp (by
          rw [(List.getElem?_eq_some_iff.mp q').2, (List.getElem?_eq_some_iff.mp q).2]))
      exact ⟨us, by rw [upd_ne this]; exact h1, h2.mono hx (PX.refl ρ)⟩
  · intro p hp
    obtain ⟨ps, h1, h2, h3⟩ := s.tabs p hp
    have na : p.1 ≠ a := fun z => by rw [z, h] at h1; cases h1
    refine ⟨ps, by rw [upd_ne na]; exact h1, h2, fun pos cv hc => ?_⟩
    obtain ⟨c, e1, e2⟩ := h3 pos cv hc
    refine ⟨c, e1, ?_⟩
    have : c ≠ a := fun z => by rw [z, h] at e2; cases e2
    rw [upd_ne this]; exact e2
theorem SRep.laid {H : Hp} {ρ : List Addr} {S : Store} {p : Addr} {o : HO} (s : SRep Z.G H ρ S) (hp : H p = none) : SRep Z.G (upd H p o) ρ S := by
  refine ⟨s.len, s.nd, fun n l a e q => ?_, s.tabs.ext fun b o e => by rw [upd_ne (ne_of_none e hp)]; exact e⟩
  obtain ⟨vs, h1, h2⟩ := s.cell n l a e q
  exact ⟨vs, by rw [upd_ne (ne_of_none h1 hp)]; exact h1, h2.mono (HX.new hp) (PX.refl ρ)⟩
/-- a new list comes -/
theorem new_ok {S : Store} {l : List D} {vs : List V} {Q : VK} (h : Pst Z vσ (relD Z) H ρ Q (new l S)) (s : SRep Z.G H ρ S) (r : Reps Z.G Z.cc H ρ l vs) :
    vs.length ≤ sizeLine ∧ ∀ p, H p = none → Q (.ref p) (upd H p (.lst vs)) := by
  obtain ⟨hz, h⟩ := h.when
  simp [sz] at hz
  rw [← r.length]
  exact ⟨hz.1, fun p hp => h.okN (HX.new hp) (PX.app ρ [p]) (s.new hp (r.flat hz.2)) (.ref s.last)⟩
theorem tup_ok {S : Store} {l : List D} {vs : List V} {Q : VK} (h : Pst Z vσ (relD Z) H ρ Q (.ok (.tup l) S)) (s : SRep Z.G H ρ S) (r : Reps Z.G Z.cc H ρ l vs) :
    ∀ p, H p = none → Q (.ref p) (upd H p (.tup vs)) := fun p hp =>
  h.okN (HX.new hp) (PX.refl ρ) (s.laid hp) (.tup (.inl upd_same) (r.mono (HX.new hp) (PX.refl ρ)))

/-! ### names, constants -/
theorem p_var {i : Nat} {x : Str} {pos : Pos} {κ : Kap} (hN : X.N[i]? = some x) (hv : Vis X.env.scope x) (hd : (x == ("__debug__" : Str)) = false) (hcd : (x == ("__classdict__" : Str)) = false) :
    PE X (.Name x pos) (tv Z fun σ S => evE κ σ false (.var i) S) := by
  refine imp_PE (pe_var hN hv hd hcd) fun vσ H Q q => ?_
  obtain ⟨ρ, σ, S, r, s, q⟩ := q
  unfold evE at q
  dsimp only at q
  cases e : σ[i]? with
  | none => rw [e] at q; exact q.elim
  | some d =>
    rw [e] at q
    by_cases hu : d = .uns
    · subst hu; exact q.elim
    · have q' : Pst Z vσ (relD Z) H ρ Q (.ok d S) := by
        cases d <;> first | exact q | exact absurd rfl hu
      obtain ⟨v, e2, rv⟩ := r.get e hu
      exact ⟨v, e2, q'.ok s rv⟩
theorem p_const {e : Expr} {d : D} {v : V} (h : PE X e (tC v)) (r : ∀ H ρ, Rep Z.G Z.cc H ρ d v) : PE X e (tv Z fun _ S => .ok d S) := by
  refine imp_PE h fun vσ H Q q => ?_
  obtain ⟨ρ, σ, S, _, s, q⟩ := q
  exact Pst.ok (rel := relD Z) q s (r H ρ)
end
end Ev
set_option Elab.async false
set_option linter.all false
set_option maxRecDepth 100000
/-! Ev2b: a tuple taken once, or not at all. -/
namespace Ev
open PySem PySem.Spec PyProof.Rows L2
theorem mul_none (l : Addr) (items : Array Value) (n : Nat) (dd : Option Addr) (sl : Array (Option Value)) (x : Int) (u : Tok) (b0 : (decide (x < -(2 ^ 63)) || decide (x ≥ 2 ^ 63)) = false) (b1 : (items.isEmpty || x == 1) = false) (b2 : (decide (x ≤ 0) || items.isEmpty) = true) :
    Meets (Builtin.«tuple.__mul__» ⟨[.ref l, .int x u], []⟩) (fun _ R s => s.heap.get? l = some { cls := .type "tuple", dict := dd, data := .seq items n, slots := sl } ∧ R (.ok (.ret (.ref s.heap.objs.size))) { s with heap := s.heap.push { cls := Value.type "tuple", data := Data.seq #[] } }) :=
  .of_wp fun prog w A R ⟨hp, g, d, tk, os⟩ ⟨hl, h⟩ => by
    have f1 := AutoSeq1.idx_int
    wp_walk using wpAny_loadPart' hl
    refine wpAny_ite_false (decide_eq_false (by rw [b0]; decide)) ?_
    wp_walk using wpAny_loadPart' hl
    exact ⟨_, rfl, h⟩
theorem mul_one (l : Addr) (items : Array Value) (n : Nat) (dd : Option Addr) (sl : Array (Option Value)) (u : Tok) :
    Meets (Builtin.«tuple.__mul__» ⟨[.ref l, .int 1 u], []⟩) (fun _ R s => s.heap.get? l = some { cls := .type "tuple", dict := dd, data := .seq items n, slots := sl } ∧ R (.ok (.ret (.ref l))) s) :=
  .of_wp fun prog w A R ⟨hp, g, d, tk, os⟩ ⟨hl, h⟩ => by
    have f1 := AutoSeq1.idx_int
    wp_walk using wpAny_loadPart' hl
    exact ⟨_, rfl, h⟩
def rRep01 (K : PySem.W.Frag) : R2 := fun x y H Q => ∃ l k xs, x = .ref l ∧ y = .int k ∧ SqT K H l xs ∧ xs ≠ [] ∧ -1000 ≤ k ∧ ((k = 1 ∧ Q x H) ∨ (k ≤ 0 ∧ ∀ p, H p = none → Q (.ref p) (upd H p (.tup []))))
theorem op_rep01 {X : Cx} : OpR X (binaryOp .Mult) (rRep01 X.K) := by
  rintro pins s σ H x y v u Q I rx ry ⟨l, k, xs, rfl, rfl, hT, hne, hk, q⟩
  cases rx
  obtain ⟨t, rfl⟩ := ry
  obtain ⟨its, r, ⟨⟨cls, dd, data, sl⟩, ho, hc, n, hd⟩, hs⟩ := I.tuple hT
  obtain rfl : cls = .type "tuple" := hc
  obtain rfl : data = .seq its.toArray n := hd
  have fin : ∀ {k : Int} {Q'} (call2 : wpAny (model X.prog X.w) X.A (call (.builtin "tuple.__mul__") [.ref l, .int k t]) Q' X.xe s), wpAny (model X.prog X.w) X.A (binaryOp .Mult (.ref l) (.int k t)) Q' X.xe s := fun {k Q'} c2 =>
    wpAny_binaryOp_repeat_ref (T := "tuple") (U := "int") (by decide) ⟨_, ho, rfl⟩ (fun z => typeIs_int z k t) noFill_tuple_mul F.fills_int_mul F.slot_int_rmul repeat_tuple F.slot_int_index.lookup
      (call_meets F.slot_int_rmul (typeIs_int s k t) F.entry_int_rmul (F.args_int_rmul_2 _ _) (int_rmul_tuple k t l its.toArray n dd sl) ⟨ho, rfl, ⟨_, ho, rfl⟩, c2⟩)
  rcases q with ⟨rfl, q⟩ | ⟨hk0, q⟩
  · refine fin (call_meets F.slot_tuple_mul ⟨_, ho, rfl⟩ F.entry_tuple_mul (F.args_tuple_mul_2 _ _) (mul_one l its.toArray n dd sl t) ⟨ho, ?_⟩)
    exact ⟨.ref l, H, I, rfl, q⟩
  · have hn : its ≠ [] := fun e => hne (by
      have := r.length
      rw [e] at this
      exact List.length_eq_zero_iff.mp (by simpa using this))
    have hi : its.toArray.isEmpty = false := by
      cases its with
      | nil => exact absurd rfl hn
      | cons a b => rfl
    refine fin (call_meets F.slot_tuple_mul ⟨_, ho, rfl⟩ F.entry_tuple_mul (F.args_tuple_mul_2 _ _) (mul_none l its.toArray n dd sl k t (by simp; omega) (by rw [hi]; simp; omega) (by simp [hk0])) ⟨ho, ?_⟩)
    refine ⟨.ref s.heap.objs.size, _, I.laid (t' := s.toks) (o := .tup []) (fun b ob z => Heap.get?_push_of_some _ z) (Nat.le_refl _) ?_, rfl, q _ (I.hok.fresh (Nat.le_refl _))⟩
    exact ⟨Nat.zero_le _, _, .nil, IsTup.new _ _⟩
end Ev
set_option Elab.async false
set_option linter.all false
set_option maxRecDepth 100000
set_option maxHeartbeats 1000000
/-! Ev3: operators, built-ins, methods, subscripts: the rules of the hand layer say what the big step says. -/
namespace Ev
open PySem PySem.Spec PyProof.Rows L2

def Bop.ast : Bop → Operator
  | .add => .Add | .sub => .Sub | .mul => .Mult | .fdiv => .FloorDiv | .mod => .Mod | .pow => .Pow
def Cop.ast : Cop → CmpOp
  | .eq => .Eq | .ne => .NotEq | .lt => .Lt | .le => .LtE | .gt => .Gt | .ge => .GtE | .is => .Is | .isnot => .IsNot | .in_ => .In | .notin => .NotIn
section
variable {Z : Se} {X : Cx}
/-- what a rule on two values asks -/
def r2 (Z : Se) (g : D → D → Store → R D) : R2 := fun x y H Q => ∃ ρ dx dy S vσ, SRep Z.G H ρ S ∧ Rep Z.G Z.cc H ρ dx x ∧ Rep Z.G Z.cc H ρ dy y ∧ Pst Z vσ (relD Z) H ρ Q (g dx dy S)
def rL (Z : Se) (g : List D → Store → R D) : List V → Hp → VK → Prop := fun xs H Q => ∃ ρ l S vσ, SRep Z.G H ρ S ∧ Reps Z.G Z.cc H ρ l xs ∧ Pst Z vσ (relD Z) H ρ Q (g l S)
theorem two {fa fb : List D → Store → R D} {γ δ : Type} {rel : Hp → List Addr → γ → δ → Prop} {g : D → D → Store → R γ} {vσ : L2.St} {H : Hp} {Q : δ → Hp → Prop}
    (q : tvG Z rel (fun σ S => (fa σ S).bind fun x S => (fb σ S).bind fun y S => g x y S) vσ H Q) :
    tv Z fa vσ H fun x H1 => tv Z fb vσ H1 fun y H2 => ∃ ρ dx dy S, SRep Z.G H2 ρ S ∧ Rep Z.G Z.cc H2 ρ dx x ∧ Rep Z.G Z.cc H2 ρ dy y ∧ Pst Z vσ rel H2 ρ Q (g dx dy S) := by
  obtain ⟨ρ, σ, S, r, s, q⟩ := q
  refine ⟨ρ, σ, S, r, s, (PostG.bind (rel := relD Z) q).imp ?_⟩
  rintro x H1 ⟨ρ1, dx, S1, e1, p1, s1, r1, q1⟩
  refine ⟨ρ1, σ, S1, r.mono e1 p1, s1, (PostG.bind (rel := relD Z) q1).imp ?_⟩
  rintro y H2 ⟨ρ2, dy, S2, e2, p2, s2, r2, q2⟩
  exact ⟨ρ2, dx, dy, S2, s2, Rep.mono e2 p2 r1, r2, q2⟩
theorem one {fa : List D → Store → R D} {γ δ : Type} {rel : Hp → List Addr → γ → δ → Prop} {g : D → Store → R γ} {vσ : L2.St} {H : Hp} {Q : δ → Hp → Prop}
    (q : tvG Z rel (fun σ S => (fa σ S).bind fun x S => g x S) vσ H Q) :
    tv Z fa vσ H fun x H1 => ∃ ρ dx S, SRep Z.G H1 ρ S ∧ Rep Z.G Z.cc H1 ρ dx x ∧ Pst Z vσ rel H1 ρ Q (g dx S) := by
  obtain ⟨ρ, σ, S, r, s, q⟩ := q
  refine ⟨ρ, σ, S, r, s, (PostG.bind (rel := relD Z) q).imp ?_⟩
  rintro x H1 ⟨ρ1, dx, S1, e1, p1, s1, r1, q1⟩
  exact ⟨ρ1, dx, S1, s1, r1, q1⟩
theorem args {fa : List D → Store → R (List D)} {γ δ : Type} {rel : Hp → List Addr → γ → δ → Prop} {g : List D → Store → R γ} {vσ : L2.St} {H : Hp} {Q : δ → Hp → Prop}
    (q : tvG Z rel (fun σ S => (fa σ S).bind fun x S => g x S) vσ H Q) :
    tvL Z fa vσ H fun x H1 => ∃ ρ dx S, SRep Z.G H1 ρ S ∧ Reps Z.G Z.cc H1 ρ dx x ∧ Pst Z vσ rel H1 ρ Q (g dx S) := by
  obtain ⟨ρ, σ, S, r, s, q⟩ := q
  refine ⟨ρ, σ, S, r, s, (PostG.bind (rel := relL Z) q).imp ?_⟩
  rintro x H1 ⟨ρ1, dx, S1, e1, p1, s1, r1, q1⟩
  exact ⟨ρ1, dx, S1, s1, r1, q1⟩

/-! ### data -/
theorem optAll_cons {α : Type} {a : Option α} {r : List (Option α)} {xs : List α} (h : optAll (a :: r) = some xs) : ∃ x ys, a = some x ∧ optAll r = some ys ∧ xs = x :: ys := by
  cases a with
  | none => simp [optAll] at h
  | some x =>
    simp only [optAll] at h
    cases e : optAll r with
    | none => rw [e] at h; simp at h
    | some ys => rw [e] at h; simp at h; exact ⟨x, ys, rfl, rfl, h.symm⟩
theorem dps_of {G : GC} {c : Option CC} {H : Hp} {ρ : List Addr} {S : Store} {n : Nat}
    (ih : ∀ d v p, Rep G c H ρ d v → pyN S n d = some p → Dp G.K H v p ∧ p.canLay0 = true ∧ p.depth ≤ n) :
    ∀ (l : List D) (vs : List V) (ps : List PyData), Reps G c H ρ l vs → optAll (l.map (pyN S n)) = some ps → DpAll G.K H vs ps ∧ PyData.canLayAll0 ps = true ∧ PyData.depthAll ps ≤ n
  | [], vs, ps, h, e => by
    cases h
    simp [optAll] at e; subst e
    exact ⟨.nil, rfl, Nat.zero_le _⟩
  | d :: l, vs, ps, h, e => by
    cases h with
    | cons h r =>
      rw [List.map_cons] at e
      obtain ⟨x, ys, e1, e2, e3⟩ := optAll_cons e
      subst e3
      obtain ⟨a1, a2, a3⟩ := ih _ _ _ h e1
      obtain ⟨b1, b2, b3⟩ := dps_of ih l _ ys r e2
      refine ⟨.cons a1 b1, by simp [PyData.canLayAll0, a2, b2], ?_⟩
      simp only [PyData.depthAll]
      omega
theorem dp_of {G : GC} {c : Option CC} {H : Hp} {ρ : List Addr} {S : Store} (s : SRep G H ρ S) : ∀ (n : Nat) (d : D) (v : V) (p : PyData), Rep G c H ρ d v → pyN S n d = some p → Dp G.K H v p ∧ p.canLay0 = true ∧ p.depth ≤ n := by
  have basic : ∀ (n : Nat) (d : D) (v : V) (p : PyData), Rep G c H ρ d v → small d = true → pyN S n d = some p → Dp G.K H v p ∧ p.canLay0 = true ∧ p.depth ≤ n := by
    intro n d v p r hs h
    cases r with
    | non =>
      have : p = .none := by unfold pyN at h; simpa using h.symm
      subst this; exact ⟨.non, by simp [PyData.canLay0], by simp [PyData.depth]⟩
    | bl b =>
      have : p = .bool b := by unfold pyN at h; simpa using h.symm
      subst this; exact ⟨.bl b, by simp [PyData.canLay0], by simp [PyData.depth]⟩
    | int i =>
      have : p = .int i := by unfold pyN at h; simpa using h.symm
      subst this; exact ⟨.int i, by simp [PyData.canLay0], by simp [PyData.depth]⟩
    | str x =>
      have : PyData.strOk x = true ∧ p = .str x := by
        unfold pyN at h
        by_cases hx : PyData.strOk x = true
        · simp [hx] at h; exact ⟨hx, h.symm⟩
        · simp [hx] at h
      obtain ⟨hx, this⟩ := this
      subst this; exact ⟨.str x, by simp [PyData.canLay0, hx], by simp [PyData.depth]⟩
    | _ => simp [small] at hs
  have cell : ∀ {n : Nat} {l : List D}, lstOf S n = some l → S[n]? = some (.lst l) := by
    intro n l e
    unfold lstOf at e
    split at e
    · simp at e; subst e; assumption
    · cases e
  intro n
  induction n with
  | zero =>
    intro d v p r h
    by_cases hs : small d = true
    · exact basic 0 d v p r hs h
    · cases r <;> first | (exact absurd rfl hs) | (simp [pyN] at h)
  | succ n ih =>
    intro d v p r h
    by_cases hs : small d = true
    · exact basic _ d v p r hs h
    · cases r with
      | @tup a vs l t r =>
        have h : (optAll (l.map (pyN S n))).map PyData.tuple = some p := by unfold pyN at h; exact h
        cases e : optAll (l.map (pyN S n)) with
        | none => rw [e] at h; simp at h
        | some ps =>
          rw [e] at h
          simp at h; subst h
          obtain ⟨b1, b2, b3⟩ := dps_of ih l vs ps r e
          exact ⟨.tup t.t b1, by simp [PyData.canLay0, b2], by simp only [PyData.depth]; omega⟩
      | @rl a vs l t r =>
        have h : (optAll (l.map (pyN S n))).map PyData.list = some p := by unfold pyN at h; exact h
        cases e : optAll (l.map (pyN S n)) with
        | none => rw [e] at h; simp at h
        | some ps =>
          rw [e] at h
          simp at h; subst h
          obtain ⟨b1, b2, b3⟩ := dps_of ih l vs ps r e
          exact ⟨.lst t.l b1, by simp [PyData.canLay0, b2], by simp only [PyData.depth]; omega⟩
      | @ref m a q =>
        cases el : lstOf S m with
        | none => unfold pyN at h; simp [el] at h
        | some l =>
          have h : (optAll (l.map (pyN S n))).map PyData.list = some p := by unfold pyN at h; simp only [el] at h; exact h
          obtain ⟨vs, h1, h2⟩ := s.cell m l a (cell el) q
          cases e : optAll (l.map (pyN S n)) with
          | none => rw [e] at h; simp at h
          | some ps =>
            rw [e] at h
            simp at h; subst h
            obtain ⟨b1, b2, b3⟩ := dps_of ih l vs ps h2.any e
            exact ⟨.lst (.of h1) b1, by simp [PyData.canLay0, b2], by simp only [PyData.depth]; omega⟩
      | fn h1 k => simp [pyN] at h
      | clo _ _ _ => simp [pyN] at h
      | exn _ _ _ _ _ _ => simp [pyN] at h
      | _ => exact absurd rfl hs
theorem shaped_of {n : Nat} {p : PyData} (h : p.canLay0 = true ∧ p.depth ≤ n) (hn : n ≤ 64) : SeqAt.shaped p = true := by
  unfold SeqAt.shaped
  rw [h.1, Bool.true_and]
  exact decide_eq_true (Nat.le_trans h.2 hn)

/-! ### operators -/
theorem opr_bin (hK : X.K = Z.G.K) (o : Bop) : OpR X (binaryOp o.ast) (r2 Z (binop o)) := by
  intro pins s σ H x y v u Q I rx ry q
  obtain ⟨ρ, dx, dy, S, vσ, sr, r1, r2, q⟩ := q
  cases o with
  | add =>
    cases r1 with
    | int i => cases r2 with
      | int j => exact op_add pins s σ H _ _ v u Q I rx ry ⟨i, j, rfl, rfl, Pst.ok (rel := relD Z) q sr (.int _)⟩
      | _ => exact q.elim
    | str a => cases r2 with
      | str b =>
        obtain ⟨hz, q⟩ := q.when
        exact op_add_str pins s σ H _ _ v u Q I rx ry ⟨a, b, rfl, rfl, by simpa [sz] using hz, Pst.ok (rel := relD Z) q sr (.str _)⟩
      | _ => exact q.elim
    | @tup a vs l t r => cases r2 with
      | @tup b ws m t' r' =>
        obtain ⟨hz, q⟩ := q.when
        have e1 := r.length
        have e2 := r'.length
        refine op_catA pins s σ H _ _ v u Q I rx ry ⟨a, b, vs, ws, rfl, rfl, by rw [hK]; exact t.t, by rw [hK]; exact t'.t, by rw [← e1, ← e2]; simpa [sz] using hz, fun h0 => ?_, fun _ h0 => ?_, fun _ _ p hp => ?_⟩
        · subst h0; cases r
          exact Pst.ok (rel := relD Z) q sr (.tup t' (by simpa using r'))
        · subst h0; cases r'
          exact Pst.ok (rel := relD Z) q sr (.tup t (by simpa using r))
        · exact tup_ok q sr (r.append r') p hp
      | _ => exact q.elim
    | @ref n a e => cases r2 with
      | @ref m b e' =>
        have q : Pst Z vσ (relD Z) H ρ Q (match lstOf S n, lstOf S m with | some l, some m => new (l ++ m) S | _, _ => .bad) := q
        cases h1 : lstOf S n with
        | none => rw [h1] at q; exact q.elim
        | some l => cases h2 : lstOf S m with
          | none => rw [h1, h2] at q; exact q.elim
          | some k =>
            rw [h1, h2] at q
            obtain ⟨vs, a1, a2⟩ := lst_at sr e h1
            obtain ⟨ws, b1, b2⟩ := lst_at sr e' h2
            obtain ⟨z, q⟩ := new_ok q sr ((a2.append b2).any)
            exact op_cat pins s σ H _ _ v u Q I rx ry ⟨a, b, vs, ws, rfl, rfl, a1, b1, by simpa using z, q⟩
      | _ => exact q.elim
    | _ => cases r2 <;> exact q.elim
  | sub =>
    cases r1 with
    | int i => cases r2 with
      | int j => exact op_sub pins s σ H _ _ v u Q I rx ry ⟨i, j, rfl, rfl, Pst.ok (rel := relD Z) q sr (.int _)⟩
      | _ => exact q.elim
    | _ => cases r2 <;> exact q.elim
  | mul =>
    cases r1 with
    | int i => cases r2 with
      | int j =>
        obtain ⟨hz, q⟩ := q.when
        exact op_mulW pins s σ H _ _ v u Q I rx ry ⟨i, j, rfl, rfl, by simpa [mulOk, CMulW] using hz, Pst.ok (rel := relD Z) q sr (.int _)⟩
      | _ => exact q.elim
    | @tup a vs l t r => cases r2 with
      | int k =>
        obtain ⟨hz, q⟩ := q.when
        simp at hz
        have e1 := r.length
        by_cases h2 : 2 ≤ k
        · exact op_repT pins s σ H _ _ v u Q I rx ry ⟨a, k, vs, rfl, rfl, by rw [hK]; exact t.t, by rintro rfl; cases r; simp at hz, h2, hz.1.2, by rw [← e1]; exact hz.2, tup_ok q sr (r.rep _)⟩
        · refine op_rep01 pins s σ H _ _ v u Q I rx ry ⟨a, k, vs, rfl, rfl, by rw [hK]; exact t.t, by rintro rfl; cases r; simp at hz, hz.1.1.2, ?_⟩
          by_cases h1 : k = 1
          · subst h1
            exact .inl ⟨rfl, Pst.ok (rel := relD Z) q sr (.tup t (by simpa using r))⟩
          · have e0 : (List.replicate k.toNat l).flatten = [] := by rw [show k.toNat = 0 by omega]; rfl
            rw [e0] at q
            exact .inr ⟨by omega, tup_ok q sr .nil⟩
      | _ => exact q.elim
    | @ref n a e => cases r2 with
      | int k =>
        have q : Pst Z vσ (relD Z) H ρ Q (match lstOf S n with | some l => R.when (decide (-(2 ^ 62) ≤ k) && decide (k < 2 ^ 62) && sz (l.length * k.toNat)) (new (List.replicate k.toNat l).flatten S) | none => .bad) := q
        cases h1 : lstOf S n with
        | none => rw [h1] at q; exact q.elim
        | some l =>
          rw [h1] at q
          obtain ⟨hz, q⟩ := q.when
          simp [sz] at hz
          obtain ⟨vs, a1, a2⟩ := lst_at sr e h1
          obtain ⟨z, q⟩ := new_ok q sr ((a2.rep _).any)
          have e1 := a2.length
          exact op_rep pins s σ H _ _ v u Q I rx ry ⟨a, k, vs, rfl, rfl, a1, by omega, by omega, by rw [← e1]; exact hz.2, q⟩
      | _ => exact q.elim
    | _ => cases r2 <;> exact q.elim
  | fdiv =>
    cases r1 with
    | int i => cases r2 with
      | int j =>
        obtain ⟨hz, q⟩ := q.when
        exact op_fdivW pins s σ H _ _ v u Q I rx ry ⟨i, j, rfl, rfl, by simpa [divOk, CDivW] using hz, Pst.ok (rel := relD Z) q sr (.int _)⟩
      | _ => exact q.elim
    | _ => cases r2 <;> exact q.elim
  | mod =>
    cases r1 with
    | int i => cases r2 with
      | int j =>
        obtain ⟨hz, q⟩ := q.when
        exact op_mod pins s σ H _ _ v u Q I rx ry ⟨i, j, rfl, rfl, by simpa using hz, Pst.ok (rel := relD Z) q sr (.int _)⟩
      | _ => exact q.elim
    | _ => cases r2 <;> exact q.elim
  | pow =>
    cases r1 with
    | int i => cases r2 with
      | int j =>
        obtain ⟨hz, q⟩ := q.when
        simp at hz
        exact op_pow pins s σ H _ _ v u Q I rx ry ⟨i, j, rfl, rfl, ⟨hz.1.1, hz.1.2, by simpa using hz.2⟩, Pst.ok (rel := relD Z) q sr (.int _)⟩
      | _ => exact q.elim
    | _ => cases r2 <;> exact q.elim
end
end Ev
set_option Elab.async false
set_option linter.all false
set_option maxRecDepth 100000
set_option maxHeartbeats 1000000
/-! Ev4: comparisons, built-ins, methods, subscripts. -/
namespace Ev
open PySem PySem.Spec PyProof.Rows L2
section
variable {Z : Se} {X : Cx}
theorem dec_str2 {i j : Str} : decide (V.str i = V.str j) = decide (i = j) := by
  by_cases h : i = j
  · subst h; simp
  · have : V.str i ≠ V.str j := fun e => by cases e; exact h rfl
    simp [h, this]
theorem obl_ok {vσ : L2.St} {H : Hp} {ρ : List Addr} {S : Store} {Q : VK} {o : Option Bool} (q : Pst Z vσ (relD Z) H ρ Q (obl o S)) (s : SRep Z.G H ρ S) : ∃ b, o = some b ∧ Q (.bl b) H := by
  cases o with
  | none => exact q.elim
  | some b => exact ⟨b, rfl, Pst.ok (rel := relD Z) q s (.bl b)⟩
theorem eq_ok {S : Store} {H : Hp} {ρ : List Addr} {dx dy : D} {x y : V} {b : Bool} (s : SRep Z.G H ρ S) (r1 : Rep Z.G Z.cc H ρ dx x) (r2 : Rep Z.G Z.cc H ρ dy y) (hst : ¬ ∃ s1 s2, dx = .str s1 ∧ dy = .str s2) (h : eqD S dx dy = some b) :
    ∃ d e, Dp Z.G.K H x d ∧ Dp Z.G.K H y e ∧ SeqAt.shaped d = true ∧ SeqAt.shaped e = true ∧ b = PyData.eqv d e := by
  have h : (match pyN S 20 dx, pyN S 20 dy with
    | some a, some b => some (PyData.eqv a b)
    | _, _ => none) = some b := by
    unfold eqD at h
    split at h
    · exact absurd ⟨_, _, rfl, rfl⟩ hst
    · exact h
  cases e1 : pyN S 20 dx with
  | none => rw [e1] at h; cases h
  | some d =>
    cases e2 : pyN S 20 dy with
    | none => rw [e1, e2] at h; cases h
    | some e =>
      rw [e1, e2] at h
      simp at h
      obtain ⟨a1, a2⟩ := dp_of s 20 dx x d r1 e1
      obtain ⟨b1, b2⟩ := dp_of s 20 dy y e r2 e2
      exact ⟨d, e, a1, b1, shaped_of a2 (by decide), shaped_of b2 (by decide), h.symm⟩
theorem in_ok {S : Store} {H : Hp} {ρ : List Addr} {dx dy : D} {x y : V} {b : Bool} (s : SRep Z.G H ρ S) (r1 : Rep Z.G Z.cc H ρ dx x) (r2 : Rep Z.G Z.cc H ρ dy y) (h : inD S dx dy = some b) :
    ∃ d ds, Dp Z.G.K H x d ∧ SeqAt.shaped d = true ∧ PyData.canLayAll0 ds = true ∧ PyData.depthAll ds ≤ 19 ∧ (Dp Z.G.K H y (.list ds) ∨ Dp Z.G.K H y (.tuple ds)) ∧ b = ds.any fun z => PyData.eqv z d := by
  unfold inD at h
  cases e0 : items dy S with
  | none => rw [e0] at h; cases h
  | some l =>
    rw [e0] at h
    cases e1 : pyN S 20 dx with
    | none => simp only [e1] at h; cases h
    | some d =>
      cases e2 : optAll (l.map (pyN S 19)) with
      | none => simp only [e1, e2] at h; cases h
      | some ds =>
        simp only [e1, e2] at h
        simp at h
        obtain ⟨a1, a2⟩ := dp_of s 20 dx x d r1 e1
        have key : ∀ (vs : List V) (c : Option CC), Reps Z.G c H ρ l vs → DpAll Z.G.K H vs ds ∧ PyData.canLayAll0 ds = true ∧ PyData.depthAll ds ≤ 19 := fun vs c r => dps_of (fun d v p => dp_of s 19 d v p) l vs ds r e2
        cases r2 with
        | @tup a vs m t r =>
          have : m = l := by simpa [items] using e0
          subst this
          obtain ⟨k1, k2, k3⟩ := key vs _ r
          exact ⟨d, ds, a1, shaped_of a2 (by decide), k2, k3, .inr (.tup t.t k1), h.symm⟩
        | @rl a vs m t r =>
          have : m = l := by simpa [items] using e0
          subst this
          obtain ⟨k1, k2, k3⟩ := key vs _ r
          exact ⟨d, ds, a1, shaped_of a2 (by decide), k2, k3, .inl (.lst t.l k1), h.symm⟩
        | @ref n a q =>
          obtain ⟨vs, h1, h2⟩ := lst_at s q (show lstOf S n = some l from e0)
          obtain ⟨k1, k2, k3⟩ := key vs _ h2
          exact ⟨d, ds, a1, shaped_of a2 (by decide), k2, k3, .inl (.lst (.of h1) k1), h.symm⟩
        | _ => simp [items] at e0
theorem room_in {A : Around} {d : PyData} {ds : List PyData} (h : PyData.depthAll ds ≤ 19) (hu : A.units + 64 < cLine) : A.units + 1 + min (PyData.depthAll ds) d.depth < cLine := by
  have := Nat.min_le_left (PyData.depthAll ds) d.depth
  omega
theorem opr_cmp (hK : X.K = Z.G.K) (hu : X.A.units + 64 < cLine) (o : Cop) : OpR X (compareOp o.ast) (r2 Z (cmpop o)) := by
  intro pins s σ H x y v u Q I rx ry q
  obtain ⟨ρ, dx, dy, S, vσ, sr, r1, r2, q⟩ := q
  have intsH : ∀ {g : Int → Int → Bool} {op : CmpOp}, OpR X (compareOp op) (rI0 fun i j => .bl (g i j)) → (∀ dx dy, (∀ i j, dx = .int i → dy = .int j → cmpop o dx dy S = .ok (.bl (g i j)) S) ) → (∃ i j, dx = .int i ∧ dy = .int j) → wpAny (model X.prog X.w) X.A (compareOp op v u) (EP X pins σ Q) X.xe s := by
    rintro g op h1 h2 ⟨i, j, rfl, rfl⟩
    rw [h2 _ _ i j rfl rfl] at q
    cases r1
    cases r2
    exact h1 pins s σ H _ _ v u Q I rx ry ⟨i, j, rfl, rfl, Pst.ok (rel := relD Z) q sr (.bl _)⟩
  have two : (∀ i j, ¬ (dx = .int i ∧ dy = .int j)) ∨ ∃ i j, dx = .int i ∧ dy = .int j := by
    cases dx with
    | int i => cases dy with
      | int j => exact .inr ⟨i, j, rfl, rfl⟩
      | _ => exact .inl fun i j h => by cases h.2
    | _ => exact .inl fun i j h => by cases h.1
  cases o with
  | eq =>
    obtain ⟨b, e, q⟩ := obl_ok q sr
    by_cases hst : ∃ s1 s2, dx = .str s1 ∧ dy = .str s2
    · obtain ⟨s1, s2, rfl, rfl⟩ := hst
      have e : some (decide (s1 = s2)) = some b := e
      cases e
      cases r1
      cases r2
      exact op_eq pins s σ H _ _ v u Q I rx ry ⟨rfl, by rw [dec_str2]; exact q⟩
    obtain ⟨d, e', h1, h2, h3, h4, rfl⟩ := eq_ok sr r1 r2 hst e
    exact op_eqD hu pins s σ H _ _ v u Q I rx ry ⟨d, e', by rw [hK]; exact h1, by rw [hK]; exact h2, h3, h4, q⟩
  | ne =>
    obtain ⟨b, e, q⟩ := obl_ok q sr
    cases e0 : eqD S dx dy with
    | none => rw [e0] at e; cases e
    | some c =>
      rw [e0] at e
      have e : some (!c) = some b := e
      cases e
      by_cases hst : ∃ s1 s2, dx = .str s1 ∧ dy = .str s2
      · obtain ⟨s1, s2, rfl, rfl⟩ := hst
        have e0 : some (decide (s1 = s2)) = some c := e0
        cases e0
        cases r1
        cases r2
        exact op_ne pins s σ H _ _ v u Q I rx ry ⟨rfl, by rw [dec_str2]; exact q⟩
      obtain ⟨d, e', h1, h2, h3, h4, rfl⟩ := eq_ok sr r1 r2 hst e0
      exact op_neD hu pins s σ H _ _ v u Q I rx ry ⟨d, e', by rw [hK]; exact h1, by rw [hK]; exact h2, h3, h4, q⟩
  | lt =>
    rcases two with h | h
    · cases dx <;> cases dy <;> first | exact q.elim | exact absurd ⟨rfl, rfl⟩ (h _ _)
    · exact intsH op_lt (fun dx dy i j a b => by subst a; subst b; rfl) h
  | le =>
    rcases two with h | h
    · cases dx <;> cases dy <;> first | exact q.elim | exact absurd ⟨rfl, rfl⟩ (h _ _)
    · exact intsH op_le (fun dx dy i j a b => by subst a; subst b; rfl) h
  | gt =>
    rcases two with h | h
    · cases dx <;> cases dy <;> first | exact q.elim | exact absurd ⟨rfl, rfl⟩ (h _ _)
    · exact intsH op_gt (fun dx dy i j a b => by subst a; subst b; rfl) h
  | ge =>
    rcases two with h | h
    · cases dx <;> cases dy <;> first | exact q.elim | exact absurd ⟨rfl, rfl⟩ (h _ _)
    · exact intsH op_ge (fun dx dy i j a b => by subst a; subst b; rfl) h
  | is =>
    cases r2 with
    | non =>
      have q : Pst Z vσ (relD Z) H ρ Q (.ok (.bl (match dx with | .non => true | _ => false)) S) := by cases dx <;> exact q
      refine op_isN pins s σ H _ _ v u Q I rx ry ⟨rfl, ?_⟩
      have := Pst.ok (rel := relD Z) q sr (.bl _)
      cases r1 <;> exact this
    | _ => cases dx <;> exact q.elim
  | isnot =>
    cases r2 with
    | non =>
      have q : Pst Z vσ (relD Z) H ρ Q (.ok (.bl (match dx with | .non => false | _ => true)) S) := by cases dx <;> exact q
      refine op_notN pins s σ H _ _ v u Q I rx ry ⟨rfl, ?_⟩
      have := Pst.ok (rel := relD Z) q sr (.bl _)
      cases r1 <;> exact this
    | _ => cases dx <;> exact q.elim
  | in_ =>
    obtain ⟨b, e, q⟩ := obl_ok q sr
    obtain ⟨d, ds, h1, h2, h3, h4, h5, rfl⟩ := in_ok sr r1 r2 e
    rw [← hK] at h1 h5
    obtain ⟨as, k1⟩ := Dp.reads I d x v h1 rx
    rcases h5 with h5 | h5
    · obtain ⟨bs, k2⟩ := Dp.reads I (.list ds) y u h5 ry
      exact SeqAt.in_list_reads k2 k1 h3 (SeqAt.canLay_of_shaped h2) (room_in h4 hu) ⟨.bl _, H, I, rfl, q⟩
    · obtain ⟨bs, k2⟩ := Dp.reads I (.tuple ds) y u h5 ry
      exact SeqAt.in_tuple_reads k2 k1 h3 (SeqAt.canLay_of_shaped h2) (room_in h4 hu) ⟨.bl _, H, I, rfl, q⟩
  | notin =>
    obtain ⟨b, e, q⟩ := obl_ok q sr
    cases e0 : inD S dx dy with
    | none => rw [e0] at e; cases e
    | some c =>
      rw [e0] at e
      have e : some (!c) = some b := e
      cases e
      obtain ⟨d, ds, h1, h2, h3, h4, h5, rfl⟩ := in_ok sr r1 r2 e0
      rw [← hK] at h1 h5
      obtain ⟨as, k1⟩ := Dp.reads I d x v h1 rx
      rcases h5 with h5 | h5
      · obtain ⟨bs, k2⟩ := Dp.reads I (.list ds) y u h5 ry
        exact SeqAt.notIn_list_reads k2 k1 h3 (SeqAt.canLay_of_shaped h2) (room_in h4 hu) ⟨.bl _, H, I, rfl, q⟩
      · obtain ⟨bs, k2⟩ := Dp.reads I (.tuple ds) y u h5 ry
        exact SeqAt.notIn_tuple_reads k2 k1 h3 (SeqAt.canLay_of_shaped h2) (room_in h4 hu) ⟨.bl _, H, I, rfl, q⟩

/-! ### built-ins -/
def Bi.val : Bi → Value
  | .len => .builtin "len" | .int => .type "int" | .abs => .builtin "abs" | .min => .builtin "min" | .max => .builtin "max" | .sum => .builtin "sum" | .all => .builtin "all" | .any => .builtin "any"
  | .list => .type "list" | .tuple => .type "tuple" | .divmod => .builtin "divmod" | .range => .type "range" | .zip => .type "zip" | .enumerate => .type "enumerate" | .sorted => .builtin "sorted" | .repr => .builtin "repr" | .str => .type "str" | .bool => .type "bool"
theorem intsOf_reps {H : Hp} {ρ : List Addr} {c : Option CC} : ∀ {l : List D} {vs : List V} {ns : List Int}, Reps Z.G c H ρ l vs → intsOf l = some ns → vs = ns.map V.int
  | [], vs, ns, r, h => by cases r; simp [intsOf] at h; subst h; rfl
  | d :: l, vs, ns, r, h => by
    cases r with
    | cons r1 r2 =>
      cases d with
      | int i =>
        simp only [intsOf] at h
        cases e : intsOf l with
        | none => rw [e] at h; cases h
        | some ms =>
          rw [e] at h
          simp at h; subst h
          cases r1
          rw [intsOf_reps r2 e]; rfl
      | _ => cases h
theorem blsOf_reps {H : Hp} {ρ : List Addr} {c : Option CC} : ∀ {l : List D} {vs : List V} {ns : List Bool}, Reps Z.G c H ρ l vs → blsOf l = some ns → vs = ns.map V.bl
  | [], vs, ns, r, h => by cases r; simp [blsOf] at h; subst h; rfl
  | d :: l, vs, ns, r, h => by
    cases r with
    | cons r1 r2 =>
      cases d with
      | bl i =>
        simp only [blsOf] at h
        cases e : blsOf l with
        | none => rw [e] at h; cases h
        | some ms =>
          rw [e] at h
          simp at h; subst h
          cases r1
          rw [blsOf_reps r2 e]; rfl
      | _ => cases h
theorem intsOf_len : ∀ {l : List D} {ns : List Int}, intsOf l = some ns → l.length = ns.length
  | [], ns, h => by simp [intsOf] at h; subst h; rfl
  | d :: l, ns, h => by
    cases d with
    | int i =>
      simp only [intsOf] at h
      cases e : intsOf l with
      | none => rw [e] at h; cases h
      | some ms => rw [e] at h; simp at h; subst h; simp [intsOf_len e]
    | _ => cases h
theorem maxI_mem : ∀ l : List Int, l ≠ [] → maxI l ∈ l ∧ ∀ a ∈ l, a ≤ maxI l
  | [], h => absurd rfl h
  | [a], _ => by simp [maxI]
  | a :: b :: r, _ => by
    obtain ⟨h1, h2⟩ := maxI_mem (b :: r) (by simp)
    have e : maxI (a :: b :: r) = max a (maxI (b :: r)) := rfl
    rw [e]
    refine ⟨?_, fun c hc => ?_⟩
    · rcases Int.le_total a (maxI (b :: r)) with h | h
      · rw [Int.max_eq_right h]; exact List.mem_cons_of_mem _ h1
      · rw [Int.max_eq_left h]; exact List.mem_cons_self
    · rcases List.mem_cons.mp hc with rfl | hc
      · exact Int.le_max_left ..
      · exact Int.le_trans (h2 c hc) (Int.le_max_right ..)
theorem minI_mem : ∀ l : List Int, l ≠ [] → minI l ∈ l ∧ ∀ a ∈ l, minI l ≤ a
  | [], h => absurd rfl h
  | [a], _ => by simp [minI]
  | a :: b :: r, _ => by
    obtain ⟨h1, h2⟩ := minI_mem (b :: r) (by simp)
    have e : minI (a :: b :: r) = min a (minI (b :: r)) := rfl
    rw [e]
    refine ⟨?_, fun c hc => ?_⟩
    · rcases Int.le_total a (minI (b :: r)) with h | h
      · rw [Int.min_eq_left h]; exact List.mem_cons_self
      · rw [Int.min_eq_right h]; exact List.mem_cons_of_mem _ h1
    · rcases List.mem_cons.mp hc with rfl | hc
      · exact Int.min_le_left ..
      · exact Int.le_trans (Int.min_le_right ..) (h2 c hc)
theorem items_ok {S : Store} {H : Hp} {ρ : List Addr} {d : D} {v : V} {l : List D} (s : SRep Z.G H ρ S) (r : Rep Z.G Z.cc H ρ d v) (h : items d S = some l) :
    ∃ a vs, v = .ref a ∧ (SqL Z.G.K H a vs ∨ SqT Z.G.K H a vs) ∧ Reps Z.G Z.cc H ρ l vs := by
  cases r with
  | @tup a vs m t r =>
    have : m = l := by simpa [items] using h
    subst this
    exact ⟨a, vs, rfl, .inr t.t, r⟩
  | @rl a vs m t r =>
    have : m = l := by simpa [items] using h
    subst this
    exact ⟨a, vs, rfl, .inl t.l, r⟩
  | @ref n a q =>
    obtain ⟨vs, h1, h2⟩ := lst_at s q (show lstOf S n = some l from h)
    exact ⟨a, vs, rfl, .inl (.of h1), h2.any⟩
  | _ => simp [items] at h
theorem reps1 {H : Hp} {ρ : List Addr} {c : Option CC} {d : D} {vs : List V} (r : Reps Z.G c H ρ [d] vs) : ∃ v, vs = [v] ∧ Rep Z.G c H ρ d v := by
  cases r with
  | cons r1 r2 => cases r2; exact ⟨_, rfl, r1⟩
theorem reps2 {H : Hp} {ρ : List Addr} {c : Option CC} {d e : D} {vs : List V} (r : Reps Z.G c H ρ [d, e] vs) : ∃ v w, vs = [v, w] ∧ Rep Z.G c H ρ d v ∧ Rep Z.G c H ρ e w := by
  cases r with
  | cons r1 r2 => cases r2 with
    | cons r2 r3 => cases r3; exact ⟨_, _, rfl, r1, r2⟩
/-- which built-ins are served -/
def Bi.here : Bi → Bool
  | .len | .int | .abs | .min | .max | .sum | .all | .any | .list | .tuple | .divmod => true
  | _ => false
theorem lst_bind {S : Store} {n : Nat} {γ : Type} {f : List D → Option γ} {c : γ} (h : (lstOf S n).bind f = some c) : ∃ l, lstOf S n = some l ∧ f l = some c := by
  cases e : lstOf S n with
  | none => rw [e] at h; cases h
  | some l => rw [e] at h; exact ⟨l, rfl, h⟩
theorem callr_blt (hK : X.K = Z.G.K) (hc : X.calm = true) (b : Bi) (hb : b.here = true) : CallR X b.val (rL Z (bltD b)) := by
  intro pins s σ H xs us Q I rv q
  obtain ⟨ρ, l, S, vσ, sr, r, q⟩ := q
  cases b with
  | len =>
    cases l with
    | nil => exact q.elim
    | cons d l => cases l with
      | cons _ _ => exact q.elim
      | nil =>
        obtain ⟨v, ev, r1⟩ := reps1 r
        subst ev
        by_cases hs : ∃ x, d = .str x
        · obtain ⟨x, rfl⟩ := hs
          obtain ⟨hz, q⟩ := Pst.when (rel := relD Z) (show Pst Z vσ (relD Z) H ρ Q (R.when (sz x.length) (.ok (.int x.length) S)) from q)
          cases r1
          exact call_len pins s σ H _ us Q I rv ⟨_, _, rfl, ⟨by simpa [sz] using hz, rfl⟩, Pst.ok (rel := relD Z) q sr (.int _)⟩
        · have q : Pst Z vσ (relD Z) H ρ Q (match items d S with | some l => .ok (.int l.length) S | none => .bad) := by
            cases d <;> first | exact q | exact absurd ⟨_, rfl⟩ hs
          cases e : items d S with
          | none => rw [e] at q; exact q.elim
          | some l =>
            rw [e] at q
            obtain ⟨a, vs, rfl, h, r'⟩ := items_ok sr r1 e
            rw [← hK] at h
            refine call_len_seq pins s σ H _ us Q I rv ⟨a, vs, rfl, h, ?_⟩
            rw [← r'.length]
            exact Pst.ok (rel := relD Z) q sr (.int _)
  | int =>
    cases l with
    | nil => exact q.elim
    | cons d l => cases l with
      | cons _ _ => cases d <;> exact q.elim
      | nil =>
        obtain ⟨v, ev, r1⟩ := reps1 r
        subst ev
        cases r1 with
        | int i => exact call_int1 pins s σ H _ us Q I rv (.inl ⟨i, rfl, Pst.ok (rel := relD Z) q sr (.int _)⟩)
        | _ => exact q.elim
  | abs =>
    cases l with
    | nil => exact q.elim
    | cons d l => cases l with
      | cons _ _ => cases d <;> exact q.elim
      | nil =>
        obtain ⟨v, ev, r1⟩ := reps1 r
        subst ev
        cases r1 with
        | int i => exact call_abs pins s σ H _ us Q I rv ⟨i, rfl, Pst.ok (rel := relD Z) q sr (.int _)⟩
        | _ => exact q.elim
  | min =>
    cases l with
    | nil => exact q.elim
    | cons d l => cases l with
      | nil =>
        obtain ⟨v, ev, r1⟩ := reps1 r
        subst ev
        cases r1 with
        | @ref n a e =>
          have q : Pst Z vσ (relD Z) H ρ Q (match (lstOf S n).bind intsOf with | some l => R.when (!l.isEmpty) (.ok (.int (minI l)) S) | none => .bad) := q
          cases h : (lstOf S n).bind intsOf with
          | none => rw [h] at q; exact q.elim
          | some ns =>
            rw [h] at q
            obtain ⟨l, h1, h2⟩ := lst_bind h
            obtain ⟨hz, q⟩ := q.when
            obtain ⟨vs, k1, k2⟩ := lst_at sr e h1
            have := intsOf_reps k2 h2
            subst this
            have hne : ns ≠ [] := by simpa using hz
            refine cr_min hc pins s σ H _ us Q I rv ⟨a, ns, rfl, .of k1, List.length_pos_iff.mpr hne, fun m hm hy => ?_⟩
            have : m = minI ns := Int.le_antisymm (hy _ (minI_mem ns hne).1) ((minI_mem ns hne).2 m hm)
            rw [this]
            exact Pst.ok (rel := relD Z) q sr (.int _)
        | _ => exact q.elim
      | cons d2 l => cases l with
        | cons _ _ => cases d <;> cases d2 <;> exact q.elim
        | nil =>
          obtain ⟨v, w, ev, r1, r'⟩ := reps2 r
          subst ev
          cases r1 with
          | int i => cases r' with
            | int j => exact call_min2 hc pins s σ H _ us Q I rv ⟨i, j, rfl, Pst.ok (rel := relD Z) q sr (.int _)⟩
            | _ => exact q.elim
          | _ => cases r' <;> exact q.elim
  | max =>
    cases l with
    | nil => exact q.elim
    | cons d l => cases l with
      | nil =>
        obtain ⟨v, ev, r1⟩ := reps1 r
        subst ev
        cases r1 with
        | @ref n a e =>
          have q : Pst Z vσ (relD Z) H ρ Q (match (lstOf S n).bind intsOf with | some l => R.when (!l.isEmpty) (.ok (.int (maxI l)) S) | none => .bad) := q
          cases h : (lstOf S n).bind intsOf with
          | none => rw [h] at q; exact q.elim
          | some ns =>
            rw [h] at q
            obtain ⟨l, h1, h2⟩ := lst_bind h
            obtain ⟨hz, q⟩ := q.when
            obtain ⟨vs, k1, k2⟩ := lst_at sr e h1
            have := intsOf_reps k2 h2
            subst this
            have hne : ns ≠ [] := by simpa using hz
            refine cr_max hc pins s σ H _ us Q I rv ⟨a, ns, rfl, .of k1, List.length_pos_iff.mpr hne, fun m hm hy => ?_⟩
            have : m = maxI ns := Int.le_antisymm ((maxI_mem ns hne).2 m hm) (hy _ (maxI_mem ns hne).1)
            rw [this]
            exact Pst.ok (rel := relD Z) q sr (.int _)
        | _ => exact q.elim
      | cons d2 l => cases l with
        | cons _ _ => cases d <;> cases d2 <;> exact q.elim
        | nil =>
          obtain ⟨v, w, ev, r1, r'⟩ := reps2 r
          subst ev
          cases r1 with
          | int i => cases r' with
            | int j => exact call_max2 hc pins s σ H _ us Q I rv ⟨i, j, rfl, Pst.ok (rel := relD Z) q sr (.int _)⟩
            | _ => exact q.elim
          | _ => cases r' <;> exact q.elim
  | sum =>
    cases l with
    | nil => exact q.elim
    | cons d l => cases l with
      | cons _ _ => cases d <;> exact q.elim
      | nil =>
        obtain ⟨v, ev, r1⟩ := reps1 r
        subst ev
        cases r1 with
        | @ref n a e =>
          have q : Pst Z vσ (relD Z) H ρ Q (match (lstOf S n).bind intsOf with | some l => .ok (.int l.sum) S | none => .bad) := q
          cases h : (lstOf S n).bind intsOf with
          | none => rw [h] at q; exact q.elim
          | some ns =>
            rw [h] at q
            obtain ⟨l, h1, h2⟩ := lst_bind h
            obtain ⟨vs, k1, k2⟩ := lst_at sr e h1
            have := intsOf_reps k2 h2
            subst this
            exact cr_sum hc pins s σ H _ us Q I rv ⟨a, ns, rfl, .of k1, Pst.ok (rel := relD Z) q sr (.int _)⟩
        | _ => exact q.elim
  | all =>
    cases l with
    | nil => exact q.elim
    | cons d l => cases l with
      | cons _ _ => cases d <;> exact q.elim
      | nil =>
        obtain ⟨v, ev, r1⟩ := reps1 r
        subst ev
        cases r1 with
        | @ref n a e =>
          have q : Pst Z vσ (relD Z) H ρ Q (match (lstOf S n).bind blsOf with | some l => .ok (.bl (l.all id)) S | none => .bad) := q
          cases h : (lstOf S n).bind blsOf with
          | none => rw [h] at q; exact q.elim
          | some ns =>
            rw [h] at q
            obtain ⟨l, h1, h2⟩ := lst_bind h
            obtain ⟨vs, k1, k2⟩ := lst_at sr e h1
            have := blsOf_reps k2 h2
            subst this
            exact cr_all hc pins s σ H _ us Q I rv ⟨a, ns, rfl, .of k1, Pst.ok (rel := relD Z) q sr (.bl _)⟩
        | _ => exact q.elim
  | any =>
    cases l with
    | nil => exact q.elim
    | cons d l => cases l with
      | cons _ _ => cases d <;> exact q.elim
      | nil =>
        obtain ⟨v, ev, r1⟩ := reps1 r
        subst ev
        cases r1 with
        | @ref n a e =>
          have q : Pst Z vσ (relD Z) H ρ Q (match (lstOf S n).bind blsOf with | some l => .ok (.bl (l.any id)) S | none => .bad) := q
          cases h : (lstOf S n).bind blsOf with
          | none => rw [h] at q; exact q.elim
          | some ns =>
            rw [h] at q
            obtain ⟨l, h1, h2⟩ := lst_bind h
            obtain ⟨vs, k1, k2⟩ := lst_at sr e h1
            have := blsOf_reps k2 h2
            subst this
            exact cr_any hc pins s σ H _ us Q I rv ⟨a, ns, rfl, .of k1, Pst.ok (rel := relD Z) q sr (.bl _)⟩
        | _ => exact q.elim
  | list =>
    cases l with
    | nil => exact q.elim
    | cons d l => cases l with
      | cons _ _ => exact q.elim
      | nil =>
        obtain ⟨v, ev, r1⟩ := reps1 r
        subst ev
        have q : Pst Z vσ (relD Z) H ρ Q (match items d S with | some l => new l S | none => .bad) := q
        cases e : items d S with
        | none => rw [e] at q; exact q.elim
        | some l =>
          rw [e] at q
          obtain ⟨a, vs, rfl, h, r'⟩ := items_ok sr r1 e
          rw [← hK] at h
          exact call_list_of pins s σ H _ us Q I rv ⟨a, vs, rfl, h, (new_ok q sr r').2⟩
  | tuple =>
    cases l with
    | nil => exact q.elim
    | cons d l => cases l with
      | cons _ _ => cases d <;> exact q.elim
      | nil =>
        obtain ⟨v, ev, r1⟩ := reps1 r
        subst ev
        cases r1 with
        | @tup a vs m t r2 => exact call_tuple_of pins s σ H _ us Q I rv ⟨a, vs, rfl, .inr ⟨by rw [hK]; exact t.t, Pst.ok (rel := relD Z) q sr (.tup t r2)⟩⟩
        | @ref n a e =>
          have q : Pst Z vσ (relD Z) H ρ Q (match lstOf S n with | some l => .ok (.tup l) S | none => .bad) := q
          cases h : lstOf S n with
          | none => rw [h] at q; exact q.elim
          | some l =>
            rw [h] at q
            obtain ⟨vs, k1, k2⟩ := lst_at sr e h
            exact call_tuple_of pins s σ H _ us Q I rv ⟨a, vs, rfl, .inl ⟨.of k1, tup_ok q sr k2.any⟩⟩
        | _ => exact q.elim
  | divmod =>
    cases l with
    | nil => exact q.elim
    | cons d l => cases l with
      | nil => cases d <;> exact q.elim
      | cons d2 l => cases l with
        | cons _ _ => cases d <;> cases d2 <;> exact q.elim
        | nil =>
          obtain ⟨v, w, ev, r1, r'⟩ := reps2 r
          subst ev
          cases r1 with
          | int i => cases r' with
            | int j =>
              obtain ⟨hz, q⟩ := Pst.when (rel := relD Z) (show Pst Z vσ (relD Z) H ρ Q (R.when (decide (0 < j) && decide (j < 1073741824)) (.ok (.tup [.int (i / j), .int (i % j)]) S)) from q)
              exact call_divmod pins s σ H _ us Q I rv ⟨i, j, rfl, by simpa [CDiv] using hz, tup_ok q sr (.cons (.int _) (.cons (.int _) .nil))⟩
            | _ => exact q.elim
          | _ => cases r' <;> exact q.elim
  | _ => cases hb
def Bi.isRepr : Bi → Bool
  | .repr => true
  | _ => false
theorem callr_repr (hK : X.K = Z.G.K) (hu : X.A.units + 64 < cLine) (hg : X.A.guards = some []) : CallR X (.builtin "repr") (rL Z (bltD .repr)) := by
  intro pins s σ H xs us Q I r q
  obtain ⟨ρ, l, S, vσ, sr, rl, q⟩ := q
  cases l with
  | nil => exact q.elim
  | cons x l => cases l with
    | cons _ _ => exact q.elim
    | nil =>
      obtain ⟨v, rfl, r1⟩ := reps1 rl
      obtain ⟨u, rfl, ru⟩ := vals1 r
      have q : Pst Z vσ (relD Z) H ρ Q (match isSq x, pyN S 20 x with
        | true, some d => R.when (PyData.showable d && !PyData.hasDict d && decide ((PyData.shown d).length ≤ sizeLine)) (.ok (.str (PyData.shown d)) S)
        | _, _ => .bad) := q
      cases hs : isSq x with
      | false => rw [hs] at q; exact q.elim
      | true =>
        cases hp : pyN S 20 x with
        | none => rw [hs, hp] at q; exact q.elim
        | some d =>
          rw [hs, hp] at q
          dsimp only at q
          obtain ⟨hb, q⟩ := q.when
          simp only [Bool.and_eq_true, Bool.not_eq_true', decide_eq_true_eq] at hb
          obtain ⟨a1, a2⟩ := dp_of sr 20 x v d r1 hp
          rw [← hK] at a1
          obtain ⟨as, k1⟩ := Dp.reads I d v u a1 ru
          have hv : ∃ a, u = .ref a := by
            cases r1 <;> first | (cases hs; done) | (cases ru; exact ⟨_, rfl⟩)
          obtain ⟨a, rfl⟩ := hv
          exact repr_of_reads' k1 hb.1.1 (fun e => by rw [hb.1.2] at e; cases e) hg (by have := a2.2; omega) (fun _ _ e => e) (fun h' u tk hk => ⟨.str (PyData.shown d), H, I.kept (h' := h') (t' := tk) hk, ⟨_, rfl⟩, Pst.ok (rel := relD Z) q sr (.str _)⟩) hb.2
theorem callr_any (hK : X.K = Z.G.K) (hc : X.calm = true) (hu : X.A.units + 64 < cLine) (hg : X.A.guards = some []) (b : Bi) (hb : (b.here || b.isRepr) = true) : CallR X b.val (rL Z (bltD b)) := by
  cases h : b.here with
  | true => exact callr_blt hK hc b h
  | false =>
    rw [h] at hb
    cases b <;> first | exact callr_repr hK hu hg | cases hb
end
end Ev
set_option Elab.async false
set_option linter.all false
set_option maxRecDepth 100000
set_option maxHeartbeats 1000000
/-! Ev5: methods, subscripts, isinstance; the rules for expressions. -/
namespace Ev
open PySem PySem.Spec PyProof.Rows L2
section
variable {Z : Se} {X : Cx}
/-! ### places -/
theorem atD_atI {l : List D} {vs : List V} {H : Hp} {ρ : List Addr} {c : Option CC} {i : Int} {d : D} (r : Reps Z.G c H ρ l vs) (h : atD l i = some d) : ∃ v, atI vs i = some v ∧ Rep Z.G c H ρ d v := by
  have e := r.length
  unfold atD at h
  unfold atI ixN
  by_cases h0 : 0 ≤ i
  · simp only [h0, if_true] at h ⊢
    obtain ⟨v, h1, h2⟩ := r.get h
    have hl : i.toNat < vs.length := (List.getElem?_eq_some_iff.mp h1).1
    have hi : i < (vs.length : Int) := by omega
    simp only [hi, if_true, Option.bind_some]
    exact ⟨v, h1, h2⟩
  · simp only [h0, if_false] at h ⊢
    rw [e] at h
    by_cases h1 : -(vs.length : Int) ≤ i
    · simp only [h1, if_true] at h ⊢
      simp only [Option.bind_some]
      exact r.get h
    · simp only [h1, if_false] at h
      cases h
theorem clip_sIx (n d : Nat) (o : Option Int) : clip n d o = HT.sIx n d o := by
  cases o <;> rfl
theorem cut_reps {l : List D} {vs : List V} {H : Hp} {ρ : List Addr} {c : Option CC} (r : Reps Z.G c H ρ l vs) (lo hi : Option Int) : Reps Z.G c H ρ (cutD l lo hi) (cutV vs lo hi) := by
  unfold cutD cutV
  rw [r.length, clip_sIx, clip_sIx]
  exact (r.drop _).take _
theorem ixr_sub (hK : X.K = Z.G.K) : IxR X (r2 Z subD) := by
  intro value slice pins s σ H x y v u Q I rx ry q hs
  obtain ⟨ρ, dx, dy, S, vσ, sr, r1, r2, q⟩ := q
  cases r2 with
  | int i =>
    have q : Pst Z vσ (relD Z) H ρ Q (match (items dx S).bind (atD · i) with | some d => .ok d S | none => .bad) := q
    cases e : (items dx S).bind (atD · i) with
    | none => rw [e] at q; exact q.elim
    | some d =>
      rw [e] at q
      cases e0 : items dx S with
      | none => rw [e0] at e; cases e
      | some l =>
        rw [e0] at e
        obtain ⟨a, vs, rfl, h, r'⟩ := items_ok sr r1 e0
        obtain ⟨w, h1, h2⟩ := atD_atI r' (show atD l i = some d from e)
        rw [← hK] at h
        rcases h with h | h
        · exact ix_list value slice pins s σ H _ _ v u Q I rx ry ⟨a, vs, i, w, rfl, rfl, h, h1, Pst.ok (rel := relD Z) q sr h2⟩ hs
        · exact ix_tup value slice pins s σ H _ _ v u Q I rx ry ⟨a, vs, i, w, rfl, rfl, h, h1, Pst.ok (rel := relD Z) q sr h2⟩ hs
  | _ => exact q.elim
def rSl (Z : Se) : V → Option Int → Option Int → Hp → VK → Prop := fun x lo hi H Q => ∃ ρ dx S vσ, SRep Z.G H ρ S ∧ Rep Z.G Z.cc H ρ dx x ∧ Pst Z vσ (relD Z) H ρ Q (slD dx lo hi S)
theorem slr_sl (hK : X.K = Z.G.K) : SlR X (rSl Z) := by
  intro pins s σ H x v vl vu lo hi sl Q I rx hsl pl pu q
  obtain ⟨ρ, dx, S, vσ, sr, r1, q⟩ := q
  cases r1 with
  | @tup a vs l t r =>
    refine sl_tupA pins s σ H _ v vl vu lo hi sl Q I rx hsl pl pu ⟨a, vs, rfl, by rw [hK]; exact t.t, fun hw => ?_, fun _ => tup_ok q sr (cut_reps r lo hi)⟩
    have e : cutD l lo hi = l := by
      unfold cutD
      rw [r.length, clip_sIx, clip_sIx, hw.1, hw.2, List.drop_zero, Nat.sub_zero, ← r.length, List.take_length]
    have q : Pst Z vσ (relD Z) H ρ Q (.ok (.tup (cutD l lo hi)) S) := q
    rw [e] at q
    exact Pst.ok (rel := relD Z) q sr (.tup t r)
  | @rl a vs l t r =>
    have q : Pst Z vσ (relD Z) H ρ Q (new (cutD l lo hi) S) := q
    exact sl_list pins s σ H _ v vl vu lo hi sl Q I rx hsl pl pu ⟨a, vs, rfl, by rw [hK]; exact t.l, (new_ok q sr (cut_reps r lo hi)).2⟩
  | @ref n a e =>
    have q : Pst Z vσ (relD Z) H ρ Q (match lstOf S n with | some l => new (cutD l lo hi) S | none => .bad) := q
    cases h : lstOf S n with
    | none => rw [h] at q; exact q.elim
    | some l =>
      rw [h] at q
      obtain ⟨vs, k1, k2⟩ := lst_at sr e h
      exact sl_list pins s σ H _ v vl vu lo hi sl Q I rx hsl pl pu ⟨a, vs, rfl, .of k1, (new_ok q sr (cut_reps k2.any lo hi)).2⟩
  | _ => exact q.elim

/-! ### methods -/
def Mt.name : Mt → Str
  | .append => "append" | .index => "index" | .count => "count" | .extend => "extend" | .get => "get" | .items => "items" | .values => "values" | .join => "join" | .upper => "upper"
def rM (Z : Se) (m : Mt) : V → List V → Hp → VK → Prop := fun x xs H Q => ∃ ρ d l S vσ, SRep Z.G H ρ S ∧ Rep Z.G Z.cc H ρ d x ∧ Reps Z.G Z.cc H ρ l xs ∧ Pst Z vσ (relD Z) H ρ Q (methD m d l S)
theorem mtr_append : MtR X "list.append" (rM Z .append) := by
  intro pins s σ H x xs v us Q I rx rxs q
  obtain ⟨ρ, d, l, S, vσ, sr, r1, r2, q⟩ := q
  cases l with
  | nil => cases r1 <;> exact q.elim
  | cons e l => cases l with
    | cons _ _ => cases r1 <;> exact q.elim
    | nil =>
      obtain ⟨w, ew, r3⟩ := reps1 r2
      subst ew
      cases r1 with
      | @ref n a h =>
        have q : Pst Z vσ (relD Z) H ρ Q (match lstOf S n with | some l => R.when (sz (l.length + 1) && D.flat e) (.ok .non (S.set n (.lst (l ++ [e])))) | none => .bad) := q
        cases h1 : lstOf S n with
        | none => rw [h1] at q; exact q.elim
        | some l =>
          rw [h1] at q
          obtain ⟨hz, q⟩ := q.when
          simp [sz] at hz
          obtain ⟨vs, k1, k2⟩ := lst_at sr h h1
          have el := k2.length
          have r4 := r3.flat hz.2
          exact mt_append pins s σ H _ _ v us Q I rx rxs ⟨a, vs, w, rfl, rfl, k1, by omega, q.okN (HX.put k1 rfl) (PX.refl ρ) (sr.put h k1 (k2.append (.cons r4 .nil))) .non⟩
      | _ => exact q.elim
/-! ### the rules -/
theorem kit_all (a b : String) (ha : a ∈ ["NoneType", "bool", "int", "str", "tuple", "list"]) (hb : b ∈ ["int", "bool", "tuple", "str", "list"]) : kitB a b = some (isTy a b) := by
  have key : (["NoneType", "bool", "int", "str", "tuple", "list"].all fun a => ["int", "bool", "tuple", "str", "list"].all fun b => decide (kitB a b = some (isTy a b))) = true := by decide +kernel
  exact of_decide_eq_true (List.all_eq_true.mp (List.all_eq_true.mp key a ha) b hb)
theorem ty_of {H : Hp} {ρ : List Addr} {S : Store} {d : D} {v : V} {t : String} (s : SRep Z.G H ρ S) (r : Rep Z.G Z.cc H ρ d v) (h : tyOf d = some t) (hl : ∀ n, d = .ref n → ∃ l, lstOf S n = some l) :
    TyX Z.G.K H v (.type t) ∧ t ∈ ["NoneType", "bool", "int", "str", "tuple", "list"] := by
  cases r with
  | non => cases h; exact ⟨.base .non, by simp⟩
  | bl b => cases h; exact ⟨.base (.bl b), by simp⟩
  | int i => cases h; exact ⟨.base (.int i), by simp⟩
  | str x => cases h; exact ⟨.base (.str x), by simp⟩
  | @tup a vs l t r =>
    cases h
    rcases t with t | ⟨o, its, n, h1, h2, h3, _⟩
    · exact ⟨.base (.tup t), by simp⟩
    · exact ⟨.kTuple h1 h2, by simp⟩
  | @rl a vs l t r =>
    cases h
    rcases t with ⟨o, t⟩ | ⟨o, its, n, h1, h2, _⟩
    · exact ⟨.base (.frz t), by simp⟩
    · exact ⟨.kList h1 h2, by simp⟩
  | @ref n a e =>
    cases h
    obtain ⟨l, hl⟩ := hl n rfl
    obtain ⟨vs, k1, _⟩ := lst_at s e hl
    exact ⟨.base (.lst k1), by simp⟩
  | _ => cases h
variable {a b c : Expr} {fa fb fc : List D → Store → R D} {pos : Pos}
theorem p_bin (hK : X.K = Z.G.K) (o : Bop) (ha : PE X a (tv Z fa)) (hb : PE X b (tv Z fb)) : PE X (.BinOp a o.ast b pos) (tv Z fun σ S => (fa σ S).bind fun x S => (fb σ S).bind fun y S => binop o x y S) :=
  imp_PE (pe_op (opr_bin hK o) ha hb) fun vσ H Q q => by
    obtain ⟨ρ, σ, S, r, s, q⟩ := two q
    exact ⟨ρ, σ, S, r, s, q.imp fun x H1 q => by
      obtain ⟨ρ, σ, S, r, s, q⟩ := q
      exact ⟨ρ, σ, S, r, s, q.imp fun y H2 ⟨ρ, dx, dy, S, s, r1, r2, q⟩ => ⟨ρ, dx, dy, S, vσ, s, r1, r2, q⟩⟩⟩
theorem imp_tv {f : List D → Store → R D} {vσ : L2.St} {H : Hp} {Q Q' : VK} (q : tv Z f vσ H Q) (k : ∀ v H', Q v H' → Q' v H') : tv Z f vσ H Q' := by
  obtain ⟨ρ, σ, S, r, s, q⟩ := q
  exact ⟨ρ, σ, S, r, s, q.imp k⟩
theorem p_sub (hK : X.K = Z.G.K) (hs : PlainIx b) (ha : PE X a (tv Z fa)) (hb : PE X b (tv Z fb)) : PE X (.Subscript a b pos) (tv Z fun σ S => (fa σ S).bind fun x S => (fb σ S).bind fun y S => subD x y S) :=
  imp_PE (pe_ix (ixr_sub hK) ha hb hs) fun vσ H Q q =>
    imp_tv (two q) fun x H1 q => imp_tv q fun y H2 ⟨ρ, dx, dy, S, s, r1, r2, q⟩ => ⟨ρ, dx, dy, S, vσ, s, r1, r2, q⟩
theorem p_cmp (hK : X.K = Z.G.K) (hu : X.A.units + 64 < cLine) (o : Cop) (hm : behindInMarks o.ast b = false) (ha : PE X a (tv Z fa)) (hb : PE X b (tv Z fb)) : PE X (.Compare a [o.ast] [b] pos) (tv Z fun σ S => (fa σ S).bind fun x S => (fb σ S).bind fun y S => cmpop o x y S) :=
  imp_PE (pe_cmpR (opr_cmp hK hu o) ha hb hm) fun vσ H Q q =>
    imp_tv (two q) fun x H1 q => imp_tv q fun y H2 ⟨ρ, dx, dy, S, s, r1, r2, q⟩ => ⟨ρ, dx, dy, S, vσ, s, r1, r2, q⟩
theorem cmp_bl (o : Cop) (x y : D) (S : Store) : cmpop o x y S = .bad ∨ ∃ b, cmpop o x y S = .ok (.bl b) S := by
  have ob : ∀ o : Option Bool, obl o S = .bad ∨ ∃ b, obl o S = .ok (.bl b) S := fun o => by
    cases o with
    | none => exact .inl rfl
    | some b => exact .inr ⟨b, rfl⟩
  cases o with
  | eq => exact ob _
  | ne => exact ob _
  | in_ => exact ob _
  | notin => exact ob _
  | is => cases x <;> cases y <;> first | exact .inl rfl | exact .inr ⟨_, rfl⟩
  | isnot => cases x <;> cases y <;> first | exact .inl rfl | exact .inr ⟨_, rfl⟩
  | _ => cases x <;> cases y <;> first | exact .inl rfl | exact .inr ⟨_, rfl⟩
/-- a truth value asked as such -/
theorem q_bl {f : List D → Store → R D} {vσ : L2.St} {H : Hp} {Q : Bool → Hp → Prop} (q : tvB Z (fun σ S => toB (f σ S)) vσ H Q) : tv Z f vσ H fun x H' => ∃ k, x = .bl k ∧ Q k H' := by
  obtain ⟨ρ, σ, S, r, s, q⟩ := q
  refine ⟨ρ, σ, S, r, s, ?_⟩
  dsimp only at q
  cases e : f σ S with
  | bad => rw [e] at q; exact q.elim
  | ex c l S1 => rw [e] at q; exact q
  | ok d S1 =>
    rw [e] at q
    cases d with
    | bl b => exact fun v H' ρ' e p s r => by cases r; exact ⟨b, rfl, Pst.okN (rel := relE) q e p s rfl⟩
    | _ => exact q.elim
theorem t_cmp (hK : X.K = Z.G.K) (hu : X.A.units + 64 < cLine) (o : Cop) (hm : behindInMarks o.ast b = false) (ha : PE X a (tv Z fa)) (hb : PE X b (tv Z fb)) : PT X (.Compare a [o.ast] [b] pos) (tvB Z fun σ S => toB ((fa σ S).bind fun x S => (fb σ S).bind fun y S => cmpop o x y S)) :=
  imp_PT (pt_cmpR (opr_cmp hK hu o) ha hb hm) fun vσ H Q q =>
    imp_tv (two (q_bl q)) fun x H1 q => imp_tv q fun y H2 ⟨ρ, dx, dy, S, s, r1, r2, q⟩ => ⟨ρ, dx, dy, S, vσ, s, r1, r2, q⟩
/-- what a two-fold comparison reads -/
theorem chain_q {o p : Cop} {vσ : L2.St} {H : Hp} {Q : VK}
    (q : tv Z (fun σ S => (fa σ S).bind fun x S => (fb σ S).bind fun y S => (toB (cmpop o x y S)).bind fun r S => match r with
      | true => (fc σ S).bind fun z S => cmpop p y z S
      | false => .ok (.bl false) S) vσ H Q) : tChain (r2 Z (cmpop o)) (r2 Z (cmpop p)) (tv Z fa) (tv Z fb) (tv Z fc) vσ H Q := by
  obtain ⟨ρ, σ, S, r, s, q⟩ := q
  refine ⟨ρ, σ, S, r, s, (PostG.bind (rel := relD Z) q).imp ?_⟩
  rintro x H1 ⟨ρ1, dx, S1, e1, p1, s1, r1, q1⟩
  refine ⟨ρ1, σ, S1, r.mono e1 p1, s1, (PostG.bind (rel := relD Z) q1).imp ?_⟩
  rintro y H2 ⟨ρ2, dy, S2, e2, p2, s2, r2, q2⟩
  refine ⟨ρ2, dx, dy, S2, vσ, s2, Rep.mono e2 p2 r1, r2, ?_⟩
  rcases cmp_bl o dx dy S2 with h | ⟨k, h⟩
  · rw [h] at q2; exact q2.elim
  · rw [h] at q2 ⊢
    intro v H3 ρ3 e3 p3 s3 r3
    cases r3
    refine ⟨k, rfl, ?_⟩
    cases k with
    | false =>
      rw [if_neg (by decide)]
      exact Pst.okN (rel := relD Z) (show Pst Z vσ (relD Z) H2 ρ2 Q (.ok (.bl false) S2) from q2) e3 p3 s3 (.bl _)
    | true =>
      rw [if_pos rfl]
      have q2 : Pst Z vσ (relD Z) H2 ρ2 Q ((fc σ S2).bind fun z S => cmpop p dy z S) := q2
      refine ⟨ρ3, σ, S2, (r.mono e1 p1).mono (e2.trans e3) (p2.trans p3), s3, (PostG.bind (rel := relD Z) (q2.mono e3 p3)).imp ?_⟩
      rintro z H4 ⟨ρ4, dz, S4, e4, p4, s4, r4, q4⟩
      exact ⟨ρ4, dy, dz, S4, vσ, s4, Rep.mono (e3.trans e4) (p3.trans p4) r2, r4, q4⟩
theorem p_cmp2 (hK : X.K = Z.G.K) (hu : X.A.units + 64 < cLine) (o p : Cop) (hm : lastMarks [o.ast, p.ast] [b, c] = false) (ha : PE X a (tv Z fa)) (hb : PE X b (tv Z fb)) (hc : PE X c (tv Z fc)) :
    PE X (.Compare a [o.ast, p.ast] [b, c] pos) (tv Z fun σ S => (fa σ S).bind fun x S => (fb σ S).bind fun y S => (toB (cmpop o x y S)).bind fun r S => match r with
      | true => (fc σ S).bind fun z S => cmpop p y z S
      | false => .ok (.bl false) S) :=
  imp_PE (pe_chain (opr_cmp hK hu o) (opr_cmp hK hu p) ha hb hc hm) fun vσ H Q q => chain_q q
theorem t_cmp2 (hK : X.K = Z.G.K) (hu : X.A.units + 64 < cLine) (o p : Cop) (hm : lastMarks [o.ast, p.ast] [b, c] = false) (ha : PE X a (tv Z fa)) (hb : PE X b (tv Z fb)) (hc : PE X c (tv Z fc)) :
    PT X (.Compare a [o.ast, p.ast] [b, c] pos) (tvB Z fun σ S => toB ((fa σ S).bind fun x S => (fb σ S).bind fun y S => (toB (cmpop o x y S)).bind fun r S => match r with
      | true => (fc σ S).bind fun z S => cmpop p y z S
      | false => .ok (.bl false) S)) :=
  imp_PT (pt_chain (opr_cmp hK hu o) (opr_cmp hK hu p) ha hb hc hm) fun vσ H Q q => chain_q (q_bl q)
/-- a test, then one of two -/
theorem then_q {ft : List D → Store → R Bool} {α β : Type} {rel : Hp → List Addr → α → β → Prop} {g h : List D → Store → R α} {vσ : L2.St} {H : Hp} {Q : β → Hp → Prop}
    (q : tvG Z rel (fun σ S => (ft σ S).bind fun t S => match t with | true => g σ S | false => h σ S) vσ H Q) :
    tvB Z ft vσ H fun k H1 => if k = true then tvG Z rel g vσ H1 Q else tvG Z rel h vσ H1 Q := by
  obtain ⟨ρ, σ, S, r, s, q⟩ := q
  refine ⟨ρ, σ, S, r, s, (PostG.bind (rel := relE) q).imp ?_⟩
  rintro k H1 ⟨ρ1, t, S1, e1, p1, s1, rfl, q1⟩
  cases k with
  | true => rw [if_pos rfl]; exact ⟨ρ1, σ, S1, r.mono e1 p1, s1, q1⟩
  | false => rw [if_neg (by decide)]; exact ⟨ρ1, σ, S1, r.mono e1 p1, s1, q1⟩
theorem p_ifx {ft : List D → Store → R Bool} (hc : PT X c (tvB Z ft)) (ha : PE X a (tv Z fa)) (hb : PE X b (tv Z fb)) : PE X (.IfExp c a b pos) (tv Z fun σ S => (ft σ S).bind fun t S => match t with | true => fa σ S | false => fb σ S) :=
  imp_PE (pe_ifExp hc ha hb) fun vσ H Q q => then_q q
theorem bl_const {vσ : L2.St} {H : Hp} {Q : VK} {b : Bool} (q : tv Z (fun _ S => .ok (.bl b) S) vσ H Q) : Q (.bl b) H := by
  obtain ⟨ρ, σ, S, r, s, q⟩ := q
  exact Pst.ok (rel := relD Z) q s (.bl b)
theorem bl_constB {vσ : L2.St} {H : Hp} {Q : Bool → Hp → Prop} {b : Bool} (q : tvB Z (fun _ S => .ok b S) vσ H Q) : Q b H := by
  obtain ⟨ρ, σ, S, r, s, q⟩ := q
  exact Pst.ok (rel := relE) q s rfl
theorem then_v {f : List D → Store → R D} {α β : Type} {rel : Hp → List Addr → α → β → Prop} {g h : List D → Store → R α} {vσ : L2.St} {H : Hp} {Q : β → Hp → Prop}
    (q : tvG Z rel (fun σ S => (toB (f σ S)).bind fun t S => match t with | true => g σ S | false => h σ S) vσ H Q) :
    tv Z f vσ H fun x H1 => ∃ k, x = .bl k ∧ if k = true then tvG Z rel g vσ H1 Q else tvG Z rel h vσ H1 Q := q_bl (then_q q)
variable {rest : List Expr}
theorem p_and (ha : PE X a (tv Z fa)) (hb : PE X (.BoolOp .And (b :: rest) pos) (tv Z fb)) : PE X (.BoolOp .And (a :: b :: rest) pos) (tv Z fun σ S => (toB (fa σ S)).bind fun t S => match t with | true => fb σ S | false => .ok (.bl false) S) :=
  imp_PE (pe_and ha hb) fun vσ H Q q => imp_tv (then_v q) fun x H1 ⟨k, e, q⟩ => ⟨k, e, by
    cases k with
    | true => rw [if_pos rfl] at q ⊢; exact q
    | false => rw [if_neg (by decide)] at q ⊢; exact bl_const q⟩
theorem p_or (ha : PE X a (tv Z fa)) (hb : PE X (.BoolOp .Or (b :: rest) pos) (tv Z fb)) : PE X (.BoolOp .Or (a :: b :: rest) pos) (tv Z fun σ S => (toB (fa σ S)).bind fun t S => match t with | true => .ok (.bl true) S | false => fb σ S) :=
  imp_PE (pe_or ha hb) fun vσ H Q q => imp_tv (then_v q) fun x H1 ⟨k, e, q⟩ => ⟨k, e, by
    cases k with
    | true => rw [if_pos rfl] at q ⊢; exact bl_const q
    | false => rw [if_neg (by decide)] at q ⊢; exact q⟩
theorem p_not (ha : PE X a (tv Z fa)) : PE X (.UnaryOp .Not a pos) (tv Z fun σ S => (toB (fa σ S)).bind fun t S => .ok (.bl (!t)) S) :=
  imp_PE (pe_not ha) fun vσ H Q q => by
    have q' : tv Z (fun σ S => (toB (fa σ S)).bind fun t S => match t with | true => .ok (.bl false) S | false => .ok (.bl true) S) vσ H Q := by
      obtain ⟨ρ, σ, S, r, s, q⟩ := q
      refine ⟨ρ, σ, S, r, s, ?_⟩
      dsimp only at q ⊢
      cases e : toB (fa σ S) with
      | ok b S1 => rw [e] at q; cases b <;> exact q
      | ex c l S1 => rw [e] at q; exact q
      | bad => rw [e] at q; exact q
    refine imp_tv (then_v q') fun x H1 ⟨k, e, q⟩ => ⟨k, e, ?_⟩
    cases k with
    | true => rw [if_pos rfl] at q; exact bl_const q
    | false => rw [if_neg (by decide)] at q; exact bl_const q
variable {ta tb : List D → Store → R Bool}
theorem t_and (ha : PT X a (tvB Z ta)) (hb : PW X (.BoolOp .And (b :: rest) pos) (tvB Z tb)) : PW X (.BoolOp .And (a :: b :: rest) pos) (tvB Z fun σ S => (ta σ S).bind fun t S => match t with | true => tb σ S | false => .ok false S) := by
  refine ⟨fun whole pins s σ H Q I q => (pw_and ha hb).run whole pins s σ H Q I ?_⟩
  obtain ⟨ρ, σ, S, r, s, q⟩ := then_q q
  exact ⟨ρ, σ, S, r, s, q.imp fun k H1 q => by
    cases k with
    | true => rw [if_pos rfl] at q ⊢; exact q
    | false => rw [if_neg (by decide)] at q ⊢; exact bl_constB q⟩
theorem t_or (ha : PT X a (tvB Z ta)) (hb : PW X (.BoolOp .Or (b :: rest) pos) (tvB Z tb)) : PW X (.BoolOp .Or (a :: b :: rest) pos) (tvB Z fun σ S => (ta σ S).bind fun t S => match t with | true => .ok true S | false => tb σ S) := by
  refine ⟨fun whole pins s σ H Q I q => (pw_or ha hb).run whole pins s σ H Q I ?_⟩
  obtain ⟨ρ, σ, S, r, s, q⟩ := then_q q
  exact ⟨ρ, σ, S, r, s, q.imp fun k H1 q => by
    cases k with
    | true => rw [if_pos rfl] at q ⊢; exact bl_constB q
    | false => rw [if_neg (by decide)] at q ⊢; exact q⟩
theorem t_not (ha : PT X a (tvB Z ta)) : PT X (.UnaryOp .Not a pos) (tvB Z fun σ S => (ta σ S).bind fun t S => .ok (!t) S) :=
  imp_PT (pt_not ha) fun vσ H Q q => by
    obtain ⟨ρ, σ, S, r, s, q⟩ := q
    refine ⟨ρ, σ, S, r, s, (PostG.bind (rel := relE) q).imp ?_⟩
    rintro k H1 ⟨ρ1, t, S1, e1, p1, s1, rfl, q1⟩
    exact Pst.ok (rel := relE) q1 s1 rfl
/-- a conditional expression as a test -/
theorem pt_ifx {c a b : Expr} {tA tB tC : TT} (hc : PT X c tC) (ha : PT X a tA) (hb : PT X b tB) : PT X (.IfExp c a b pos) (fun σ H Q => tC σ H fun k H1 => if k = true then tA σ H1 Q else tB σ H1 Q) := by
  refine ⟨fun pins s σ H Q I h => ?_⟩
  show wpAny _ _ (do if ← isTrue c X.env (eval c X.env) then isTrue a X.env (eval a X.env) else isTrue b X.env (eval b X.env)) _ _ s
  refine wpAny_bind (wpAny_mono (hc.run pins s σ H _ I h) (fun k s1 ⟨H1, I1, q1⟩ => ?_) fun _ _ x => x)
  cases k with
  | true => rw [if_pos rfl] at q1; rw [if_pos rfl]; exact ha.run pins s1 σ H1 Q I1 q1
  | false => rw [if_neg (by decide)] at q1; rw [if_neg (by decide)]; exact hb.run pins s1 σ H1 Q I1 q1
theorem t_ifx {ft : List D → Store → R Bool} (hc : PT X c (tvB Z ft)) (ha : PT X a (tvB Z ta)) (hb : PT X b (tvB Z tb)) : PT X (.IfExp c a b pos) (tvB Z fun σ S => (ft σ S).bind fun t S => match t with | true => ta σ S | false => tb σ S) :=
  imp_PT (pt_ifx hc ha hb) fun vσ H Q q => then_q q
theorem p_neg (ha : PE X a (tv Z fa)) : PE X (.UnaryOp .USub a pos) (tv Z fun σ S => (fa σ S).bind fun x S => match x with | .int i => .ok (.int (-i)) S | _ => .bad) :=
  imp_PE (pe_un un_neg ha) fun vσ H Q q => imp_tv (one q) fun x H1 ⟨ρ, dx, S, s, r, q⟩ => by
    cases r with
    | int i => exact ⟨i, rfl, Pst.ok (rel := relD Z) q s (.int _)⟩
    | _ => exact q.elim
end
end Ev
set_option Elab.async false
set_option linter.all false
set_option maxRecDepth 100000
set_option maxHeartbeats 4000000
namespace Ev
open PySem PySem.Spec PyProof.Rows L2 HT
theorem adj_rev (n : Nat) : Builtin.Slice.sliceAdjust none none (-1) (n : Int) = ((n : Int) - 1, -1) := by
  unfold Builtin.Slice.sliceAdjust
  simp
theorem places_rev (n : Nat) : Builtin.Slice.slicePlaces ((n : Int) - 1) (-1) (-1) = n := by
  unfold Builtin.Slice.slicePlaces
  rw [if_neg (by decide)]
  have e : (- -1 : Int) = 1 := by decide
  rw [e, Int.ediv_one]
  split <;> omega
theorem fm_congr {α β : Type} {f g : α → Option β} : ∀ {l : List α}, (∀ a ∈ l, f a = g a) → l.filterMap f = l.filterMap g
  | [], _ => rfl
  | a :: l, h => by
    rw [List.filterMap_cons, List.filterMap_cons, h a (by simp), fm_congr fun b hb => h b (by simp [hb])]
theorem pick_rev (xs : Array Value) : ((List.range xs.size).filterMap fun (k : Nat) => xs[(((xs.size : Int) - 1) + (k : Int) * (-1)).toNat]?).toArray = xs.toList.reverse.toArray := by
  have h := PySem.W.krv_pick xs
  unfold slicePick at h
  rw [PySem.W.krv_bounds] at h
  have h : ((sliceRange ((xs.size : Int) - 1) (-1) (-1)).filterMap (xs[·]?)).toArray = xs.toList.reverse.toArray := h
  rw [← h, PySem.W.krv_sliceRange, List.filterMap_map]
  refine congrArg List.toArray (fm_congr fun k hk => ?_)
  have := List.mem_range.mp hk
  have e : (((xs.size : Int) - 1) + (k : Int) * (-1)).toNat = xs.size - 1 - k := by omega
  rw [e]; rfl
section
variable {prog : Program} {w : World} {A : Around} {E : Value → Shared → Prop} {s : Shared}
theorem sliceApplied_rev {sl : Addr} {vl vu vs : Value} {n : Nat} {Q : Int × Int × Nat → Shared → Prop} (hs : s.heap.IsSliceOf sl vl vu vs) (pl : IsPart vl none) (pu : IsPart vu none) (ps : IsPart vs (some (-1)))
    (h : Q ((n : Int) - 1, -1, n) s) : wpAny (model prog w) A (Builtin.Slice.sliceApplied (.ref sl) (pure (n : Int))) Q E s := by
  obtain ⟨os, hos, hcs, hds⟩ := id hs
  unfold Builtin.Slice.sliceApplied Builtin.Slice.sliceFields
  refine wpAny_bind (wpAny_bind (wpAny_field hos hds (x := vl) rfl (wpAny_bind (wpAny_field hos hds (x := vu) rfl (wpAny_bind (wpAny_field hos hds (x := vs) rfl (wpAny_pure ?_)))))))
  refine wpAny_bind (slicePart_ ps ?_)
  show wpAny _ _ (if ((-1 : Int) == 0) = true then _ else _) _ _ s
  rw [if_neg (by decide)]
  refine wpAny_bind (slicePart_ pl (wpAny_bind (slicePart_ pu (wpAny_bind (wpAny_pure ?_)))))
  show wpAny _ _ (match Builtin.Slice.sliceAdjust none none (-1) (n : Int) with | (lo, hi) => pure (lo, (-1 : Int), Builtin.Slice.slicePlaces lo hi (-1))) _ _ s
  rw [adj_rev n]
  show wpAny _ _ (pure ((n : Int) - 1, (-1 : Int), Builtin.Slice.slicePlaces ((n : Int) - 1) (-1) (-1))) _ _ s
  rw [places_rev]
  exact wpAny_pure h
theorem getItem_tuple_rev {t sl : Addr} {items : Array Value} {vl vu vs : Value} {Q : Value → Shared → Prop} (ht : IsTup s.heap t items) (hs : s.heap.IsSliceOf sl vl vu vs) (pl : IsPart vl none) (pu : IsPart vu none) (ps : IsPart vs (some (-1)))
    (h : Q (.ref s.heap.objs.size) { s with heap := s.heap.push { cls := .type "tuple", data := .seq items.toList.reverse.toArray } })
    (hsz : items.size ≤ sizeLine) : wpAny (model prog w) A (getItem (.ref t) (.ref sl)) Q E s := by
  have htake : sizeOk (.seq items.toList.reverse.toArray) := by
    show items.toList.reverse.toArray.size ≤ sizeLine
    rw [List.size_toArray, List.length_reverse, Array.length_toList]
    exact hsz
  obtain ⟨os, hos, hcs, hds⟩ := id hs
  have hTs : s.TypeIs (.ref sl) "slice" := ⟨os, hos, hcs⟩
  unfold getItem
  try with_reducible refine wpAny_holding ?_
  first | refine wpAny_bind (wpAny_pure ?_) | skip
  refine wpAny_bind (wpAny_sequenceKey ht.typeIs (by decide) ?_)
  refine wpAny_bind (wpAny_callSpecial?_slot (name := Str.ofString "__getitem__") ht.typeIs PyProof.Rows.slot_tuple_getitem
    (wpAny_call_entry PyProof.Rows.slot_tuple_getitem ht.typeIs entry_tuple_getitem ?_ (args_tuple_getitem _ _)))
  show wpAny _ _ (Builtin.Tuple.tupleItemsOf (.ref t) >>= _) _ _ s
  refine wpAny_bind (tupleItemsOf_ ht ?_)
  refine wpAny_bind (wpAny_typeOf hTs ?_)
  rw [if_pos (by decide)]
  refine wpAny_bind (sliceApplied_rev hs pl pu ps ?_)
  have hno : ¬ ((((items.size : Int) - 1) == 0 && (-1 : Int) == 1 && items.size == items.size) = true) := by
    intro q
    rw [Bool.and_eq_true, Bool.and_eq_true] at q
    exact absurd q.1.2 (by decide)
  show wpAny _ _ (if (((items.size : Int) - 1) == 0 && (-1 : Int) == 1 && items.size == items.size) = true then _ else _) _ _ s
  rw [if_neg hno, pick_rev]
  first
    | exact wpAny_bind (m := Builtin.Tuple.tupleExact _) (wpAny_newObj_type (wpAny_pure ⟨_, rfl, wpAny_pure h⟩) htake)
    | exact wpAny_bind (m := Builtin.Tuple.tupleExact _) (wpAny_newObj_type (wpAny_bind (wpAny_pure (wpAny_pure ⟨_, rfl, wpAny_pure h⟩))) htake)
    | exact wpAny_bind (wpAny_bind (m := Builtin.Tuple.tupleExact _) (wpAny_newObj_type (wpAny_pure (wpAny_pure ⟨_, rfl, wpAny_pure h⟩)) htake))
    | exact wpAny_bind (wpAny_bind (m := Builtin.Tuple.tupleExact _) (wpAny_newObj_type (wpAny_pure ⟨_, rfl, wpAny_pure h⟩) htake))
end
section
variable {X : Cx}
/-- e[::-1], of a list or a tuple -/
def tRevA (K : PySem.W.Frag) (te : TE) : TE := fun σ H Q => te σ H fun x H1 => ∃ a xs, x = .ref a ∧ ((SqL K H1 a xs ∧ ∀ p, H1 p = none → Q (.ref p) (upd H1 p (.lst xs.reverse))) ∨ (SqT K H1 a xs ∧ ∀ p, H1 p = none → Q (.ref p) (upd H1 p (.tup xs.reverse))))
theorem pe_revA {e : Expr} {te : TE} {k : Nat} {p1 p2 p3 pos : Pos} (he : PE X e te) : PE X (.Subscript e (.Slice none none (some (.UnaryOp .USub (.Constant (.int 1) k p1) p2)) p3) pos) (tRevA X.K te) := by
  refine ⟨fun pins s σ H Q I h => ?_⟩
  refine Subscript_ (thn (he.run pins s σ H _ I h) fun v s1 ⟨x, H1, I1, r1, q1⟩ => ?_)
  obtain ⟨a, xs, ex, q⟩ := q1
  subst ex
  cases r1
  have hst : PO X (some (.UnaryOp .USub (.Constant (.int 1) k p1) p2)) (tPart (tUn (rU fun i => .int (-i)) (tC (.int 1)))) := po_some (pe_un un_neg pe_int)
  refine wpAny_Slice (thn (po_none.run pins s1 σ H1 (fun o H2 => o = none ∧ H2 = H1) I1 ⟨rfl, rfl⟩) fun vl s2 ⟨l, H2, I2, pl, el, e2⟩ => ?_)
  subst el e2
  refine thn (po_none.run pins s2 σ H2 (fun o H3 => o = none ∧ H3 = H2) I2 ⟨rfl, rfl⟩) fun vu s3 ⟨u, H3, I3, pu, eu, e3⟩ => ?_
  subst eu e3
  refine thn (hst.run pins s3 σ H3 (fun o H4 => o = some (-1) ∧ H4 = H3) I3 ⟨1, rfl, -1, rfl, rfl, rfl⟩) fun vs s4 ⟨o, H4, I4, ps, eo, e4⟩ => ?_
  subst eo e4
  have I5 : Inv X pins σ H4 { s4 with heap := s4.heap.push { cls := .type "slice", data := .fields #[vl, vu, vs] } } := I4.kept (t' := s4.toks) fun b ob q => Heap.get?_push_of_some _ q
  show wpAny (model X.prog X.w) X.A (subscriptTail e (.Slice none none (some (.UnaryOp .USub (.Constant (.int 1) k p1) p2)) p3) (.ref a) (.ref s4.heap.objs.size)) (EP X pins σ Q) X.xe { s4 with heap := s4.heap.push { cls := .type "slice", data := .fields #[vl, vu, vs] } }
  rcases q with ⟨hx, q⟩ | ⟨hx, q⟩
  · obtain ⟨its, r, ht, hz⟩ := I5.list hx
    have hlen := r.length
    refine tail_any (ops := [.ref a, .ref s4.heap.objs.size]) ht.isList.typeIs (PySem.slot_list_getitem.lookup) ?_ (by with_unfolding_all rfl)
    refine wpAny_getItem_list_slice ht.isList (Heap.IsSliceOf.new _ vl vu vs) pl pu ps (by decide) ?_ (by rw [List.size_toArray]; omega)
    rw [PySem.W.krv_pick]
    refine ⟨.ref _, _, I5.laid (t' := s4.toks) (o := .lst xs.reverse) (fun b ob q => Heap.get?_push_of_some _ q) (Nat.le_refl _) ?_, rfl, q _ (I5.hok.fresh (Nat.le_refl _))⟩
    exact ⟨by rw [List.length_reverse]; exact hz, _, 0, r.reverse, Heap.get?_push_size _ rfl⟩
  · obtain ⟨its, r, ht, hz⟩ := I5.tuple hx
    have hlen := r.length
    refine tail_any (ops := [.ref a, .ref s4.heap.objs.size]) ht.typeIs (PyProof.Rows.slot_tuple_getitem.lookup) ?_ (by with_unfolding_all rfl)
    refine getItem_tuple_rev ht (Heap.IsSliceOf.new _ vl vu vs) pl pu ps ?_ (by rw [List.size_toArray]; omega)
    refine ⟨.ref _, _, I5.laid (t' := s4.toks) (o := .tup xs.reverse) (fun b ob q => Heap.get?_push_of_some _ q) (Nat.le_refl _) ?_, rfl, q _ (I5.hok.fresh (Nat.le_refl _))⟩
    exact ⟨by rw [List.length_reverse]; exact hz, _, r.reverse, ⟨_, Heap.get?_push_size _ rfl, rfl, 0, rfl⟩⟩
end
end Ev
set_option Elab.async false
set_option linter.all false
set_option maxRecDepth 100000
set_option maxHeartbeats 1000000
/-! Ev6: argument lists, displays, built-in calls, slices, isinstance, methods, what is walked, comprehensions. -/
namespace Ev
open PySem PySem.Spec PyProof.Rows L2
def plainE : Expr → Bool
  | .Starred _ _ => false
  | _ => true
theorem starEach_plain {e : Expr} (h : plainE e = true) (es : List Expr) (env : Env) : starEach (e :: es) env = (false, eval e env) :: starEach es env := by
  cases e <;> first | rfl | cases h
theorem noStar : ∀ {es : List Expr} {pos : Pos} {env : Env}, es.all plainE = true → (backTo pos (starEach es env)).any (·.1) = false
  | [], _, _, _ => rfl
  | e :: es, pos, env, h => by
    rw [List.all_cons, Bool.and_eq_true] at h
    rw [starEach_plain h.1]
    show (false || (backTo pos (starEach es env)).any (·.1)) = false
    rw [noStar h.2]; rfl
section
variable {Z : Se} {X : Cx} {a b c : Expr} {fa fb fc : List D → Store → R D} {pos : Pos}
theorem imp_tvL {f : List D → Store → R (List D)} {vσ : L2.St} {H : Hp} {Q Q' : List V → Hp → Prop} (q : tvL Z f vσ H Q) (k : ∀ v H', Q v H' → Q' v H') : tvL Z f vσ H Q' := by
  obtain ⟨ρ, σ, S, r, s, q⟩ := q
  exact ⟨ρ, σ, S, r, s, q.imp k⟩
/-! ### argument lists -/
theorem a_nil : PA X [] (tvL Z fun _ S => .ok [] S) := imp_PA pa_nil fun vσ H Q q => by
  obtain ⟨ρ, σ, S, r, s, q⟩ := q
  exact Pst.ok (rel := relL Z) q s .nil
theorem a_cons {e : Expr} {es : List Expr} {fe : List D → Store → R D} {fr : List D → Store → R (List D)} (hp : plainE e = true) (he : PE X e (tv Z fe)) (hr : PA X es (tvL Z fr)) :
    PA X (e :: es) (tvL Z fun σ S => (fe σ S).bind fun x S => (fr σ S).bind fun l S => .ok (x :: l) S) := imp_PA (pa_cons he hr (starEach_plain hp es X.env)) fun vσ H Q q => by
  obtain ⟨ρ, σ, S, r, s, q⟩ := q
  refine ⟨ρ, σ, S, r, s, (PostG.bind (rel := relD Z) q).imp ?_⟩
  rintro x H1 ⟨ρ1, dx, S1, e1, p1, s1, r1, q1⟩
  refine ⟨ρ1, σ, S1, r.mono e1 p1, s1, (PostG.bind (rel := relL Z) q1).imp ?_⟩
  rintro y H2 ⟨ρ2, dy, S2, e2, p2, s2, r2, q2⟩
  exact Pst.ok (rel := relL Z) q2 s2 (.cons (Rep.mono e2 p2 r1) r2)
theorem star_lst {pins : List (Addr × Obj)} {σ : L2.St} {H : Hp} {s : Shared} {a : Addr} {xs : List V} {E : Value → Shared → Prop} {Q : List Value → Shared → Prop} (I : Inv X pins σ H s) (h : SqL X.K H a xs) (hQ : ∀ us s', Inv X pins σ H s' → Vals xs us → Q us s') :
    PySem.W.StarOf (model X.prog X.w) X.A E (.ref a) Q s := by
  obtain ⟨its, r, ⟨o, n, ho, hc, hdn, hd⟩, hz⟩ := I.list h
  have hT : s.TypeIs (.ref a) "list" := ⟨o, ho, hc⟩
  have hl := r.length
  have z : wpAny (model X.prog X.w) X.A (collect (.ref a)) Q E s := by
    refine wpAny_collect_seq a (.inl rfl) ho hc hd (fun h' hk => ?_) (by rw [List.size_toArray]; omega)
    have e : its.toArray.toList = its := by simp
    rw [e]
    exact hQ its _ (I.kept (t' := s.toks) hk) r
  unfold PySem.W.StarOf notIterableAtAll
  exact wpAny_bind (wpAny_specialOf hT PySem.F.slot_list_iter.lookup (wpAny_pure ⟨rfl, z⟩))
theorem a_star {e : Expr} {p : Pos} {es : List Expr} {fe : List D → Store → R D} {fr : List D → Store → R (List D)} (hK : X.K = Z.G.K) (he : PE X e (tv Z fe)) (hr : PA X es (tvL Z fr)) :
    PA X (.Starred e p :: es) (tvL Z fun σ S => (fe σ S).bind fun x S => orBad (items x S) fun a => (fr σ S).bind fun l S => .ok (a ++ l) S) := by
  refine ⟨fun pos pins s σ H Q I q => ?_⟩
  show wpAny _ _ (spliced ((true, (do let v ← eval e X.env; standAt pos; pure v)) :: backTo pos (starEach es X.env))) _ _ s
  obtain ⟨ρ, σD, S, r, sr, q⟩ := q
  refine PySem.W.ks_spliced (thn (he.run pins s σ H _ I ⟨ρ, σD, S, r, sr, PostG.bind (rel := relD Z) q⟩) ?_)
  rintro u s1 ⟨v, H1, I1, rv, ρ1, dx, S1, e1, p1, sr1, r1, q1⟩
  obtain ⟨l, hl, q1⟩ := Pst.orBad q1
  obtain ⟨ad, vs, rfl, hs, rl⟩ := items_ok sr1 r1 hl
  rw [← hK] at hs
  cases rv
  have go : ∀ us s', Inv X pins σ H1 s' → Vals vs us → wpAny (model X.prog X.w) X.A (spliced (backTo pos (starEach es X.env))) (fun ws s₃ => AP X pins σ Q (us ++ ws) s₃) X.xe s' := fun us s' I' rv => by
    refine thn (hr.run pos pins s' σ H1 _ I' ⟨ρ1, σD, S1, r.mono e1 p1, sr1, PostG.bind (rel := relL Z) q1⟩) ?_
    rintro ws s3 ⟨wv, H3, I3, rw3, ρ3, dl, S3, e3, p3, sr3, r3, q3⟩
    exact ⟨vs ++ wv, H3, I3, rv.append rw3, Pst.ok (rel := relL Z) q3 sr3 ((Reps.mono e3 p3 rl).append r3)⟩
  rcases hs with hs | hs
  · exact star_lst I1 hs go
  · exact star_tup I1 hs go
/-- a list of expressions that stand for the arguments of a big step -/
structure PAs (Z : Se) (X : Cx) (es : List Expr) (f : List D → Store → R (List D)) : Prop where
  pa : PA X es (tvL Z f)

/-! ### displays -/
variable {fl : List D → Store → R (List D)} {es : List Expr} {e : Expr}
theorem p_tup {k : Nat} (h : PA X es (tvL Z fl)) : PE X (.Tuple es k pos) (tv Z fun σ S => (fl σ S).bind fun l S => R.when (sz l.length) (.ok (.tup l) S)) :=
  imp_PE (pe_tup h) fun vσ H Q q => imp_tvL (args q) fun vs H1 ⟨ρ, l, S, s, r, q⟩ => by
    obtain ⟨hz, q⟩ := q.when
    exact ⟨by rw [← r.length]; simpa [sz] using hz, tup_ok q s r⟩
theorem p_lst (h : PA X es (tvL Z fl)) : PE X (.List es pos) (tv Z fun σ S => (fl σ S).bind fun l S => new l S) :=
  imp_PE (pe_lst h) fun vσ H Q q => imp_tvL (args q) fun vs H1 ⟨ρ, l, S, s, r, q⟩ => new_ok q s r
def Bi.name : Bi → Str
  | .len => "len" | .int => "int" | .abs => "abs" | .min => "min" | .max => "max" | .sum => "sum" | .all => "all" | .any => "any"
  | .list => "list" | .tuple => "tuple" | .divmod => "divmod" | .range => "range" | .zip => "zip" | .enumerate => "enumerate" | .sorted => "sorted" | .repr => "repr" | .str => "str" | .bool => "bool"
theorem bi_facts (b : Bi) : bootBuiltins b.name = some b.val ∧ b.name ≠ "__name__" ∧ (b.name == ("__debug__" : Str)) = false := by
  cases b <;> exact ⟨by decide +kernel, by decide +kernel, by decide +kernel⟩
theorem p_bi {p : Pos} (b : Bi) (hr : CallR X b.val (rL Z (bltD b))) (hg : Gl X b.name) (hm : X.mg b.name = none) (hp : plainE e = true) (hps : es.all plainE = true) (h : PA X (e :: es) (tvL Z fl)) :
    PE X (.Call (.Name b.name p) (e :: es) [] pos) (tv Z fun σ S => (fl σ S).bind fun l S => bltD b l S) := by
  obtain ⟨hv, hn, hd⟩ := bi_facts b
  have he := starEach_plain hp es X.env
  have hpl := noStar (pos := pos) (env := X.env) hps
  have key : PE X (.Call (.Name b.name p) (e :: es) [] pos) (tCB (rL Z (bltD b)) (tvL Z fl)) := by
    cases b <;> first | exact pe_callB hr hg hm hv h hn hd he hpl | exact pe_callTy hr hg hm hv h hn hd he hpl
  exact imp_PE key fun vσ H Q q => imp_tvL (args q) fun vs H1 ⟨ρ, l, S, s, r, q⟩ => ⟨ρ, l, S, vσ, s, r, q⟩
/-- isinstance with one built-in class -/
theorem p_isi {t : String} {p pt : Pos} (hK : X.K = Z.G.K) (ht : t ∈ ["int", "bool", "tuple", "str", "list"]) (hv : bootBuiltins (Str.ofString t) = some (.type t)) (hn : Str.ofString t ≠ "__name__") (hd : (Str.ofString t == ("__debug__" : Str)) = false)
    (hg : Gl X "isinstance") (hm : X.mg "isinstance" = none) (hgt : Gl X (Str.ofString t)) (hmt : X.mg (Str.ofString t) = none) (hp : plainE a = true) (ha : PE X a (tv Z fa)) :
    PE X (.Call (.Name "isinstance" p) [a, .Name (Str.ofString t) pt] [] pos) (tv Z fun σ S => (fa σ S).bind fun x S => orBad (tyOf x) fun ty => R.when (refOk x S) (.ok (.bl ([t].any (isTy ty))) S)) := by
  have hb : PE X (.Name (Str.ofString t) pt) (tC (.ty t)) := pe_bltn hgt hmt hv rfl hn hd
  refine imp_PE (pe_callB call_isi hg hm (by decide +kernel) (pa_cons ha (pa_cons hb pa_nil) (starEach_plain hp _ _)) (by decide +kernel) (by decide +kernel) (starEach_plain hp _ _) rfl) fun vσ H Q q => imp_tv (one q) fun x H1 ⟨ρ, dx, S, s, r, q⟩ => ?_
  obtain ⟨ty, h1, q⟩ := Pst.orBad q
  obtain ⟨h2, q⟩ := q.when
  have hl : ∀ n, dx = .ref n → ∃ l, lstOf S n = some l := fun n e => by
    subst e
    exact Option.isSome_iff_exists.mp h2
  obtain ⟨k1, k2⟩ := ty_of s r h1 hl
  refine ⟨x, .ty t, .type ty, .type t, isTy ty t, rfl, .ty t, by rw [hK]; exact k1, kit_ty (kit_all ty t k2 ht), ?_⟩
  have e : [t].any (isTy ty) = isTy ty t := by simp
  rw [e] at q
  exact Pst.ok (rel := relD Z) q s (.bl _)
/-! ### slices -/
theorem o_no : PO X none (tvO Z fun _ S => .ok none S) := imp_PO po_none fun vσ H Q q => by
  obtain ⟨ρ, σ, S, r, s, q⟩ := q
  exact Pst.ok (rel := relE) q s rfl
theorem o_yes (ha : PE X a (tv Z fa)) : PO X (some a) (tvO Z fun σ S => (fa σ S).bind fun x S => match x with | .int i => .ok (some i) S | _ => .bad) :=
  imp_PO (po_some ha) fun vσ H Q q => imp_tv (one q) fun x H1 ⟨ρ, dx, S, s, r, q⟩ => by
    cases r with
    | int i => exact ⟨i, rfl, Pst.ok (rel := relE) q s rfl⟩
    | _ => exact q.elim
theorem p_sl {lo hi : Option Expr} {p2 : Pos} {fo fh : List D → Store → R (Option Int)} (hK : X.K = Z.G.K) (ha : PE X a (tv Z fa)) (hl : PO X lo (tvO Z fo)) (hh : PO X hi (tvO Z fh)) :
    PE X (.Subscript a (.Slice lo hi none p2) pos) (tv Z fun σ S => (fa σ S).bind fun x S => (fo σ S).bind fun l S => (fh σ S).bind fun h S => slD x l h S) :=
  imp_PE (pe_slice (slr_sl hK) ha hl hh) fun vσ H Q q => by
    obtain ⟨ρ, σ, S, r, s, q⟩ := q
    refine ⟨ρ, σ, S, r, s, (PostG.bind (rel := relD Z) q).imp ?_⟩
    rintro x H1 ⟨ρ1, dx, S1, e1, p1, s1, r1, q1⟩
    refine ⟨ρ1, σ, S1, r.mono e1 p1, s1, (PostG.bind (rel := relE) q1).imp ?_⟩
    rintro l H2 ⟨ρ2, dl, S2, e2, p2, s2, rfl, q2⟩
    refine ⟨ρ2, σ, S2, (r.mono e1 p1).mono e2 p2, s2, (PostG.bind (rel := relE) q2).imp ?_⟩
    rintro h H3 ⟨ρ3, dh, S3, e3, p3, s3, rfl, q3⟩
    exact ⟨ρ3, dx, S3, vσ, s3, Rep.mono (e2.trans e3) (p2.trans p3) r1, q3⟩
theorem p_slr {k : Nat} {p1 p2 p3 : Pos} (hK : X.K = Z.G.K) (ha : PE X a (tv Z fa)) : PE X (.Subscript a (.Slice none none (some (.UnaryOp .USub (.Constant (.int 1) k p1) p2)) p3) pos)
    (tv Z fun σ S => (fa σ S).bind fun x S => slrD x S) :=
  imp_PE (pe_revA ha) fun vσ H Q q => imp_tv (one q) fun x H1 ⟨ρ, dx, S, s, r, q⟩ => by
    cases r with
    | @tup a vs l t r =>
      have q : Pst Z vσ (relD Z) H1 ρ Q (.ok (.tup l.reverse) S) := q
      exact ⟨a, vs, rfl, .inr ⟨by rw [hK]; exact t.t, tup_ok q s r.reverse⟩⟩
    | @ref n a e =>
      have q : Pst Z vσ (relD Z) H1 ρ Q (match lstOf S n with | some l => new l.reverse S | none => .bad) := q
      cases h : lstOf S n with
      | none => rw [h] at q; exact q.elim
      | some l =>
        rw [h] at q
        obtain ⟨vs, k1, k2⟩ := lst_at s e h
        exact ⟨a, vs, rfl, .inl ⟨.of k1, (new_ok q s k2.reverse.any).2⟩⟩
    | _ => exact q.elim
/-! ### methods of lists -/
theorem p_meth {m : Mt} {id : String} {o : Expr} {apos : Pos} {fo : List D → Store → R D} (slot : Slot "list" m.name id) (hty : typeOf (.builtin id) = pure (.type "method_descriptor")) (hm : MtR X id (rM Z m))
    (hp : plainE e = true) (ho : PE X o (tv Z fo)) (he : PA X [e] (tvL Z fl)) (hbase : attributeBase o m.name X.env (eval o X.env) = eval o X.env) (hline : (apos.endLine == pos.line) = true) :
    PE X (.Call (.Attribute o m.name apos) [e] [] pos) (tv Z fun σ S => (fo σ S).bind fun x S => R.when (lsOk x S) ((fl σ S).bind fun l S => methD m x l S)) := by
  have hs := starEach_plain hp [] X.env
  have hfew : ((backTo pos (starEach [e] X.env)).all (fun x => !x.1) && (backToKw pos (keywordEach [] X.env)).all (fun x => x.1.isSome)
      && decide (([e] : List Expr).length + ([] : List Keyword).length + (if ([] : List Keyword).isEmpty then 0 else 1) < 30)) = true := by rw [hs]; rfl
  refine imp_PE (pe_bm PySem.F.plainAttrs_list slot hty hm ho he hbase hfew hline hs rfl) fun vσ H Q q => ?_
  obtain ⟨ρ, σ, S, r, s, q⟩ := q
  refine ⟨ρ, σ, S, r, s, (PostG.bind (rel := relD Z) q).imp ?_⟩
  rintro x H1 ⟨ρ1, dx, S1, e1, p1, s1, r1, q1⟩
  obtain ⟨h1, q1⟩ := Pst.when q1
  cases r1 with
  | @ref n a k =>
    obtain ⟨l, hl⟩ := Option.isSome_iff_exists.mp h1
    obtain ⟨vs, k1, k2⟩ := lst_at s1 k hl
    refine ⟨.inl ⟨rfl, vs, .of k1⟩, ρ1, σ, S1, r.mono e1 p1, s1, (PostG.bind (rel := relL Z) q1).imp ?_⟩
    rintro xs H2 ⟨ρ2, dl, S2, e2, p2, s2, r2, q2⟩
    exact ⟨ρ2, .ref n, dl, S2, vσ, s2, .ref (p2 _ _ k), r2, q2⟩
  | _ => cases h1
theorem mtr_index (hK : X.K = Z.G.K) (hu : X.A.units + 65 < cLine) : MtR X "list.index" (rM Z .index) := by
  intro pins s σ H x xs v us Q I rx rxs q
  obtain ⟨ρ, d, l, S, vσ, sr, r1, r2, q⟩ := q
  cases l with
  | nil => cases r1 <;> exact q.elim
  | cons e l => cases l with
    | cons _ _ => cases r1 <;> exact q.elim
    | nil =>
      obtain ⟨w, ew, r3⟩ := reps1 r2
      subst ew
      cases r1 with
      | @ref n a h =>
        have q : Pst Z vσ (relD Z) H ρ Q (match lstOf S n with
          | some l => (match pyN S 20 e, optAll (l.map (pyN S 19)) with
            | some a, some bs => (match bs.findIdx? fun b => PyData.eqv b a with
              | some k => .ok (.int k) S
              | none => .bad)
            | _, _ => .bad)
          | none => .bad) := q
        cases h1 : lstOf S n with
        | none => rw [h1] at q; exact q.elim
        | some l =>
          rw [h1] at q
          dsimp only at q
          cases h2 : pyN S 20 e with
          | none => simp only [h2] at q; exact q.elim
          | some d => cases h3 : optAll (l.map (pyN S 19)) with
            | none => simp only [h2, h3] at q; exact q.elim
            | some bs =>
              simp only [h2, h3] at q
              cases h4 : bs.findIdx? fun b => PyData.eqv b d with
              | none => rw [h4] at q; exact q.elim
              | some k =>
                rw [h4] at q
                obtain ⟨vs, k1, k2⟩ := lst_at sr h h1
                obtain ⟨d1, d2⟩ := dp_of sr 20 e w d r3 h2
                obtain ⟨b1, b2, b3⟩ := dps_of (fun d v p => dp_of sr 19 d v p) l vs bs k2 h3
                obtain ⟨hk, hk1, hk2⟩ := List.findIdx?_eq_some_iff_getElem.mp h4
                refine mt_indexD hu pins s σ H _ _ v us Q I rx rxs ⟨a, w, d, bs, k, bs[k], rfl, rfl, ?_, by rw [hK]; exact d1, ?_, shaped_of d2 (by decide), List.getElem?_eq_getElem hk, hk1, fun m z' hm hz => ?_, Pst.ok (rel := relD Z) q sr (.int _)⟩
                · rw [hK]; exact .lst (.of k1) b1
                · exact shaped_of (n := 20) ⟨by simp [PyData.canLay0, b2], by simp only [PyData.depth]; omega⟩ (by decide)
                · have hl : m < bs.length := by omega
                  rw [List.getElem?_eq_getElem hl] at hz
                  cases hz
                  simpa using hk2 m hm
      | _ => exact q.elim
theorem mtr_extend : MtR X "list.extend" (rM Z .extend) := by
  intro pins s σ H x xs v us Q I rx rxs q
  obtain ⟨ρ, d, l, S, vσ, sr, r1, r2, q⟩ := q
  cases l with
  | nil => cases r1 <;> exact q.elim
  | cons e l => cases l with
    | cons _ _ => cases r1 <;> cases e <;> exact q.elim
    | nil =>
      obtain ⟨w, ew, r3⟩ := reps1 r2
      subst ew
      cases r1 with
      | @ref n a h => cases r3 with
        | @ref j b h' =>
          have q : Pst Z vσ (relD Z) H ρ Q (match lstOf S n, lstOf S j with | some l, some k => R.when (sz (l.length + k.length)) (.ok .non (S.set n (.lst (l ++ k)))) | _, _ => .bad) := q
          cases h1 : lstOf S n with
          | none => rw [h1] at q; exact q.elim
          | some l => cases h2 : lstOf S j with
            | none => rw [h1, h2] at q; exact q.elim
            | some k =>
              rw [h1, h2] at q
              obtain ⟨hz, q⟩ := q.when
              simp [sz] at hz
              obtain ⟨vs, k1, k2⟩ := lst_at sr h h1
              obtain ⟨ws, k3, k4⟩ := lst_at sr h' h2
              have el := k2.length
              have el' := k4.length
              exact mt_extend pins s σ H _ _ v us Q I rx rxs ⟨a, b, vs, ws, rfl, rfl, k1, k3, by omega, q.okN (HX.put k1 rfl) (PX.refl ρ) (sr.put h k1 (k2.append k4)) .non⟩
        | _ => exact q.elim
      | _ => cases r3 <;> exact q.elim
/-! ### targets of for and comprehensions -/
/-- what a pattern's store reads -/
def tvP (Z : Se) (f : D → List D → Option (List D)) : TG := fun v vσ H Q => ∃ ρ d σ S σ', SRep Z.G H ρ S ∧ Rep Z.G Z.cc H ρ d v ∧ Repo Z.G Z.cc H ρ σ vσ ∧ f d σ = some σ' ∧ ∀ vσ', Repo Z.G Z.cc H ρ σ' vσ' → vσ'.length = vσ.length → Q vσ' H
def tvPs (Z : Se) (f : List D → List D → Option (List D)) : TGs := fun v vσ H Q => ∃ ρ d σ S σ', SRep Z.G H ρ S ∧ Reps Z.G Z.cc H ρ d v ∧ Repo Z.G Z.cc H ρ σ vσ ∧ f d σ = some σ' ∧ ∀ vσ', Repo Z.G Z.cc H ρ σ' vσ' → vσ'.length = vσ.length → Q vσ' H
theorem imp_PG {tg : Expr} {t t' : TG} (h : PG X tg t) (k : ∀ v σ H Q, t' v σ H Q → t v σ H Q) : PG X tg t' := ⟨fun pins s σ H v u Q I r q => h.run pins s σ H v u Q I r (k _ _ _ _ q)⟩
theorem imp_PGs {tg : List Expr} {t t' : TGs} (h : PGs X tg t) (k : ∀ v σ H Q, t' v σ H Q → t v σ H Q) : PGs X tg t' := ⟨fun pins s σ H v u Q I r q => h.run pins s σ H v u Q I r (k _ _ _ _ q)⟩
theorem g_name {i : Nat} {x : Str} (hN : X.N.Nodup) (hi : X.N[i]? = some x) (hx : Loc X.env.scope x) (hf : X.fn x = true ∨ X.env.scope.names.lookup x = some .local) : PG X (.Name x pos) (tvP Z (Pt.bind (.v i))) :=
  imp_PG (pg_name hN hi hx hf) fun v vσ H Q q => by
    obtain ⟨ρ, d, σ, S, σ', s, r, ro, h, k⟩ := q
    have h : some (σ.set i d) = some σ' := by simpa [Pt.bind] using h
    cases h
    exact k _ (ro.set r i) (by simp)
theorem g_nil : PGs X [] (tvPs Z (Pt.binds [])) := imp_PGs pgs_nil fun v vσ H Q q => by
  obtain ⟨ρ, d, σ, S, σ', s, r, ro, h, k⟩ := q
  cases d with
  | nil =>
    cases r
    have h : some σ = some σ' := by simpa [Pt.binds] using h
    cases h
    exact ⟨rfl, k _ ro rfl⟩
  | cons _ _ => simp [Pt.binds] at h
theorem g_cons {e : Expr} {es : List Expr} {p : Pt} {ps : List Pt} (h1 : PG X e (tvP Z p.bind)) (h2 : PGs X es (tvPs Z (Pt.binds ps)))
    (hs : (assignEach (e :: es) X.env).map (·.2) = assign e X.env :: (assignEach es X.env).map (·.2)) : PGs X (e :: es) (tvPs Z (Pt.binds (p :: ps))) := imp_PGs (pgs_cons h1 h2 hs) fun v vσ H Q q => by
  obtain ⟨ρ, d, σ, S, σ', s, r, ro, h, k⟩ := q
  cases d with
  | nil => simp [Pt.binds] at h
  | cons d ds =>
    cases r with
    | @cons _ v _ vs r1 r2 =>
      have h : (Pt.bind p d σ).bind (Pt.binds ps ds ·) = some σ' := by simpa [Pt.binds] using h
      cases e1 : Pt.bind p d σ with
      | none => rw [e1] at h; cases h
      | some σ1 =>
        rw [e1] at h
        exact ⟨v, vs, rfl, ρ, d, σ, S, σ1, s, r1, ro, e1, fun vσ1 ro1 l1 => ⟨ρ, ds, σ1, S, σ', s, r2, ro1, h, fun vσ' ro' l' => k vσ' ro' (l'.trans l1)⟩⟩
theorem binds_len : ∀ {ps : List Pt} {ds : List D} {σ σ' : List D}, Pt.binds ps ds σ = some σ' → ds.length = ps.length
  | [], [], _, _, _ => rfl
  | [], _ :: _, _, _, h => by simp [Pt.binds] at h
  | _ :: _, [], _, _, h => by simp [Pt.binds] at h
  | p :: ps, d :: ds, σ, σ', h => by
    have h : (Pt.bind p d σ).bind (Pt.binds ps ds ·) = some σ' := by simpa [Pt.binds] using h
    cases e1 : Pt.bind p d σ with
    | none => rw [e1] at h; cases h
    | some σ1 => rw [e1] at h; simp [binds_len (show Pt.binds ps ds σ1 = some σ' from h)]
theorem g_tp {es : List Expr} {k : Nat} {ps : List Pt} (hK : X.K = Z.G.K) (hc : X.calm = true) (h : PGs X es (tvPs Z (Pt.binds ps))) (hn : (assignEach es X.env).length = ps.length) (hst : (assignEach es X.env).findIdx? (·.1) = none) :
    PG X (.Tuple es k pos) (tvP Z (Pt.bind (.tp ps))) := imp_PG (pg_tup hc h hn hst) fun v vσ H Q q => by
  obtain ⟨ρ, d, σ, S, σ', s, r, ro, h, k⟩ := q
  cases r with
  | @tup a vs l t r =>
    have h : Pt.binds ps l σ = some σ' := by simpa [Pt.bind] using h
    exact ⟨a, vs, rfl, by rw [hK]; exact t.t, by rw [← r.length]; exact binds_len h, ρ, l, σ, S, σ', s, r, ro, h, k⟩
  | _ => simp [Pt.bind] at h

/-! ### what is walked -/
/-- the walk gives the items, one behind another -/
def Serves (Z : Se) (H₀ : Hp) (ρ₀ : List Addr) (src : Src) (J : L2.It) : Prop := ∀ (i : Nat) (H : Hp) (ρ : List Addr) (S : Store), HX H₀ H → PX ρ₀ ρ → SRep Z.G H ρ S → src.ok S = true →
  (src.l.length ≤ i → J.stop i H) ∧ ∀ d, src.l[i]? = some d → J.go i H ∧ ∀ x H', J.yld i H x H' → HX H H' ∧ SRep Z.G H' ρ S ∧ Rep Z.G Z.cc H' ρ d x
def relI (Z : Se) : Hp → List Addr → Src → L2.It → Prop := fun H ρ src J => Serves Z H ρ src J
abbrev tvI (Z : Se) (f : List D → Store → R Src) : TI := tvG Z (relI Z) f
theorem src_at {S : Store} {src : Src} (h : src.ok S = true) {n : Nat} {l : List D} (hm : (n, l) ∈ src.w) : lstOf S n = some l := by
  have h2 := List.all_eq_true.mp h _ hm
  dsimp only at h2
  cases e : lstOf S n with
  | none => rw [e] at h2; cases h2
  | some m =>
    rw [e] at h2
    rw [D.eqbs_eq m l h2]
theorem serves_lst {H : Hp} {ρ : List Addr} {n : Nat} {a : Addr} {l : List D} (hK : X.K = Z.G.K) (h : ρ[n]? = some a) : Serves Z H ρ ⟨l, [(n, l)]⟩ (Itl X.K a) := fun i H1 ρ1 S e p s ok => by
  have hl := src_at ok (n := n) (l := l) (by simp)
  obtain ⟨vs, k1, k2⟩ := lst_at s (p _ _ h) hl
  refine ⟨fun hi => ⟨vs, .of k1, by rw [← k2.length]; exact hi⟩, fun d hd => ?_⟩
  obtain ⟨v, hv, rv⟩ := k2.get hd
  refine ⟨⟨vs, v, .of k1, hv⟩, ?_⟩
  rintro x H' ⟨rfl, hx⟩
  have := hx vs (.of k1)
  rw [hv] at this
  cases this
  exact ⟨HX.refl _, s, rv.any⟩
theorem serves_tup {H : Hp} {ρ : List Addr} {a : Addr} {l : List D} {vs : List V} (hK : X.K = Z.G.K) (t : SqU Z.G.K H a vs) (r : Reps Z.G Z.cc H ρ l vs) : Serves Z H ρ ⟨l, []⟩ (Itt X.K a) := fun i H1 ρ1 S e p s ok => by
  have t1 : SqT X.K H1 a vs := by rw [hK]; exact (SqU.hx e t).t
  have k2 := Reps.mono e p r
  refine ⟨fun hi => ⟨vs, t1, by rw [← k2.length]; exact hi⟩, fun d hd => ?_⟩
  obtain ⟨v, hv, rv⟩ := k2.get hd
  refine ⟨⟨vs, v, t1, hv⟩, ?_⟩
  rintro x H' ⟨rfl, hx⟩
  have := hx vs t1
  rw [hv] at this
  cases this
  exact ⟨HX.refl _, s, rv⟩
theorem serves_rl {H : Hp} {ρ : List Addr} {a : Addr} {l : List D} {vs : List V} (hK : X.K = Z.G.K) (t : SqR Z.G.K H a vs) (r : Reps Z.G Z.cc H ρ l vs) : Serves Z H ρ ⟨l, []⟩ (Itl X.K a) := fun i H1 ρ1 S e p s ok => by
  have t1 : SqL X.K H1 a vs := by rw [hK]; exact (SqR.hx e t).l
  have k2 := Reps.mono e p r
  refine ⟨fun hi => ⟨vs, t1, by rw [← k2.length]; exact hi⟩, fun d hd => ?_⟩
  obtain ⟨v, hv, rv⟩ := k2.get hd
  refine ⟨⟨vs, v, t1, hv⟩, ?_⟩
  rintro x H' ⟨rfl, hx⟩
  have := hx vs t1
  rw [hv] at this
  cases this
  exact ⟨HX.refl _, s, rv⟩
theorem serves_rng {H : Hp} {ρ : List Addr} (lo : Int) (n : Nat) : Serves Z H ρ ⟨rngD lo n, []⟩ (Itr lo n) := fun i H1 ρ1 S e p s ok => by
  refine ⟨fun hi => (by simpa [rngD] using hi : n ≤ i), fun d hd => ?_⟩
  unfold rngD at hd
  rw [List.getElem?_map] at hd
  by_cases hi : i < n
  · rw [List.getElem?_range hi] at hd
    have hd : D.int (lo + i) = d := Option.some.inj hd
    subst hd
    refine ⟨hi, ?_⟩
    rintro x H' ⟨rfl, rfl⟩
    exact ⟨HX.refl _, s, .int _⟩
  · rw [List.getElem?_eq_none (by simpa using hi)] at hd
    cases hd
end
end Ev
set_option Elab.async false
set_option linter.all false
set_option maxRecDepth 100000
set_option maxHeartbeats 1000000
namespace Ev
open PySem PySem.Spec PyProof.Rows
section
variable {prog : Program} {w : World} {A : Around} {E : Value → Shared → Prop} {s : Shared}
/-- who walks: t: over a tuple, else over a list -/
def Wkr : Bool → Heap → Addr → Addr → Nat → Prop
  | true, h, i, l, k => h.IsTupleIter i l k
  | false, h, i, l, k => h.IsListIter i l k
def Ctn : Bool → Heap → Addr → Array Value → Prop
  | true, h, l, xs => h.IsTuple l xs
  | false, h, l, xs => h.IsList l xs
theorem Wkr.ext {t : Bool} {h h' : Heap} {i l b : Addr} {k : Nat} (x : Wkr t h i l k) (e : Heap.ExtBut b h h') (n : i ≠ b) : Wkr t h' i l k := by
  cases t
  · exact Heap.IsListIter.extBut x e n
  · exact Heap.IsTupleIter.extBut x e n
theorem Ctn.ext {t : Bool} {h h' : Heap} {l b : Addr} {xs : Array Value} (x : Ctn t h l xs) (e : Heap.ExtBut b h h') (n : l ≠ b) : Ctn t h' l xs := by
  cases t
  · exact Heap.IsList.extBut x e n
  · exact Heap.IsTuple.extBut x e n
theorem nxt_one {t : Bool} {i l : Addr} {k : Nat} {xs : Array Value} {x : Value} {Q : Value → Shared → Prop} (h : Wkr t s.heap i l k) (hl : Ctn t s.heap l xs) (hx : xs[k]? = some x)
    (hQ : ∀ h', Wkr t h' i l (k + 1) → Heap.SameBut i s.heap h' → Q x { s with heap := h' }) : wpAny (model prog w) A (Builtin.SmallTypes.nextOf (.ref i)) Q E s := by
  cases t
  · exact wpAny_nextOf_list_item h hl hx hQ
  · exact RZ.nextOf_tuple_item h hl hx hQ
theorem nxt_stop {t : Bool} {i l : Addr} {k : Nat} {xs : Array Value} {Q : Value → Shared → Prop} (hh : A.handled = none) (h : Wkr t s.heap i l k) (hl : Ctn t s.heap l xs) (hx : xs[k]? = none)
    (hE : ∀ h' e, Heap.ExtBut i s.heap h' → (∃ o, h'.get? e = some o ∧ o.cls = .type "StopIteration") → E (.ref e) { s with heap := h' }) : wpAny (model prog w) A (Builtin.SmallTypes.nextOf (.ref i)) Q E s := by
  cases t
  · exact wpAny_nextOf_list_end hh h hl hx hE
  · exact RZ.nextOf_tuple_end hh h hl hx hE
theorem zg_item {t u : Bool} {z p o i j l m : Addr} {k : Nat} {xs ys : Array Value} {x y a b : Value} {Q : Value → Shared → Prop} (D : ZipApart z p o i j l m) (hz : IsZip s.heap z p o .none) (hp : IsPair s.heap p (.ref i) (.ref j)) (ho : IsPair s.heap o a b)
    (h1 : Wkr t s.heap i l k) (h2 : Wkr u s.heap j m k) (c1 : Ctn t s.heap l xs) (c2 : Ctn u s.heap m ys) (hx : xs[k]? = some x) (hy : ys[k]? = some y)
    (hQ : ∀ g, IsZip g z p o (rawInt s.heap.objs.size) → IsPair g o x y → Wkr t g i l (k + 1) → Wkr u g j m (k + 1) → IsPair g s.heap.objs.size x y → (∀ c v, c ∉ [z, o, i, j] → s.heap.get? c = some v → g.get? c = some v) → Q (.ref s.heap.objs.size) { s with heap := g }) :
    wpAny (model prog w) A (Builtin.«zip.__next__» ⟨[.ref z], []⟩) (fun fin s' => ∃ v, fin = .done (.ret v) ∧ Q v s') E s := by
  obtain ⟨hp0, g, d, tk, os⟩ := s
  have u1 : Heap.SameBut z hp0 (hp0.update z (Obj.mapFields fun x => x.setIfInBounds 0 Value.ellipsis)) := Heap.SameBut.update ..
  have z1 : IsZip (hp0.update z (Obj.mapFields fun x => x.setIfInBounds 0 Value.ellipsis)) z p o .ellipsis := by
    have e := Heap.get?_update_self (Obj.mapFields fun x => x.setIfInBounds 0 Value.ellipsis) hz rfl
    simpa [Obj.mapFields] using e
  wp_walk using nxt_one, wpAny_onRaise
  · exact h1.ext u1.extBut D.i1z
  · exact c1.ext u1.extBut D.l1z
  · exact hx
  intro gb w1 s1
  have s1 : Heap.SameBut i (hp0.update z (Obj.mapFields fun x => x.setIfInBounds 0 Value.ellipsis)) gb := s1
  have o1 : IsPair gb o a b := s1.extBut _ _ D.TOi1 (u1.extBut _ _ D.TOz ho)
  have u2 : Heap.SameBut o gb (gb.update o (Obj.mapSeq fun x_1 => x_1.setIfInBounds 0 x)) := Heap.SameBut.update ..
  have o2 : IsPair (gb.update o (Obj.mapSeq fun x_1 => x_1.setIfInBounds 0 x)) o x b := by
    have e := Heap.get?_update_self (Obj.mapSeq fun x_1 => x_1.setIfInBounds 0 x) o1 rfl
    simpa [Obj.mapSeq] using e
  wp_walk using nxt_one, wpAny_onRaise
  · exact ((h2.ext u1.extBut D.i2z).ext s1.extBut D.i12.symm).ext u2.extBut D.TOi2.symm
  · exact ((c2.ext u1.extBut D.l2z).ext s1.extBut D.l2i1).ext u2.extBut D.l2TO
  · exact hy
  intro gc w2 s2
  have s2 : Heap.SameBut j (gb.update o (Obj.mapSeq fun x_1 => x_1.setIfInBounds 0 x)) gc := s2
  have o3 : IsPair gc o x b := s2.extBut _ _ D.TOi2 o2
  have u3 : Heap.SameBut o gc (gc.update o (Obj.mapSeq fun x_1 => x_1.setIfInBounds (0 + 1) y)) := Heap.SameBut.update ..
  have o4 : IsPair (gc.update o (Obj.mapSeq fun x_1 => x_1.setIfInBounds (0 + 1) y)) o x y := by
    have e := Heap.get?_update_self (Obj.mapSeq fun x_1 => x_1.setIfInBounds (0 + 1) y) o3 rfl
    simpa [Obj.mapSeq] using e
  have z4 : IsZip (gc.update o (Obj.mapSeq fun x_1 => x_1.setIfInBounds (0 + 1) y)) z p o .ellipsis := u3.extBut _ _ D.TOz.symm (s2.extBut _ _ D.i2z.symm (u2.extBut _ _ D.TOz.symm (s1.extBut _ _ D.i1z.symm z1)))
  have v1 := (((w1.ext u2.extBut D.TOi1.symm).ext s2.extBut D.i12).ext u3.extBut D.TOi1.symm)
  have v2 := w2.ext u3.extBut D.TOi2.symm
  have up : ∀ c v, c ∉ [z, o, i, j] → hp0.get? c = some v → (gc.update o (Obj.mapSeq fun x_1 => x_1.setIfInBounds (0 + 1) y)).get? c = some v := fun c v hc e => by
    simp only [List.mem_cons, List.not_mem_nil, or_false, not_or] at hc
    exact u3.extBut _ _ hc.2.1 (s2.extBut _ _ hc.2.2.2 (u2.extBut _ _ hc.2.1 (s1.extBut _ _ hc.2.2.1 (u1.extBut _ _ hc.1 e))))
  have size : (gc.update o (Obj.mapSeq fun x_1 => x_1.setIfInBounds (0 + 1) y)).objs.size = hp0.objs.size := by rw [u3.1, s2.1, u2.1, s1.1, u1.1]
  wp_walk using nxt_one, wpAny_onRaise
  generalize gc.update o (Obj.mapSeq fun x => x.setIfInBounds (0 + 1) y) = gd at *
  refine ⟨_, rfl, ?_⟩
  rw [size]
  have hzl : z < hp0.objs.size := Heap.lt_size hz
  have z5 : IsZip (gd.push { cls := Value.type "tuple", data := Data.seq #[x, y].toList.toArray }) z p o .ellipsis := Heap.get?_push_of_some _ z4
  have t5 : IsPair (gd.push { cls := Value.type "tuple", data := Data.seq #[x, y].toList.toArray }) hp0.objs.size x y := by
    rw [← size]; exact Heap.get?_push_size _ rfl
  have u5 : ∀ c v, gd.get? c = some v → (gd.push { cls := Value.type "tuple", data := Data.seq #[x, y].toList.toArray }).get? c = some v := fun c v e => Heap.get?_push_of_some _ e
  generalize gd.push { cls := Value.type "tuple", data := Data.seq #[x, y].toList.toArray } = ge at *
  have u6 : Heap.SameBut z ge (ge.update z (Obj.mapFields fun x => x.setIfInBounds 0 (rawInt hp0.objs.size))) := Heap.SameBut.update ..
  have z6 : IsZip (ge.update z (Obj.mapFields fun x => x.setIfInBounds 0 (rawInt hp0.objs.size))) z p o (rawInt hp0.objs.size) := by
    have e := Heap.get?_update_self (Obj.mapFields fun x => x.setIfInBounds 0 (rawInt hp0.objs.size)) z5 rfl
    simpa [Obj.mapFields] using e
  generalize ge.update z (Obj.mapFields fun x => x.setIfInBounds 0 (rawInt hp0.objs.size)) = gf at *
  have u7 : Heap.SameBut z gf (gf.update z (Obj.mapFields fun x => x.setIfInBounds 1 (Value.bool false))) := Heap.SameBut.update ..
  have z7 : IsZip (gf.update z (Obj.mapFields fun x => x.setIfInBounds 1 (Value.bool false))) z p o (rawInt hp0.objs.size) := by
    have e := Heap.get?_update_self (Obj.mapFields fun x => x.setIfInBounds 1 (Value.bool false)) z6 rfl
    simpa [Obj.mapFields] using e
  generalize gf.update z (Obj.mapFields fun x => x.setIfInBounds 1 (Value.bool false)) = gz at *
  have over : ∀ c v, c ≠ z → gd.get? c = some v → gz.get? c = some v := fun c v hc e => u7.extBut _ _ hc (u6.extBut _ _ hc (u5 c v e))
  have mv : ∀ (t : Bool) (i l : Addr) (n : Nat), i ≠ z → Wkr t gd i l n → Wkr t gz i l n := fun t i l n hi hw => by
    cases t
    · exact Heap.IsListIter.at hw fun v e => over _ v hi e
    · exact Heap.IsTupleIter.at hw fun v e => over _ v hi e
  exact hQ gz z7 (over _ _ D.TOz o4) (mv _ _ _ _ D.i1z v1) (mv _ _ _ _ D.i2z v2) (u7.extBut _ _ (Nat.ne_of_gt hzl) (u6.extBut _ _ (Nat.ne_of_gt hzl) t5)) fun c v hc e => over c v (fun h => hc (by simp [h])) (up c v hc e)
theorem zg_end {t u : Bool} {z p o i j l m : Addr} {k : Nat} {xs ys : Array Value} {a b : Value} {Q : Fin → Shared → Prop} (hh : A.handled = none) (D : ZipApart z p o i j l m) (hz : IsZip s.heap z p o .none) (hp : IsPair s.heap p (.ref i) (.ref j)) (ho : IsPair s.heap o a b)
    (h1 : Wkr t s.heap i l k) (h2 : Wkr u s.heap j m k) (c1 : Ctn t s.heap l xs) (c2 : Ctn u s.heap m ys) (hend : xs[k]? = none ∨ ys[k]? = none)
    (hE : ∀ g e, (∀ c v, c ∉ [z, o, i, j] → s.heap.get? c = some v → g.get? c = some v) → (∃ v, g.get? e = some v ∧ v.cls = .type "StopIteration") → E (.ref e) { s with heap := g }) :
    wpAny (model prog w) A (Builtin.«zip.__next__» ⟨[.ref z], []⟩) Q E s := by
  obtain ⟨hp0, g, d, tk, os⟩ := s
  have u1 : Heap.SameBut z hp0 (hp0.update z (Obj.mapFields fun x => x.setIfInBounds 0 Value.ellipsis)) := Heap.SameBut.update ..
  have z1 : IsZip (hp0.update z (Obj.mapFields fun x => x.setIfInBounds 0 Value.ellipsis)) z p o .ellipsis := by
    have e := Heap.get?_update_self (Obj.mapFields fun x => x.setIfInBounds 0 Value.ellipsis) hz rfl
    simpa [Obj.mapFields] using e
  cases hx : xs[k]? with
  | none =>
    wp_walk using (nxt_stop hh), wpAny_onRaise
    · exact h1.ext u1.extBut D.i1z
    · exact c1.ext u1.extBut D.l1z
    · exact hx
    intro gb e s1 ⟨v, hv, hc⟩
    have z2 : IsZip gb z p o .ellipsis := s1 _ _ D.i1z.symm z1
    have ez : e ≠ z := fun h => by subst h; rw [z2] at hv; cases hv; simp at hc
    have u2 : Heap.SameBut z gb (gb.update z (Obj.mapFields fun x => x.setIfInBounds 0 Value.none)) := Heap.SameBut.update ..
    wp_walk
    exact hE _ e (fun c v hc e => by
      simp only [List.mem_cons, List.not_mem_nil, or_false, not_or] at hc
      exact u2.extBut _ _ hc.1 (s1 _ _ hc.2.2.1 (u1.extBut _ _ hc.1 e))) ⟨v, u2.extBut _ _ ez hv, hc⟩
  | some x =>
    have hy : ys[k]? = none := by
      rcases hend with h | h
      · rw [hx] at h; cases h
      · exact h
    wp_walk using nxt_one, wpAny_onRaise
    · exact h1.ext u1.extBut D.i1z
    · exact c1.ext u1.extBut D.l1z
    · exact hx
    intro gb w1 s1
    have s1 : Heap.SameBut i (hp0.update z (Obj.mapFields fun x => x.setIfInBounds 0 Value.ellipsis)) gb := s1
    have o1 : IsPair gb o a b := s1.extBut _ _ D.TOi1 (u1.extBut _ _ D.TOz ho)
    have u2 : Heap.SameBut o gb (gb.update o (Obj.mapSeq fun x_1 => x_1.setIfInBounds 0 x)) := Heap.SameBut.update ..
    wp_walk using (nxt_stop hh), wpAny_onRaise
    · exact ((h2.ext u1.extBut D.i2z).ext s1.extBut D.i12.symm).ext u2.extBut D.TOi2.symm
    · exact ((c2.ext u1.extBut D.l2z).ext s1.extBut D.l2i1).ext u2.extBut D.l2TO
    · exact hy
    intro gc e s2 ⟨v, hv, hc⟩
    have s2 : Heap.ExtBut j (gb.update o (Obj.mapSeq fun x_1 => x_1.setIfInBounds 0 x)) gc := s2
    have z3 : IsZip gc z p o .ellipsis := s2 _ _ D.i2z.symm (u2.extBut _ _ D.TOz.symm (s1.extBut _ _ D.i1z.symm z1))
    have ez : e ≠ z := fun h => by subst h; rw [z3] at hv; cases hv; simp at hc
    have u3 : Heap.SameBut z gc (gc.update z (Obj.mapFields fun x => x.setIfInBounds 0 Value.none)) := Heap.SameBut.update ..
    wp_walk
    exact hE _ e (fun c v hc e => by
      simp only [List.mem_cons, List.not_mem_nil, or_false, not_or] at hc
      exact u3.extBut _ _ hc.1 (s2 _ _ hc.2.2.2 (u2.extBut _ _ hc.2.1 (s1.extBut _ _ hc.2.2.1 (u1.extBut _ _ hc.1 e))))) ⟨v, u3.extBut _ _ ez hv, hc⟩
theorem zg_next {t u : Bool} {z p o i j l m : Addr} {k : Nat} {xs ys : Array Value} {x y a b : Value} {Q : Option Value → Shared → Prop} (D : ZipApart z p o i j l m) (hz : IsZip s.heap z p o .none) (hp : IsPair s.heap p (.ref i) (.ref j)) (ho : IsPair s.heap o a b)
    (h1 : Wkr t s.heap i l k) (h2 : Wkr u s.heap j m k) (c1 : Ctn t s.heap l xs) (c2 : Ctn u s.heap m ys) (hx : xs[k]? = some x) (hy : ys[k]? = some y)
    (hQ : ∀ g, IsZip g z p o (rawInt s.heap.objs.size) → IsPair g o x y → Wkr t g i l (k + 1) → Wkr u g j m (k + 1) → IsPair g s.heap.objs.size x y → (∀ c v, c ∉ [z, o, i, j] → s.heap.get? c = some v → g.get? c = some v) → Q (some (.ref s.heap.objs.size)) { s with heap := g }) :
    wpAny (model prog w) A (pyNext (.ref z)) Q E s := by
  have ty : s.TypeIs (.ref z) "zip" := ⟨_, hz, rfl⟩
  unfold pyNext
  refine wpAny_bind (wpAny_attempt (wpAny_callSpecial?_slot (name := Str.ofString "__next__") ty F.slot_zip_next (wpAny_call_entry F.slot_zip_next ty F.entry_zip_next (zg_item D hz hp ho h1 h2 c1 c2 hx hy fun g a1 a2 a3 a4 a5 a6 => ?_) (F.args_zip_next_1 _))))
  exact wpAny_pure (hQ g a1 a2 a3 a4 a5 a6)
theorem zg_over {t u : Bool} {z p o i j l m : Addr} {k : Nat} {xs ys : Array Value} {a b : Value} {Q : Option Value → Shared → Prop} (hh : A.handled = none) (D : ZipApart z p o i j l m) (hz : IsZip s.heap z p o .none) (hp : IsPair s.heap p (.ref i) (.ref j)) (ho : IsPair s.heap o a b)
    (h1 : Wkr t s.heap i l k) (h2 : Wkr u s.heap j m k) (c1 : Ctn t s.heap l xs) (c2 : Ctn u s.heap m ys) (hend : xs[k]? = none ∨ ys[k]? = none)
    (hQ : ∀ g, (∀ c v, c ∉ [z, o, i, j] → s.heap.get? c = some v → g.get? c = some v) → Q none { s with heap := g }) :
    wpAny (model prog w) A (pyNext (.ref z)) Q E s := by
  have ty : s.TypeIs (.ref z) "zip" := ⟨_, hz, rfl⟩
  unfold pyNext
  refine wpAny_bind (wpAny_attempt (wpAny_callSpecial?_slot (name := Str.ofString "__next__") ty F.slot_zip_next (wpAny_call_entry F.slot_zip_next ty F.entry_zip_next (zg_end hh D hz hp ho h1 h2 c1 c2 hend fun g e k1 ⟨v, hv, hc⟩ => ?_) (F.args_zip_next_1 _))))
  exact wpAny_bind (wpAny_isInstance (T := "StopIteration") (b := true) ⟨v, hv, hc⟩ isSubtype_stop (wpAny_pure (hQ g k1)))
theorem push_five {h0 : Heap} {a b c d e : Obj} (fa : a.isFreed = false) (fb : b.isFreed = false) (fc : c.isFreed = false) (fd : d.isFreed = false) (fe : e.isFreed = false) :
    let g := ((((h0.push a).push b).push c).push d).push e
    g.get? h0.objs.size = some a ∧ g.get? (h0.objs.size + 1) = some b ∧ g.get? (h0.objs.size + 2) = some c ∧ g.get? (h0.objs.size + 3) = some d ∧ g.get? (h0.objs.size + 4) = some e ∧ ∀ x v, h0.get? x = some v → g.get? x = some v := by
  intro g
  have k : ∀ (h : Heap) (o : Obj) x v, h.get? x = some v → (h.push o).get? x = some v := fun h o x v q => Heap.get?_push_of_some _ q
  have one : ∀ (h : Heap) (o : Obj) (n : Nat), o.isFreed = false → h.objs.size = n → (h.push o).get? n = some o := fun h o n f q => by rw [← q]; exact Heap.get?_push_size _ f
  refine ⟨?_, ?_, ?_, ?_, ?_, fun x v q => k _ _ _ _ (k _ _ _ _ (k _ _ _ _ (k _ _ _ _ (k _ _ _ _ q))))⟩
  · exact k _ _ _ _ (k _ _ _ _ (k _ _ _ _ (k _ _ _ _ (one _ _ _ fa rfl))))
  · exact k _ _ _ _ (k _ _ _ _ (k _ _ _ _ (one _ _ _ fb (by simp [Heap.size_push]))))
  · exact k _ _ _ _ (k _ _ _ _ (one _ _ _ fc (by simp [Heap.size_push])))
  · exact k _ _ _ _ (one _ _ _ fd (by simp [Heap.size_push]))
  · exact one _ _ _ fe (by simp [Heap.size_push])
/-- zip(a tuple, a list) is made -/
theorem zg_new (l m : Addr) (xs ys : Array Value) (ht : s.heap.IsTuple l xs) (hl : s.heap.IsList m ys) {Q : Value → Shared → Prop}
    (hQ : ∀ g, IsZip g (s.heap.objs.size + 4) (s.heap.objs.size + 2) (s.heap.objs.size + 3) .none → IsPair g (s.heap.objs.size + 2) (.ref s.heap.objs.size) (.ref (s.heap.objs.size + 1)) → IsPair g (s.heap.objs.size + 3) .none .none → Wkr true g s.heap.objs.size l 0 → Wkr false g (s.heap.objs.size + 1) m 0 →
      (∀ c v, s.heap.get? c = some v → g.get? c = some v) → Q (.ref (s.heap.objs.size + 4)) { s with heap := g }) : wpAny (model prog w) A (call (.type "zip") [.ref l, .ref m]) Q E s := by
  have M : Meets (Builtin.«zip.__new__» ⟨[.type "zip", .ref l, .ref m], []⟩) (fun _ R s => s.heap.IsTuple l xs ∧ s.heap.IsList m ys ∧ ∀ g, IsZip g (s.heap.objs.size + 4) (s.heap.objs.size + 2) (s.heap.objs.size + 3) .none ∧ IsPair g (s.heap.objs.size + 2) (.ref s.heap.objs.size) (.ref (s.heap.objs.size + 1)) ∧ IsPair g (s.heap.objs.size + 3) .none .none ∧ Wkr true g s.heap.objs.size l 0 ∧ Wkr false g (s.heap.objs.size + 1) m 0 ∧
      (∀ c v, s.heap.get? c = some v → g.get? c = some v) → R (.ok (.ret (.ref (s.heap.objs.size + 4)))) { s with heap := g }) := .of_wp fun prog w A R s h => by
    obtain ⟨h0, g, d, tk, os⟩ := s
    obtain ⟨a1, a2, h⟩ := h
    have sub := sub_zip
    have b1 : Heap.IsTuple (Shared.heap ⟨h0, g, d, tk, os⟩) l xs := a1
    have b2 : Heap.IsList (Shared.heap ⟨h0.push { cls := .type "tuple_iterator", data := .fields #[.ref l, .int 0 0] }, g, d, tk, os⟩) m ys := Heap.IsList.push a2 _
    wp_walk using wpAny_pyIter_tuple b1, wpAny_pyIter_list b2
    obtain ⟨p1, p2, p3, p4, p5, p6⟩ := push_five (h0 := h0) (a := { cls := .type "tuple_iterator", data := .fields #[.ref l, .int 0 0] }) (b := { cls := .type "list_iterator", data := .fields #[.ref m, .int 0 0] }) (c := { cls := .type "tuple", data := .seq #[.ref h0.objs.size, .ref (h0.objs.size + 1)] }) (d := { cls := .type "tuple", data := .seq #[.none, .none] }) (e := { cls := .type "zip", data := .fields #[.none, .bool false, .bool false, .ref (h0.objs.size + 2), .ref (h0.objs.size + 3)] }) rfl rfl rfl rfl rfl
    have R1 := h _ ⟨p5, p3, p4, ⟨_, p1, rfl, rfl⟩, ⟨_, p2, rfl, rfl⟩, p6⟩
    simp only [Heap.size_push] at R1 ⊢
    exact ⟨_, rfl, R1⟩
  exact callType_new F.called_zip (by decide) (F.typeCall_zip_2 _ _) (F.newCall_zip_2 _ _) (fun x => F.args_object_init_3 x _ _) F.entry_zip_new M ⟨ht, hl, fun g ⟨a1, a2, a3, a4, a5, a6⟩ => ⟨⟨_, a1, rfl⟩, hQ g a1 a2 a3 a4 a5 a6⟩⟩
end
open L2
/-- a tuple and a list walked at once -/
def ItzM (K : PySem.W.Frag) (a b : Addr) : L2.It where
  go i H := ∃ xs ys x y, SqT K H a xs ∧ SqL K H b ys ∧ xs[i]? = some x ∧ ys[i]? = some y
  yld i H v H' := ∃ T x y, v = .ref T ∧ H T = none ∧ H' = upd H T (.tup [x, y]) ∧ (∀ xs, SqT K H a xs → xs[i]? = some x) ∧ ∀ ys, SqL K H b ys → ys[i]? = some y
  stop i H := ∃ xs ys, SqT K H a xs ∧ SqL K H b ys ∧ (xs.length ≤ i ∨ ys.length ≤ i)
theorem turn_zipM {P : Program} {w : World} {K : PySem.W.Frag} {es : List Expr} {kk : Nat} {tp : Pos} {a b z p o i1 i2 : Addr} (D : ZipApart z p o i1 i2 a b) :
    Turn P w K (.Tuple es kk tp) (ItzM K a b) [z, p, o, i1, i2] z (fun i h => IsZip h z p o .none ∧ IsPair h p (.ref i1) (.ref i2) ∧ (∃ x y, IsPair h o x y) ∧ Wkr true h i1 a i ∧ Wkr false h i2 b i) where
  mem := by simp
  obj := fun i h ⟨f1, f2, ⟨x, y, f3⟩, ⟨q1, e1, _, d1⟩, ⟨q2, e2, _, d2⟩⟩ c hc => by
    simp only [List.mem_cons, List.not_mem_nil, or_false] at hc
    rcases hc with rfl | rfl | rfl | rfl | rfl
    · exact ⟨_, f1, nofun⟩
    · exact ⟨_, f2, nofun⟩
    · exact ⟨_, f3, nofun⟩
    · refine ⟨q1, e1, fun v q => ?_⟩
      rw [d1] at q; cases q
    · refine ⟨q2, e2, fun v q => ?_⟩
      rw [d2] at q; cases q
  keep := fun i h h' ⟨f1, f2, ⟨x, y, f3⟩, g1, g2⟩ k =>
    ⟨k z (by simp) _ f1, k p (by simp) _ f2, ⟨x, y, k o (by simp) _ f3⟩, Heap.IsTupleIter.at g1 fun v q => k i1 (by simp) v q, Heap.IsListIter.at g2 fun v q => k i2 (by simp) v q⟩
  item := by
    intro X hP hw hK hc i pins s σ H E I hf st hg
    subst hP hw hK
    obtain ⟨f1, f2, ⟨x0, y0, f3⟩, g1, g2⟩ := st
    obtain ⟨xs, ys, x, y, sx, sy, hx, hy⟩ := hg
    obtain ⟨its, rv, c1, _⟩ := I.tuple sx
    obtain ⟨its2, rv2, c2, _⟩ := I.list sy
    obtain ⟨u, hu, ru⟩ := rv.get hx
    obtain ⟨u2, hu2, ru2⟩ := rv2.get hy
    have lz := Heap.lt_size f1
    refine zg_next D f1 f2 f3 g1 g2 (xs := its.toArray) (ys := its2.toArray) c1 c2.isList (x := u) (y := u2) (by simpa using hu) (by simpa using hu2) fun g' z' o' g1' g2' t' ks => ?_
    refine ⟨_, rfl, wpAny_letOwnedTupleGo_zip (s := { s with heap := g' }) z' fun g'' z'' sb => ?_⟩
    have t2 : g''.get? s.heap.objs.size = some { cls := .type "tuple", data := .seq #[u, u2] } := by rw [sb.2 _ (Nat.ne_of_gt lz)]; exact t'
    have up : ∀ c v, c ∉ [z, p, o, i1, i2] → s.heap.get? c = some v → g''.get? c = some v := fun c v hb q => by
      simp only [List.mem_cons, List.not_mem_nil, or_false, not_or] at hb
      rw [sb.2 c hb.1]
      exact ks c v (by simp [hb.1, hb.2.2.1, hb.2.2.2.1, hb.2.2.2.2]) q
    have I1 : Inv X pins σ (upd H s.heap.objs.size (.tup [x, y])) { s with heap := g'' } :=
      I.turnedNew (t' := s.toks) (ch := [z, p, o, i1, i2]) up hf (Nat.le_refl _) ⟨(by decide : 2 ≤ sizeLine), [u, u2], .cons ru (.cons ru2 .nil), ⟨_, t2, rfl, _, rfl⟩⟩
    have mv : ∀ (t : Bool) (i l : Addr) (n : Nat), i ≠ z → Wkr t g' i l n → Wkr t g'' i l n := fun t i l n hi hw => by
      cases t
      · exact Heap.IsListIter.at hw fun v e => by rw [sb.2 _ hi]; exact e
      · exact Heap.IsTupleIter.at hw fun v e => by rw [sb.2 _ hi]; exact e
    refine ⟨.ref s.heap.objs.size, _, I1, rfl, ⟨_, x, y, rfl, I.hok.fresh (Nat.le_refl _), rfl, fun l hl => ?_, fun l hl => ?_⟩, ⟨z'', ?_, ⟨u, u2, ?_⟩, mv _ _ _ _ D.i1z g1', mv _ _ _ _ D.i2z g2'⟩, fun c hc => ?_⟩
    · rw [I.tuple_inj hl sx]; exact hx
    · rw [I.list_inj hl sy]; exact hy
    · rw [IsPair, sb.2 _ D.TIz]
      exact ks p _ (by simp [D.TIz, D.TITO, D.TIi1, D.TIi2]) f2
    · rw [IsPair, sb.2 _ D.TOz]; exact o'
    · have hlt : c < s.heap.objs.size := by
        simp only [List.mem_cons, List.not_mem_nil, or_false] at hc
        rcases hc with rfl | rfl | rfl | rfl | rfl
        · exact lz
        · exact Heap.lt_size f2
        · exact Heap.lt_size f3
        · obtain ⟨_, e1, _⟩ := g1; exact Heap.lt_size e1
        · obtain ⟨_, e1, _⟩ := g2; exact Heap.lt_size e1
      rw [upd_ne (Nat.ne_of_lt hlt)]
      exact (hf c hc).1
  done := by
    intro X hP hw hK hc i pins s σ H E I hf st hg
    subst hP hw hK
    obtain ⟨f1, f2, ⟨x0, y0, f3⟩, g1, g2⟩ := st
    obtain ⟨xs, ys, sx, sy, he⟩ := hg
    obtain ⟨its, rv, c1, _⟩ := I.tuple sx
    obtain ⟨its2, rv2, c2, _⟩ := I.list sy
    have n1 := rv.length
    have n2 := rv2.length
    refine zg_over (I.ok.hd hc) D f1 f2 f3 g1 g2 (xs := its.toArray) (ys := its2.toArray) c1 c2.isList (he.imp (fun q => by simp; omega) fun q => by simp; omega) fun g' ks => ⟨rfl, I.turnedL (t' := s.toks) (ch := [z, p, o, i1, i2]) (fun c v hb q => ks c v (fun h => hb ?_) q) hf⟩
    simp at h ⊢
    rcases h with h | h | h | h <;> simp [h]
  self := fun A i s Q E st h => wpAny_pyIter_zip st.1 h
/-- zip of two lists, of two tuples, of a tuple and a list -/
def iZipM (K : PySem.W.Frag) (ta : TA) : TI := fun σ H R => ta σ H fun vs H1 => ∃ a b xs ys, vs = [.ref a, .ref b] ∧ ((SqL K H1 a xs ∧ SqL K H1 b ys ∧ R (Itz K a b) H1) ∨ (SqT K H1 a xs ∧ SqT K H1 b ys ∧ R (RZ.ItzT K a b) H1) ∨ (SqT K H1 a xs ∧ SqL K H1 b ys ∧ R (ItzM K a b) H1))
theorem pi_zipM {X : Cx} {e e2 : Expr} {ta : TA} {p pos tp : Pos} {es : List Expr} {kk : Nat} (hg : Gl X "zip") (hm : X.mg "zip" = none) (ha : PA X [e, e2] ta) (hs : starEach [e, e2] X.env = (false, eval e X.env) :: starEach [e2] X.env) (hp : (backTo pos (starEach [e2] X.env)).any (·.1) = false) :
    PI X (.Tuple es kk tp) (.Call (.Name "zip" p) [e, e2] [] pos) (iZipM X.K ta) where
  run := fun pins s σ H R I h => by
    refine Call_ (ld_blt I hg hm PyProof.Rows.boot_zip (PyProof.Rows.callWith_type1 (thn (ha.run pos pins s σ H _ I h) ?_) hs hp))
    rintro us s1 ⟨vs, H1, I1, r1, a, b, xs, ys, rfl, q1⟩
    cases r1 with | cons r rr => cases rr with | cons r' rr =>
    cases rr; cases r; cases r'
    have fr : ∀ c ∈ [s1.heap.objs.size + 4, s1.heap.objs.size + 2, s1.heap.objs.size + 3, s1.heap.objs.size, s1.heap.objs.size + 1], FpOk X pins H1 c := fun c hc => by
      have le : s1.heap.objs.size ≤ c := by
        simp only [List.mem_cons, List.not_mem_nil, or_false] at hc
        omega
      exact I1.fpOk le (I1.hok.fresh le)
    rcases q1 with ⟨sx, sy, q⟩ | ⟨sx, sy, q⟩ | ⟨sx, sy, q⟩
    · obtain ⟨its, rv, c1, _⟩ := I1.list sx
      obtain ⟨its2, rv2, c2, _⟩ := I1.list sy
      exact call_zip_2 c1.isList c2.isList fun h' hz hi ho h1 h2 _ hk => wpAny_pyIter_zip hz ⟨s1.heap.objs.size + 4, _, _, _, H1, rfl, (I1.kept (t' := s1.toks) hk : Inv X pins σ H1 { s1 with heap := h' }), (turn_zip (PySem.W.ktu_apart s1.heap.objs.size a b c1.lt c2.lt)), ⟨hz, hi, ⟨_, _, ho⟩, h1, h2⟩, fr, q⟩
    · obtain ⟨its, rv, c1, _⟩ := I1.tuple sx
      obtain ⟨its2, rv2, c2, _⟩ := I1.tuple sy
      obtain ⟨v1, w1, _⟩ := id c1
      obtain ⟨v2, w2, _⟩ := id c2
      exact RZ.call_zipT (xs := its.toArray) (ys := its2.toArray) c1 c2 fun h' hz hi ho h1 h2 _ hk => wpAny_pyIter_zip hz ⟨s1.heap.objs.size + 4, _, _, _, H1, rfl, (I1.kept (t' := s1.toks) hk : Inv X pins σ H1 { s1 with heap := h' }), (RZ.turn_zipT (PySem.W.ktu_apart s1.heap.objs.size a b (Heap.lt_size w1) (Heap.lt_size w2))), ⟨hz, hi, ⟨_, _, ho⟩, h1, h2⟩, fr, q⟩
    · obtain ⟨its, rv, c1, _⟩ := I1.tuple sx
      obtain ⟨its2, rv2, c2, _⟩ := I1.list sy
      obtain ⟨v1, w1, _⟩ := id c1
      exact zg_new a b its.toArray its2.toArray c1 c2.isList fun h' hz hi ho h1 h2 hk => wpAny_pyIter_zip hz ⟨s1.heap.objs.size + 4, _, _, _, H1, rfl, (I1.kept (t' := s1.toks) hk : Inv X pins σ H1 { s1 with heap := h' }), (turn_zipM (PySem.W.ktu_apart s1.heap.objs.size a b (Heap.lt_size w1) c2.lt)), ⟨hz, hi, ⟨_, _, ho⟩, h1, h2⟩, fr, q⟩
end Ev
set_option Elab.async false
set_option linter.all false
set_option maxRecDepth 100000
set_option maxHeartbeats 2000000
/-! Ev6c: list.count of data. -/
namespace Ev
open PySem PySem.Spec PyProof.Rows L2
section
variable {X : Cx} {Z : Se}
theorem mtr_count (hK : X.K = Z.G.K) (hu : X.A.units + 65 < cLine) : MtR X "list.count" (rM Z .count) := by
  intro pins s σ H x xs v us Q I rx rxs q
  obtain ⟨ρ, d, l, S, vσ, sr, r1, r2, q⟩ := q
  cases l with
  | nil => cases r1 <;> exact q.elim
  | cons e l => cases l with
    | cons _ _ => cases r1 <;> exact q.elim
    | nil =>
      obtain ⟨w, ew, r3⟩ := reps1 r2
      subst ew
      cases r1 with
      | @ref n a h =>
        have q : Pst Z vσ (relD Z) H ρ Q (match lstOf S n with
          | some l => (match pyN S 20 e, optAll (l.map (pyN S 19)) with
            | some a, some bs => .ok (.int (bs.countP fun b => PyData.eqv b a)) S
            | _, _ => .bad)
          | none => .bad) := q
        cases h1 : lstOf S n with
        | none => rw [h1] at q; exact q.elim
        | some l =>
          rw [h1] at q
          dsimp only at q
          cases h2 : pyN S 20 e with
          | none => simp only [h2] at q; exact q.elim
          | some d => cases h3 : optAll (l.map (pyN S 19)) with
            | none => simp only [h2, h3] at q; exact q.elim
            | some ds =>
              simp only [h2, h3] at q
              obtain ⟨vs, k1, k2⟩ := lst_at sr h h1
              obtain ⟨d1, d2⟩ := dp_of sr 20 e w d r3 h2
              obtain ⟨b1, b2, b3⟩ := dps_of (fun d v p => dp_of sr 19 d v p) l vs ds k2 h3
              have sd := shaped_of d2 (by decide)
              have sl : SeqAt.shaped (.list ds) = true := shaped_of (n := 20) ⟨by simp [PyData.canLay0, b2], by simp only [PyData.depth]; omega⟩ (by decide)
              have hs : SqL X.K H a vs := .of k1
              cases rx
              obtain ⟨uy, rfl, ry⟩ := rxs.one
              obtain ⟨its, rv, ⟨⟨cls, dd, data, sls⟩, m, ho, hc, hdn, hdt⟩, hlen⟩ := I.list hs
              simp only at hc hdt
              subst hc hdt
              obtain ⟨bs, q1⟩ := Dp.reads I d w uy (by rw [hK]; exact d1) ry
              obtain ⟨as, q2⟩ := Dp.readsAll I ds vs its (by rw [hK]; exact b1) rv
              have lay : PyData.canLayAll0 ds = true := SeqAt.canLay_of_shaped sl
              have hm : its.map (SeqAt.readOf s.heap) = ds := SeqAt.readsAll_map ds its as lay q2
              refine call_meets PySem.F.slot_list_count ⟨_, ho, rfl⟩ PySem.F.entry_list_count (PySem.F.args_list_count_2 _ _)
                (SeqAt.list_countAt a its.toArray m dd sls uy (fun u => PyData.eqv (SeqAt.readOf s.heap u) d))
                ⟨ho, SeqAt.items_eqAt (vs := its.toArray) (show ReadsAll s.heap its.toArray.toList ds as from q2) q1 lay (SeqAt.canLay_of_shaped sd) (room_in_shaped sd hu), ?_⟩
              have ec : its.countP (fun u => PyData.eqv (SeqAt.readOf s.heap u) d) = ds.countP fun b => PyData.eqv b d := by
                rw [← hm, List.countP_map]; rfl
              refine ⟨.int (ds.countP fun b => PyData.eqv b d : Nat), H, I.tok _, ⟨s.toks, ?_⟩, Pst.ok (rel := relD Z) q sr (.int _)⟩
              show Value.int ((its.toArray.toList.countP _ : Nat) : Int) s.toks = _
              rw [← ec]
      | _ => exact q.elim
end
end Ev
set_option Elab.async false
set_option linter.all false
set_option maxRecDepth 100000
set_option maxHeartbeats 2000000
/-! Ev7: enumerate of a tuple, what is walked, comprehensions. -/
namespace Ev
open PySem PySem.Spec PyProof.Rows L2
open AutoSeq1 (wpAny_loadPart')

theorem meets_enumerate_newT (l : Addr) (items : Array Value) (n : Nat) (dct : Option Addr) (sl : Array (Option Value)) :
    Meets (Builtin.«enumerate.__new__» ⟨[.type "enumerate", .ref l], []⟩) (fun _ R s => s.heap.get? l = some { cls := .type "tuple", dict := dct, data := .seq items n, slots := sl } ∧
      R (.ok (.ret (.ref (s.heap.push { cls := .type "tuple_iterator", data := .fields #[.ref l, .int 0 0] }).objs.size)))
        { s with heap := (s.heap.push { cls := .type "tuple_iterator", data := .fields #[.ref l, .int 0 0] }).push { cls := .type "enumerate", data := .fields #[.none, .bool false, .ref s.heap.objs.size, rawInt 0, .none, .none] } }) :=
  .of_wp fun prog w A R s h => by
    obtain ⟨hp, g, d, tk, os⟩ := s; obtain ⟨hl, h⟩ := h
    have hsub := sub_enumerate
    have hL : Heap.IsTuple (Shared.heap ⟨hp, g, d, tk, os⟩) l items := ⟨_, hl, rfl, n, rfl⟩
    wp_walk using wpAny_loadPart' hl
    refine wpAny_stack_any fun st => wpAny_pure ?_
    split
    · rename_i c _ _ _ _ _
      cases (c == Value.type "enumerate")
      · wp_walk using wpAny_loadPart' hl, wpAny_pyIter_tuple hL
        exact ⟨_, rfl, h⟩
      · wp_walk using wpAny_loadPart' hl, wpAny_pyIter_tuple hL
        exact ⟨_, rfl, h⟩
    · wp_walk using wpAny_loadPart' hl, wpAny_pyIter_tuple hL
      exact ⟨_, rfl, h⟩
theorem call_enumerate_tuple {prog : Program} {w : World} {A : Around} {E : Value → Shared → Prop} {s : Shared} {l : Addr} {items : Array Value} {Q : Value → Shared → Prop} (hL : s.heap.IsTuple l items)
    (h : ∀ h', IsEnum h' (s.heap.objs.size + 1) s.heap.objs.size 0 .none → h'.IsTupleIter s.heap.objs.size l 0 → h'.objs.size = s.heap.objs.size + 2 →
      (∀ b o, s.heap.get? b = some o → h'.get? b = some o) → Q (.ref (s.heap.objs.size + 1)) { s with heap := h' }) :
    wpAny (model prog w) A (call (.type "enumerate") [.ref l]) Q E s := by
  obtain ⟨⟨c, dct, dt, sl⟩, hl, hc, n, hd⟩ := hL
  replace hc : c = .type "tuple" := hc
  replace hd : dt = .seq items n := hd
  subst hc hd
  refine callType_new F.called_enumerate (by decide) (F.typeCall_enumerate_1 _) (F.newCall_enumerate_1 _) (fun obj => F.args_object_init_2 obj _) F.entry_enumerate_new
    (meets_enumerate_newT l items n dct sl) ⟨hl, ?_⟩
  have hz : (s.heap.push { cls := .type "tuple_iterator", data := .fields #[.ref l, .int 0 0] }).objs.size = s.heap.objs.size + 1 := Heap.size_push ..
  show _ ∧ _
  rw [hz]
  have he : IsEnum ((s.heap.push { cls := .type "tuple_iterator", data := .fields #[.ref l, .int 0 0] }).push
      { cls := .type "enumerate", data := .fields #[.none, .bool false, .ref s.heap.objs.size, rawInt 0, .none, .none] }) (s.heap.objs.size + 1) s.heap.objs.size 0 .none := by
    have := Heap.get?_push_size (s.heap.push { cls := .type "tuple_iterator", data := .fields #[.ref l, .int 0 0] })
      (o := { cls := .type "enumerate", data := .fields #[.none, .bool false, .ref s.heap.objs.size, rawInt 0, .none, .none] }) rfl
    rw [hz] at this; exact this
  refine ⟨⟨_, he, rfl⟩, h _ he ⟨_, Heap.get?_push_of_some _ (Heap.get?_push_size _ rfl), rfl, rfl⟩ (by rw [Heap.size_push, hz]) fun b o x => Heap.get?_push_of_some _ (Heap.get?_push_of_some _ x)⟩

def IteT (K : PySem.W.Frag) (a : Addr) : L2.It :=
  ⟨fun i H => ∃ (xs : List V) (x : V), SqT K H a xs ∧ xs[i]? = some x, fun i H v H' => ∃ T x, v = .ref T ∧ H T = none ∧ H' = upd H T (.tup [.int (i : Nat), x]) ∧ ∀ xs, SqT K H a xs → xs[i]? = some x, fun i H => ∃ xs : List V, SqT K H a xs ∧ xs.length ≤ i⟩
theorem turn_enumT {P : Program} {w : World} {K : PySem.W.Frag} {elts : List Expr} {kk : Nat} {tpos : Pos} (a e it : Addr) :
    Turn P w K (.Tuple elts kk tpos) (IteT K a) [e, it] e (fun i h => (∃ old, IsEnum h e it ((i : Nat) : Int) old) ∧ h.IsTupleIter it a i ∧ e ≠ it ∧ a ≠ it) where
  mem := by simp
  obj := fun i h st b hb => by
    obtain ⟨⟨old, he⟩, ⟨o, ho, hc, hd⟩, _⟩ := st
    have e' : b = e ∨ b = it := by simpa using hb
    rcases e' with z | z
    · rw [z]; exact ⟨_, he, fun v q => nomatch q⟩
    · rw [z]; exact ⟨o, ho, fun v q => by rw [hd] at q; cases q⟩
  keep := fun i h h' st k => let ⟨⟨old, he⟩, hi, hne⟩ := st; ⟨⟨old, k e (by simp) _ he⟩, hi.at fun o q => k it (by simp) o q, hne⟩
  item := by
    intro X hP hw hK hc i pins s σ H E I hf st hg
    subst hP hw hK
    obtain ⟨⟨old, he⟩, hit, hne, hai⟩ := st
    obtain ⟨xs, x, hq, hx⟩ := hg
    obtain ⟨its, rv, p, hz⟩ := I.tuple hq
    obtain ⟨u, hu, ru⟩ := rv.get hx
    have hel : e < s.heap.objs.size := Heap.lt_size he
    have hil : it < s.heap.objs.size := by obtain ⟨_, q, _⟩ := hit; exact Heap.lt_size q
    have hae : e ≠ a := fun z => by
      obtain ⟨o, ho, hc, _⟩ := p
      rw [← z, he] at ho
      cases ho
      injection hc with hc
      exact absurd hc (by decide)
    refine wpAny_pyNext_enum_itemD (Draws.tuple (A := X.A.in1) (I.ok.hd hc) it a hai its.toArray) he ⟨hit, p⟩ (by simpa using (List.getElem?_eq_some_iff.mp hu).1) hne (by simp [hne, hae]) fun y h' tk hP ho st' hT hsz hk => ?_
    have ey : u = y := by
      have e1 : its[i]? = some y := by simpa using hP
      rw [hu] at e1; exact Option.some.inj e1
    subst ey
    refine ⟨_, rfl, wpAny_letOwnedTupleGo_enum (s := { s with heap := h', toks := tk + 1 }) ho fun h'' he' sb => ?_⟩
    have hT2 : h''.get? s.heap.objs.size = some { cls := .type "tuple", data := .seq #[.int i tk, u] } := (sb.2 _ (Nat.ne_of_gt hel)).trans hT
    have new : ObjOk X.prog X.w (upd H s.heap.objs.size (.tup [.int (i : Nat), x])) h'' s.heap.objs.size (.tup [.int (i : Nat), x]) :=
      ⟨by show 2 ≤ sizeLine; decide, [.int i tk, u], .cons ⟨_, rfl⟩ (.cons ru .nil), ⟨_, hT2, rfl, _, rfl⟩⟩
    have I1 : Inv X pins σ (upd H s.heap.objs.size (.tup [.int (i : Nat), x])) { s with heap := h'', toks := tk + 1 } :=
      I.turnedNew (ch := [e, it]) (fun b ob hb q => (sb.2 b (fun z => hb (by simp [z]))).trans (hk b ob (fun z => hb (by simp [z])) (fun z => hb (by simp [z])) q)) hf (Nat.le_refl _) new
    refine ⟨.ref s.heap.objs.size, _, I1, rfl, ⟨_, x, rfl, I.hok.fresh (Nat.le_refl _), rfl, fun ys hy => by rw [I.tuple_inj hy hq]; exact hx⟩, ⟨⟨u, ?_⟩, st'.1.at fun o q => (sb.2 it (Ne.symm hne)).trans q, hne, hai⟩, fun b hb => ?_⟩
    · have e1 : ((i + 1 : Nat) : Int) = (i : Int) + 1 := by omega
      rw [e1]; exact he'
    · have hb' : b < s.heap.objs.size := by
        have e' : b = e ∨ b = it := by simpa using hb
        rcases e' with z | z
        · rw [z]; exact hel
        · rw [z]; exact hil
      rw [upd_ne (Nat.ne_of_lt hb')]
      exact (hf b hb).1
  done := by
    intro X hP hw hK hc i pins s σ H E I hf st hg
    subst hP hw hK
    obtain ⟨⟨old, he⟩, hit, hne, hai⟩ := st
    obtain ⟨xs, hq, hx⟩ := hg
    obtain ⟨its, rv, p, hz⟩ := I.tuple hq
    obtain ⟨f0, f1, f2, f3, f4, f5⟩ := hf it (by simp)
    have hl := rv.length
    have D := Draws.tuple (prog := X.prog) (w := X.w) (A := X.A.in1) (I.ok.hd hc) it a hai its.toArray
    have hT : s.TypeIs (.ref e) "enumerate" := ⟨_, he, rfl⟩
    unfold pyNext
    refine wpAny_bind (wpAny_attempt (wpAny_callSpecial?_slot (name := Str.ofString "__next__") hT F.slot_enumerate_next
      (wpAny_call_entry F.slot_enumerate_next hT F.entry_enumerate_next ?_ (F.args_enumerate_next_1 _))))
    show wpAny _ _ (field (.ref e) 2 >>= _) _ _ _
    refine wpAny_bind (wpAny_field he rfl (x := .ref it) rfl ?_)
    refine wpAny_bind (wpAny_nextOf_tuple_end (I.ok.hd hc) hit (show s.heap.IsTuple a its.toArray from p) (by simp; omega) fun h' x he' hx' => ?_)
    obtain ⟨o, ho, hc'⟩ := hx'
    refine wpAny_bind (wpAny_isInstance (T := "StopIteration") (b := true) ⟨o, ho, hc'⟩ isSubtype_stop ?_)
    exact wpAny_pure ⟨rfl, I.turned (t' := s.toks) (fun b o hb q => he' b o hb q) f0 f1 f3 f4 f5⟩
  self := fun A i s Q E st h => let ⟨⟨_, he⟩, _⟩ := st; wpAny_pyIter_enum he h
section
variable {Z : Se} {X : Cx} {a b c e : Expr} {fa fb fc : List D → Store → R D} {pos : Pos} {es : List Expr} {fl : List D → Store → R (List D)}
theorem pi_enumT {ta : TA} {p tpos : Pos} {elts : List Expr} {kk : Nat} (hg : Gl X "enumerate") (hm : X.mg "enumerate" = none) (ha : PA X [e] ta) (hs : starEach [e] X.env = [(false, eval e X.env)]) :
    PI X (.Tuple elts kk tpos) (.Call (.Name "enumerate" p) [e] [] pos) (fun σ H R => ta σ H fun vs H1 => ∃ a xs, vs = [.ref a] ∧ ((SqL X.K H1 a xs ∧ R (Ite X.K a) H1) ∨ (SqT X.K H1 a xs ∧ R (IteT X.K a) H1))) := by
  refine ⟨fun pins s σ H R I h => ?_⟩
  refine Call_ (ld_blt I hg hm boot_enumerate (PyProof.Rows.callWith_type1 (thn (ha.run pos pins s σ H _ I h) fun us s1 ⟨vs, H1, I1, r1, q1⟩ => ?_) hs rfl))
  obtain ⟨a, xs, ex, q1⟩ := q1
  subst ex
  cases r1 with
  | cons r rr =>
    cases rr
    cases r
    have fp : ∀ b ∈ [s1.heap.objs.size + 1, s1.heap.objs.size], FpOk X pins H1 b := fun b hb => by
      have e' : b = s1.heap.objs.size + 1 ∨ b = s1.heap.objs.size := by simpa using hb
      have hle : s1.heap.objs.size ≤ b := by
        rcases e' with z | z
        · rw [z]; exact Nat.le_add_right _ _
        · rw [z]; exact Nat.le_refl _
      exact I1.fpOk hle (I1.hok.fresh hle)
    rcases q1 with ⟨hq, q⟩ | ⟨hq, q⟩
    · obtain ⟨its, rv, p', hz⟩ := I1.list hq
      refine call_enumerate_list p'.isList fun h' he hit hsz hk => wpAny_pyIter_enum he ?_
      have I2 : Inv X pins σ H1 { s1 with heap := h' } := I1.kept (t' := s1.toks) hk
      exact ⟨s1.heap.objs.size + 1, [s1.heap.objs.size + 1, s1.heap.objs.size], _, _, H1, rfl, I2, turn_enum a (s1.heap.objs.size + 1) s1.heap.objs.size, ⟨⟨.none, he⟩, hit, Nat.succ_ne_self _⟩, fp, q⟩
    · obtain ⟨its, rv, p', hz⟩ := I1.tuple hq
      have hne : a ≠ s1.heap.objs.size := Nat.ne_of_lt (IsTup.lt p')
      refine call_enumerate_tuple p' fun h' he hit hsz hk => wpAny_pyIter_enum he ?_
      have I2 : Inv X pins σ H1 { s1 with heap := h' } := I1.kept (t' := s1.toks) hk
      exact ⟨s1.heap.objs.size + 1, [s1.heap.objs.size + 1, s1.heap.objs.size], _, _, H1, rfl, I2, turn_enumT a (s1.heap.objs.size + 1) s1.heap.objs.size, ⟨⟨.none, he⟩, hit, Nat.succ_ne_self _, hne⟩, fp, q⟩
/-- any list, any tuple -/
theorem pi_seq {tg l : Expr} {tl : TE} (hl : PE X l tl) : PI X tg l (fun σ H R => tl σ H fun x H1 => ∃ a xs, x = .ref a ∧ ((SqL X.K H1 a xs ∧ R (Itl X.K a) H1) ∨ (SqT X.K H1 a xs ∧ R (Itt X.K a) H1))) := by
  refine ⟨fun pins s σ H R I h => ?_⟩
  refine thn (hl.run pins s σ H _ I h) fun v s1 ⟨x, H1, I1, r1, q1⟩ => ?_
  obtain ⟨a, xs, e, q1⟩ := q1
  subst e
  cases r1
  have fp : ∀ b ∈ [s1.heap.objs.size], FpOk X pins H1 b := fun b hb => by
    have e : b = s1.heap.objs.size := by simpa using hb
    subst e
    exact I1.fpOk (Nat.le_refl _) (I1.hok.fresh (Nat.le_refl _))
  rcases q1 with ⟨hq, q⟩ | ⟨hq, q⟩
  · obtain ⟨its, rv, p, hz⟩ := I1.list hq
    refine wpAny_pyIter_list p.isList ?_
    exact ⟨s1.heap.objs.size, [s1.heap.objs.size], _, _, H1, rfl, I1.kept (t' := s1.toks) fun b o e => Heap.get?_push_of_some _ e, turn_list a _, ⟨_, Heap.get?_push_size _ rfl, rfl, rfl⟩, fp, q⟩
  · obtain ⟨its, rv, p, hz⟩ := I1.tuple hq
    refine wpAny_pyIter_tuple (show s1.heap.IsTuple a its.toArray from p) ?_
    exact ⟨s1.heap.objs.size, [s1.heap.objs.size], _, _, H1, rfl, I1.kept (t' := s1.toks) fun b o e => Heap.get?_push_of_some _ e, turn_tuple a _, ⟨_, Heap.get?_push_size _ rfl, rfl, rfl⟩, fp, q⟩
theorem imp_tvI {f : List D → Store → R Src} {vσ : L2.St} {H : Hp} {Q Q' : L2.It → Hp → Prop} (q : tvI Z f vσ H Q) (k : ∀ v H', Q v H' → Q' v H') : tvI Z f vσ H Q' := by
  obtain ⟨ρ, σ, S, r, s, q⟩ := q
  exact ⟨ρ, σ, S, r, s, q.imp k⟩
theorem i_seq {tg : Expr} (hK : X.K = Z.G.K) (ha : PE X a (tv Z fa)) : PI X tg a (tvI Z fun σ S => (fa σ S).bind fun d S => orBad (srcD d S) fun s => .ok s S) :=
  imp_PI (pi_seq ha) fun vσ H Q q => imp_tv (one q) fun x H1 ⟨ρ, dx, S, s, r, q⟩ => by
    obtain ⟨src, h, q⟩ := Pst.orBad q
    cases r with
    | @tup a vs l t r =>
      have h : some (⟨l, []⟩ : Src) = some src := h
      cases h
      exact ⟨a, vs, rfl, .inr ⟨by rw [hK]; exact t.t, Pst.ok (rel := relI Z) q s (serves_tup hK t r)⟩⟩
    | @rl a vs l t r =>
      have h : some (⟨l, []⟩ : Src) = some src := h
      cases h
      exact ⟨a, vs, rfl, .inl ⟨by rw [hK]; exact t.l, Pst.ok (rel := relI Z) q s (serves_rl hK t r)⟩⟩
    | @ref n a e =>
      have h : (lstOf S n).map (fun l => (⟨l, [(n, l)]⟩ : Src)) = some src := h
      cases e1 : lstOf S n with
      | none => rw [e1] at h; cases h
      | some l =>
        rw [e1] at h
        cases h
        obtain ⟨vs, k1, k2⟩ := lst_at s e e1
        exact ⟨a, vs, rfl, .inl ⟨.of k1, Pst.ok (rel := relI Z) q s (serves_lst hK e)⟩⟩
    | _ => cases h
theorem zip_get {l m : List D} {i : Nat} {d : D} (h : (List.zipWith (fun x y => D.tup [x, y]) l m)[i]? = some d) : ∃ x y, l[i]? = some x ∧ m[i]? = some y ∧ d = .tup [x, y] := by
  rw [List.getElem?_zipWith] at h
  cases e1 : l[i]? with
  | none => rw [e1] at h; cases h
  | some x => cases e2 : m[i]? with
    | none => rw [e1, e2] at h; cases h
    | some y => rw [e1, e2] at h; cases h; exact ⟨x, y, rfl, rfl, rfl⟩
theorem serves_zipT {H : Hp} {ρ : List Addr} {a b : Addr} {l m : List D} {vs ws : List V} (hK : X.K = Z.G.K) (t : SqU Z.G.K H a vs) (r : Reps Z.G Z.cc H ρ l vs) (t' : SqU Z.G.K H b ws) (r' : Reps Z.G Z.cc H ρ m ws) :
    Serves Z H ρ ⟨List.zipWith (fun x y => .tup [x, y]) l m, []⟩ (RZ.ItzT X.K a b) := fun i H1 ρ1 S e p s ok => by
  have t1 : SqT X.K H1 a vs := by rw [hK]; exact (SqU.hx e t).t
  have t2 : SqT X.K H1 b ws := by rw [hK]; exact (SqU.hx e t').t
  have k1 := Reps.mono e p r
  have k2 := Reps.mono e p r'
  refine ⟨fun hi => ⟨vs, ws, t1, t2, ?_⟩, fun d hd => ?_⟩
  · simp only [List.length_zipWith] at hi
    have := k1.length
    have := k2.length
    omega
  · obtain ⟨x, y, h1, h2, rfl⟩ := zip_get hd
    obtain ⟨v, hv, rv⟩ := k1.get h1
    obtain ⟨u, hu, ru⟩ := k2.get h2
    refine ⟨⟨vs, ws, v, u, t1, t2, hv, hu⟩, ?_⟩
    rintro z H' ⟨T, x', y', rfl, hT, rfl, hx, hy⟩
    have a1 := hx vs t1
    have a2 := hy ws t2
    rw [hv] at a1; cases a1
    rw [hu] at a2; cases a2
    exact ⟨HX.new hT, s.laid hT, .tup (.inl upd_same) (Reps.mono (HX.new hT) (PX.refl _) (.cons rv (.cons ru .nil)))⟩
theorem serves_zipL {H : Hp} {ρ : List Addr} {n k : Nat} {a b : Addr} {l m : List D} (hK : X.K = Z.G.K) (h : ρ[n]? = some a) (h' : ρ[k]? = some b) :
    Serves Z H ρ ⟨List.zipWith (fun x y => .tup [x, y]) l m, [(n, l), (k, m)]⟩ (Itz X.K a b) := fun i H1 ρ1 S e p s ok => by
  obtain ⟨vs, a1, k1⟩ := lst_at s (p _ _ h) (src_at ok (n := n) (l := l) (by simp))
  obtain ⟨ws, a2, k2⟩ := lst_at s (p _ _ h') (src_at ok (n := k) (l := m) (by simp))
  have t1 : SqL X.K H1 a vs := .of a1
  have t2 : SqL X.K H1 b ws := .of a2
  refine ⟨fun hi => ⟨vs, ws, t1, t2, ?_⟩, fun d hd => ?_⟩
  · simp only [List.length_zipWith] at hi
    have := k1.length
    have := k2.length
    omega
  · obtain ⟨x, y, h1, h2, rfl⟩ := zip_get hd
    obtain ⟨v, hv, rv⟩ := k1.get h1
    obtain ⟨u, hu, ru⟩ := k2.get h2
    refine ⟨⟨vs, ws, v, u, t1, t2, hv, hu⟩, ?_⟩
    rintro z H' ⟨T, x', y', rfl, hT, rfl, hx, hy⟩
    have a1 := hx vs t1
    have a2 := hy ws t2
    rw [hv] at a1; cases a1
    rw [hu] at a2; cases a2
    exact ⟨HX.new hT, s.laid hT, .tup (.inl upd_same) (Reps.mono (HX.new hT) (PX.refl _) (.cons rv.any (.cons ru.any .nil)))⟩
theorem enum_get {l : List D} {i : Nat} {d : D} (h : (l.mapIdx fun i x => D.tup [.int i, x])[i]? = some d) : ∃ x, l[i]? = some x ∧ d = .tup [.int i, x] := by
  rw [List.getElem?_mapIdx] at h
  cases e1 : l[i]? with
  | none => rw [e1] at h; cases h
  | some x => rw [e1] at h; cases h; exact ⟨x, rfl, rfl⟩
theorem serves_enumT {H : Hp} {ρ : List Addr} {a : Addr} {l : List D} {vs : List V} (hK : X.K = Z.G.K) (t : SqU Z.G.K H a vs) (r : Reps Z.G Z.cc H ρ l vs) :
    Serves Z H ρ ⟨l.mapIdx fun i x => .tup [.int i, x], []⟩ (IteT X.K a) := fun i H1 ρ1 S e p s ok => by
  have t1 : SqT X.K H1 a vs := by rw [hK]; exact (SqU.hx e t).t
  have k1 := Reps.mono e p r
  refine ⟨fun hi => ⟨vs, t1, by simpa [k1.length] using hi⟩, fun d hd => ?_⟩
  obtain ⟨x, h1, rfl⟩ := enum_get hd
  obtain ⟨v, hv, rv⟩ := k1.get h1
  refine ⟨⟨vs, v, t1, hv⟩, ?_⟩
  rintro z H' ⟨T, x', rfl, hT, rfl, hx⟩
  have a1 := hx vs t1
  rw [hv] at a1; cases a1
  exact ⟨HX.new hT, s.laid hT, .tup (.inl upd_same) (Reps.mono (HX.new hT) (PX.refl _) (.cons (.int _) (.cons rv .nil)))⟩
theorem serves_enumL {H : Hp} {ρ : List Addr} {n : Nat} {a : Addr} {l : List D} (hK : X.K = Z.G.K) (h : ρ[n]? = some a) :
    Serves Z H ρ ⟨l.mapIdx fun i x => .tup [.int i, x], [(n, l)]⟩ (Ite X.K a) := fun i H1 ρ1 S e p s ok => by
  obtain ⟨vs, a1, k1⟩ := lst_at s (p _ _ h) (src_at ok (n := n) (l := l) (by simp))
  have t1 : SqL X.K H1 a vs := .of a1
  refine ⟨fun hi => ⟨vs, t1, by simpa [k1.length] using hi⟩, fun d hd => ?_⟩
  obtain ⟨x, h1, rfl⟩ := enum_get hd
  obtain ⟨v, hv, rv⟩ := k1.get h1
  refine ⟨⟨vs, v, t1, hv⟩, ?_⟩
  rintro z H' ⟨T, x', rfl, hT, rfl, hx⟩
  have a1 := hx vs t1
  rw [hv] at a1; cases a1
  exact ⟨HX.new hT, s.laid hT, .tup (.inl upd_same) (Reps.mono (HX.new hT) (PX.refl _) (.cons (.int _) (.cons rv.any .nil)))⟩
theorem i_rng1 {tg : Expr} {p : Pos} (hg : Gl X "range") (hm : X.mg "range" = none) (hp : plainE a = true) (ha : PA X [a] (tvL Z fl)) :
    PI X tg (.Call (.Name "range" p) [a] [] pos) (tvI Z fun σ S => (fl σ S).bind fun l S => match l with | [_] => orBad (srcB .range l S) fun s => .ok s S | _ => .bad) :=
  imp_PI (pi_range1 hg hm ha (starEach_plain hp _ _)) fun vσ H Q q => imp_tvL (args q) fun vs H1 ⟨ρ, l, S, s, r, q⟩ => by
    cases l with
    | nil => exact q.elim
    | cons d l => cases l with
      | cons _ _ => exact q.elim
      | nil =>
        obtain ⟨src, h, q⟩ := Pst.orBad q
        obtain ⟨v, ev, r1⟩ := reps1 r
        subst ev
        cases r1 with
        | int j =>
          have h : (if -(2 ^ 62) ≤ j ∧ j < 2 ^ 62 then some (⟨rngD 0 j.toNat, []⟩ : Src) else none) = some src := h
          split at h
          · rename_i hj
            cases h
            exact ⟨j, rfl, hj.1, hj.2, Pst.ok (rel := relI Z) q s (serves_rng 0 j.toNat)⟩
          · cases h
        | _ => cases h
theorem i_rng2 {tg : Expr} {p : Pos} (hg : Gl X "range") (hm : X.mg "range" = none) (hp : plainE a = true) (hp' : plainE b = true) (ha : PA X [a, b] (tvL Z fl)) :
    PI X tg (.Call (.Name "range" p) [a, b] [] pos) (tvI Z fun σ S => (fl σ S).bind fun l S => match l with | [_, _] => orBad (srcB .range l S) fun s => .ok s S | _ => .bad) :=
  imp_PI (pi_range2 hg hm ha (by rw [starEach_plain hp, starEach_plain hp'] <;> rfl) (starEach_plain hp' _ _)) fun vσ H Q q => imp_tvL (args q) fun vs H1 ⟨ρ, l, S, s, r, q⟩ => by
    cases l with
    | nil => exact q.elim
    | cons d l => cases l with
      | nil => exact q.elim
      | cons d2 l => cases l with
        | cons _ _ => exact q.elim
        | nil =>
          obtain ⟨src, h, q⟩ := Pst.orBad q
          obtain ⟨v, w, ev, r1, r2⟩ := reps2 r
          subst ev
          cases r1 with
          | int i => cases r2 with
            | int j =>
              have h : (if (-(2 ^ 62) ≤ i) ∧ i < 2 ^ 62 ∧ -(2 ^ 62) ≤ j ∧ j < 2 ^ 62 then some (⟨rngD i (j - i).toNat, []⟩ : Src) else none) = some src := h
              split at h
              · rename_i hj
                cases h
                exact ⟨i, j, rfl, hj, Pst.ok (rel := relI Z) q s (serves_rng i (j - i).toNat)⟩
              · cases h
            | _ => cases h
          | _ => cases r2 <;> cases h
theorem serves_rngDn {H : Hp} {ρ : List Addr} (lo : Int) (n : Nat) : Serves Z H ρ ⟨rngDn lo n, []⟩ (Itc lo (-1) n) := fun i H1 ρ1 S e p s ok => by
  refine ⟨fun hi => (by simpa [rngDn] using hi : n ≤ i), fun d hd => ?_⟩
  unfold rngDn at hd
  rw [List.getElem?_map] at hd
  by_cases hi : i < n
  · rw [List.getElem?_range hi] at hd
    have hd : D.int (lo + (i : Nat) * (-1)) = d := Option.some.inj hd
    subst hd
    refine ⟨hi, ?_⟩
    rintro x H' ⟨rfl, rfl⟩
    exact ⟨HX.refl _, s, .int _⟩
  · rw [List.getElem?_eq_none (by simpa using hi)] at hd
    cases hd
theorem i_rng3 {tg c : Expr} {p : Pos} (hg : Gl X "range") (hm : X.mg "range" = none) (hp : plainE a = true) (hp' : plainE b = true) (hp2 : plainE c = true) (ha : PA X [a, b, c] (tvL Z fl)) :
    PI X tg (.Call (.Name "range" p) [a, b, c] [] pos) (tvI Z fun σ S => (fl σ S).bind fun l S => match l with | [_, _, _] => orBad (srcB .range l S) fun s => .ok s S | _ => .bad) :=
  imp_PI (pi_range3 hg hm ha (starEach_plain hp _ _) (noStar (by simp [hp', hp2]))) fun vσ H Q q => imp_tvL (args q) fun vs H1 ⟨ρ, l, S, s, r, q⟩ => by
    cases l with
    | nil => exact q.elim
    | cons d l => cases l with
      | nil => exact q.elim
      | cons d2 l => cases l with
        | nil => exact q.elim
        | cons d3 l => cases l with
          | cons _ _ => exact q.elim
          | nil =>
            obtain ⟨src, h, q7⟩ := Pst.orBad q
            cases r with
            | cons r1 r => cases r with
              | cons r2 r => cases r with
                | cons r3 r => cases r; cases r1 with
                  | int i => cases r2 with
                    | int j => cases r3 with
                      | int k =>
                        have h' : (if k = -1 ∧ -(2 ^ 62) ≤ i ∧ i < 2 ^ 62 ∧ -(2 ^ 62) ≤ j ∧ j < 2 ^ 62 then some (⟨rngDn i (i - j).toNat, []⟩ : Src) else none) = some src := h
                        by_cases hj : k = -1 ∧ -(2 ^ 62) ≤ i ∧ i < 2 ^ 62 ∧ -(2 ^ 62) ≤ j ∧ j < 2 ^ 62
                        · rw [if_pos hj] at h'
                          obtain ⟨hk, h1, h2, h3, h4⟩ := hj
                          subst hk
                          have hs : src = ⟨rngDn i (i - j).toNat, []⟩ := (Option.some.inj h').symm
                          rw [hs] at q7
                          exact ⟨i, j, -1, (i - j).toNat, rfl, RgC.neg h1 h2 h3 h4, Pst.ok (rel := relI Z) q7 s (serves_rngDn i (i - j).toNat)⟩
                        · rw [if_neg hj] at h'
                          cases h'
                      | _ => cases h
                    | _ => cases r3 <;> cases h
                  | _ => cases r2 <;> cases r3 <;> cases h
theorem p_lrng {p p2 pos2 : Pos} (hc : X.calm = true) (hg : Gl X "list") (hm : X.mg "list" = none) (hg2 : Gl X "range") (hm2 : X.mg "range" = none) (hp : plainE a = true) (ha : PE X a (tv Z fa)) :
    PE X (.Call (.Name "list" p) [.Call (.Name "range" p2) [a] [] pos2] [] pos) (tv Z fun σ S => (fa σ S).bind fun x S => match x with
      | .int j => R.when (decide (-(2 ^ 62) ≤ j) && decide (j ≤ 16777216)) (new (rngD 0 j.toNat) S)
      | _ => .bad) :=
  imp_PE (pe_listRg hc hg hm (prg_1 hg2 hm2 ha (starEach_plain hp _ _)) (by rfl)) fun vσ H Q q => imp_tv (one q) fun x H1 ⟨ρ, dx, S, s, r, q⟩ => by
    cases r with
    | int j =>
      dsimp only at q
      obtain ⟨hb, q⟩ := q.when
      simp only [Bool.and_eq_true, decide_eq_true_eq] at hb
      have rv : Reps Z.G Z.cc H1 ρ (rngD 0 j.toNat) (rgV 0 j) := by
        unfold rngD rgV
        rw [Int.sub_zero]
        generalize List.range j.toNat = l
        induction l with
        | nil => exact .nil
        | cons n l ih => exact .cons (.int _) ih
      exact ⟨j, rfl, ⟨by decide, by decide, hb.1, by omega, by omega⟩, (new_ok q s rv).2⟩
    | _ => exact q.elim
theorem serves_zipM {H : Hp} {ρ : List Addr} {k : Nat} {a b : Addr} {l m : List D} {vs : List V} (hK : X.K = Z.G.K) (t : SqU Z.G.K H a vs) (r : Reps Z.G Z.cc H ρ l vs) (h' : ρ[k]? = some b) :
    Serves Z H ρ ⟨List.zipWith (fun x y => .tup [x, y]) l m, [(k, m)]⟩ (ItzM X.K a b) := fun i H1 ρ1 S e p s ok => by
  have t1 : SqT X.K H1 a vs := by rw [hK]; exact (SqU.hx e t).t
  have k1 := Reps.mono e p r
  obtain ⟨ws, a2, k2⟩ := lst_at s (p _ _ h') (src_at ok (n := k) (l := m) (by simp))
  have t2 : SqL X.K H1 b ws := .of a2
  refine ⟨fun hi => ⟨vs, ws, t1, t2, ?_⟩, fun d hd => ?_⟩
  · have n1 := k1.length
    have n2 := k2.length
    simp only [List.length_zipWith] at hi
    omega
  · obtain ⟨x, y, h1, h2, rfl⟩ := zip_get hd
    obtain ⟨v, hv, rv⟩ := k1.get h1
    obtain ⟨u, hu, ru⟩ := k2.get h2
    refine ⟨⟨vs, ws, v, u, t1, t2, hv, hu⟩, ?_⟩
    rintro z H' ⟨T, x', y', rfl, hT, rfl, hx, hy⟩
    have a1 := hx vs t1
    have a2 := hy ws t2
    rw [hv] at a1; cases a1
    rw [hu] at a2; cases a2
    exact ⟨HX.new hT, s.laid hT, .tup (.inl upd_same) (Reps.mono (HX.new hT) (PX.refl _) (.cons rv (.cons ru.any .nil)))⟩
theorem i_zip {p tpos : Pos} {elts : List Expr} {kk : Nat} (hK : X.K = Z.G.K) (hg : Gl X "zip") (hm : X.mg "zip" = none) (hp : plainE a = true) (hp' : plainE b = true) (ha : PA X [a, b] (tvL Z fl)) :
    PI X (.Tuple elts kk tpos) (.Call (.Name "zip" p) [a, b] [] pos) (tvI Z fun σ S => (fl σ S).bind fun l S => match l with | [_, _] => orBad (srcB .zip l S) fun s => .ok s S | _ => .bad) :=
  imp_PI (pi_zipM hg hm ha (starEach_plain hp _ _) (noStar (by simp [hp']))) fun vσ H Q q => imp_tvL (args q) fun vs H1 ⟨ρ, l, S, s, r, q⟩ => by
    cases l with
    | nil => exact q.elim
    | cons d l => cases l with
      | nil => exact q.elim
      | cons d2 l => cases l with
        | cons _ _ => exact q.elim
        | nil =>
          obtain ⟨src, h, q⟩ := Pst.orBad q
          obtain ⟨v, w, ev, r1, r2⟩ := reps2 r
          subst ev
          cases r1 with
          | @tup x vs l t r3 => cases r2 with
            | @tup y ws m t' r' =>
              have h : some (⟨List.zipWith (fun x y => .tup [x, y]) l m, []⟩ : Src) = some src := h
              cases h
              exact ⟨x, y, vs, ws, rfl, .inr (.inl ⟨by rw [hK]; exact t.t, by rw [hK]; exact t'.t, Pst.ok (rel := relI Z) q s (serves_zipT hK t r3 t' r')⟩)⟩
            | @ref k y e' =>
              have h : (match lstOf S k with | some b => some (⟨List.zipWith (fun x y => .tup [x, y]) l b, [(k, b)]⟩ : Src) | none => none) = some src := h
              cases h2 : lstOf S k with
              | none => rw [h2] at h; cases h
              | some m =>
                rw [h2] at h
                cases h
                obtain ⟨ws, a2, k2⟩ := lst_at s e' h2
                exact ⟨x, y, vs, ws, rfl, .inr (.inr ⟨by rw [hK]; exact t.t, .of a2, Pst.ok (rel := relI Z) q s (serves_zipM hK t r3 e')⟩)⟩
            | _ => cases h
          | @ref n x e => cases r2 with
            | @ref k y e' =>
              have h : (match lstOf S n, lstOf S k with | some a, some b => some (⟨List.zipWith (fun x y => .tup [x, y]) a b, [(n, a), (k, b)]⟩ : Src) | _, _ => none) = some src := h
              cases h1 : lstOf S n with
              | none => rw [h1] at h; cases h
              | some l => cases h2 : lstOf S k with
                | none => rw [h1, h2] at h; cases h
                | some m =>
                  rw [h1, h2] at h
                  cases h
                  obtain ⟨vs, a1, k1⟩ := lst_at s e h1
                  obtain ⟨ws, a2, k2⟩ := lst_at s e' h2
                  exact ⟨x, y, vs, ws, rfl, .inl ⟨.of a1, .of a2, Pst.ok (rel := relI Z) q s (serves_zipL hK e e')⟩⟩
            | _ => cases h
          | _ => cases r2 <;> cases h
theorem i_enum {p tpos : Pos} {elts : List Expr} {kk : Nat} (hK : X.K = Z.G.K) (hg : Gl X "enumerate") (hm : X.mg "enumerate" = none) (hp : plainE a = true) (ha : PA X [a] (tvL Z fl)) :
    PI X (.Tuple elts kk tpos) (.Call (.Name "enumerate" p) [a] [] pos) (tvI Z fun σ S => (fl σ S).bind fun l S => match l with | [_] => orBad (srcB .enumerate l S) fun s => .ok s S | _ => .bad) :=
  imp_PI (pi_enumT hg hm ha (starEach_plain hp _ _)) fun vσ H Q q => imp_tvL (args q) fun vs H1 ⟨ρ, l, S, s, r, q⟩ => by
    cases l with
    | nil => exact q.elim
    | cons d l => cases l with
      | cons _ _ => exact q.elim
      | nil =>
        obtain ⟨src, h, q⟩ := Pst.orBad q
        obtain ⟨v, ev, r1⟩ := reps1 r
        subst ev
        cases r1 with
        | @tup x vs l t r2 =>
          have h : some (⟨l.mapIdx fun i x => .tup [.int i, x], []⟩ : Src) = some src := h
          cases h
          exact ⟨x, vs, rfl, .inr ⟨by rw [hK]; exact t.t, Pst.ok (rel := relI Z) q s (serves_enumT hK t r2)⟩⟩
        | @ref n x e =>
          have h : (match lstOf S n with | some a => some (⟨a.mapIdx fun i x => .tup [.int i, x], [(n, a)]⟩ : Src) | none => none) = some src := h
          cases h1 : lstOf S n with
          | none => rw [h1] at h; cases h
          | some l =>
            rw [h1] at h
            cases h
            obtain ⟨vs, a1, k1⟩ := lst_at s e h1
            exact ⟨x, vs, rfl, .inl ⟨.of a1, Pst.ok (rel := relI Z) q s (serves_enumL hK e)⟩⟩
        | _ => cases h
/-! ### comprehensions -/
/-- within a comprehension: no lambda is known, nothing may be raised -/
def Se.blk (Z : Se) : Se := { Z with cc := none, W := fun _ _ _ _ => False }
theorem wipe_set {σ : L2.St} : ∀ {ns : List Nat} {i : Nat} {v : Option V}, i ∈ ns → L2.wipe (σ.set i v) ns = L2.wipe σ ns
  | [], i, v, h => by cases h
  | n :: ns, i, v, h => by
    unfold L2.wipe
    by_cases e : i ∈ ns
    · rw [wipe_set e]
    · have : i = n := by
        rcases List.mem_cons.mp h with z | z
        · exact z
        · exact absurd z e
      subst this
      have key : ∀ ns : List Nat, i ∉ ns → L2.wipe (σ.set i v) ns = (L2.wipe σ ns).set i v := by
        intro ns
        induction ns with
        | nil => intro _; rfl
        | cons m ns ih =>
          intro hm
          simp at hm
          unfold L2.wipe
          rw [ih hm.2, List.set_comm _ _ (Ne.symm (fun z => hm.1 z.symm))]
      rw [key ns e, List.set_set]
theorem wipe_wipe {σ : L2.St} {ns : List Nat} : ∀ {ms : List Nat}, (∀ i ∈ ms, i ∈ ns) → L2.wipe (L2.wipe σ ms) ns = L2.wipe σ ns
  | [], _ => rfl
  | m :: ms, h => by
    show L2.wipe ((L2.wipe σ ms).set m none) ns = _
    rw [wipe_set (h m (by simp)), wipe_wipe fun i hi => h i (by simp [hi])]
/-- the slots of a pattern -/
def Pt.slots : Pt → List Nat
  | .v i => [i]
  | .tp l => Pt.slotss l
where Pt.slotss : List Pt → List Nat
  | [] => []
  | p :: r => Pt.slots p ++ Pt.slotss r
/-- what a comprehension's store reads: besides, the slots of its own are wiped alike -/
def tvPw (Z : Se) (f : D → List D → Option (List D)) (ns : List Nat) : TG := fun v vσ H Q => ∃ ρ d σ S σ', SRep Z.G H ρ S ∧ Rep Z.G Z.cc H ρ d v ∧ Repo Z.G Z.cc H ρ σ vσ ∧ f d σ = some σ' ∧ ∀ vσ', Repo Z.G Z.cc H ρ σ' vσ' → vσ'.length = vσ.length → L2.wipe vσ' ns = L2.wipe vσ ns → Q vσ' H
def tvPws (Z : Se) (f : List D → List D → Option (List D)) (ns : List Nat) : TGs := fun v vσ H Q => ∃ ρ d σ S σ', SRep Z.G H ρ S ∧ Reps Z.G Z.cc H ρ d v ∧ Repo Z.G Z.cc H ρ σ vσ ∧ f d σ = some σ' ∧ ∀ vσ', Repo Z.G Z.cc H ρ σ' vσ' → vσ'.length = vσ.length → L2.wipe vσ' ns = L2.wipe vσ ns → Q vσ' H
theorem gw_name {i : Nat} {x : Str} {ns : List Nat} (hN : X.N.Nodup) (hi : X.N[i]? = some x) (hx : Loc X.env.scope x) (hf : X.fn x = true ∨ X.env.scope.names.lookup x = some .local) (hm : i ∈ ns) : PG X (.Name x pos) (tvPw Z (Pt.bind (.v i)) ns) :=
  imp_PG (pg_name hN hi hx hf) fun v vσ H Q q => by
    obtain ⟨ρ, d, σ, S, σ', s, r, ro, h, k⟩ := q
    have h : some (σ.set i d) = some σ' := by simpa [Pt.bind] using h
    cases h
    exact k _ (ro.set r i) (by simp) (wipe_set hm)
theorem gw_nil {ns : List Nat} : PGs X [] (tvPws Z (Pt.binds []) ns) := imp_PGs pgs_nil fun v vσ H Q q => by
  obtain ⟨ρ, d, σ, S, σ', s, r, ro, h, k⟩ := q
  cases d with
  | nil =>
    cases r
    have h : some σ = some σ' := by simpa [Pt.binds] using h
    cases h
    exact ⟨rfl, k _ ro rfl rfl⟩
  | cons _ _ => simp [Pt.binds] at h
theorem gw_cons {e : Expr} {es : List Expr} {p : Pt} {ps : List Pt} {ns : List Nat} (h1 : PG X e (tvPw Z p.bind ns)) (h2 : PGs X es (tvPws Z (Pt.binds ps) ns))
    (hs : (assignEach (e :: es) X.env).map (·.2) = assign e X.env :: (assignEach es X.env).map (·.2)) : PGs X (e :: es) (tvPws Z (Pt.binds (p :: ps)) ns) := imp_PGs (pgs_cons h1 h2 hs) fun v vσ H Q q => by
  obtain ⟨ρ, d, σ, S, σ', s, r, ro, h, k⟩ := q
  cases d with
  | nil => simp [Pt.binds] at h
  | cons d ds =>
    cases r with
    | @cons _ v _ vs r1 r2 =>
      have h : (Pt.bind p d σ).bind (Pt.binds ps ds ·) = some σ' := by simpa [Pt.binds] using h
      cases e1 : Pt.bind p d σ with
      | none => rw [e1] at h; cases h
      | some σ1 =>
        rw [e1] at h
        exact ⟨v, vs, rfl, ρ, d, σ, S, σ1, s, r1, ro, e1, fun vσ1 ro1 l1 w1 => ⟨ρ, ds, σ1, S, σ', s, r2, ro1, h, fun vσ' ro' l' w' => k vσ' ro' (l'.trans l1) (w'.trans w1)⟩⟩
theorem gw_tp {es : List Expr} {k : Nat} {ps : List Pt} {ns : List Nat} (hK : X.K = Z.G.K) (hc : X.calm = true) (h : PGs X es (tvPws Z (Pt.binds ps) ns)) (hn : (assignEach es X.env).length = ps.length) (hst : (assignEach es X.env).findIdx? (·.1) = none) :
    PG X (.Tuple es k pos) (tvPw Z (Pt.bind (.tp ps)) ns) := imp_PG (pg_tup hc h hn hst) fun v vσ H Q q => by
  obtain ⟨ρ, d, σ, S, σ', s, r, ro, h, k⟩ := q
  cases r with
  | @tup a vs l t r =>
    have h : Pt.binds ps l σ = some σ' := by simpa [Pt.bind] using h
    exact ⟨a, vs, rfl, by rw [hK]; exact t.t, by rw [← r.length]; exact binds_len h, ρ, l, σ, S, σ', s, r, ro, h, k⟩
  | _ => simp [Pt.bind] at h
theorem lcF_cons {p : Pt} {σ : List D} {src : Src} {fc : List D → Store → R Bool} {fe : List D → Store → R D} {x : D} {r : List D} {S : Store} {n : Nat} :
    lcF p σ src fc fe (x :: r) n S = R.when (src.ok S && D.flat x) (orBad (Pt.bind p x σ) fun σ' => match fc σ' S with
    | .ok true S1 => match fe σ' S1 with
      | .ok d S2 => orBad (lstOf S2 n) fun acc => R.when (D.flat d && sz (acc.length + 1)) (lcF p σ src fc fe r n (S2.set n (.lst (acc ++ [d]))))
      | _ => .bad
    | .ok false S1 => lcF p σ src fc fe r n S1
    | _ => .bad) := rfl
theorem when_bind {α β : Type} {b : Bool} {r : R α} {f : α → Store → R β} : (R.when b r).bind f = R.when b (r.bind f) := by cases b <;> rfl
theorem orBad_bind {α β γ : Type} {o : Option γ} {r : γ → R α} {f : α → Store → R β} : (orBad o r).bind f = orBad o fun c => (r c).bind f := by cases o <;> rfl
theorem lc_read {ns : List Nat} {p : Pt} {fi : List D → Store → R Src} {fc : List D → Store → R Bool} {fe : List D → Store → R D} {vσ : L2.St} {H : Hp} {Q : VK} (q : tv Z (fun σ S => (fi σ S).bind fun src S =>
      (lcF p (wipeD (noClo σ) ns) src fc fe src.l S.length (S ++ [.lst []])).bind fun _ S' => .ok (.ref S.length) S') vσ H Q) : tLc (tvI Z fi) (tvPw Z.blk p.bind ns) (tvB Z.blk fc) (tv Z.blk fe) ns vσ H Q := by
  obtain ⟨ρ, σ, S, r, s, q⟩ := q
  refine ⟨ρ, σ, S, r, s, (PostG.bind (rel := relI Z) q).imp ?_⟩
  rintro J H1 ⟨ρ1, src, S1, e1, p1, s1, sv, q1⟩
  intro D hD
  have r1 : Repo Z.G none H1 ρ1 (wipeD (noClo σ) ns) (L2.wipe vσ ns) := ((r.mono e1 p1).noClo).wipe _
  generalize hσb : wipeD (noClo σ) ns = σb at q1 r1
  -- the state at a turn
  let W : Nat → Nat → Hp → Prop := fun i m H => m = src.l.length - i ∧ i ≤ src.l.length ∧ ∃ ρ S, HX H1 H ∧ PX ρ1 ρ ∧ SRep Z.G H ρ S ∧ ρ[S1.length]? = some D ∧
    Pst Z vσ (relD Z) H ρ Q ((lcF p σb src fc fe (src.l.drop i) S1.length S).bind fun _ S' => .ok (.ref S1.length) S')
  have s0 := s1.new hD (l := []) (vs := []) .nil
  refine ⟨W, ⟨src.l.length, by simp, Nat.zero_le _, ρ1 ++ [D], S1 ++ [.lst []], HX.new hD, PX.app _ _, s0, s1.last, by simpa using q1.mono (HX.new hD) (PX.app _ _)⟩, ?_⟩
  rintro i m H2 ⟨hm, hi2, ρ2, S2, e2, p2, s2, hD2, q2⟩
  by_cases hlt : i < src.l.length
  · -- one more item
    have hd : src.l.drop i = src.l[i] :: src.l.drop (i + 1) := List.drop_eq_getElem_cons hlt
    rw [hd, lcF_cons, when_bind] at q2
    obtain ⟨okS, q2⟩ := q2.when
    simp only [Bool.and_eq_true] at okS
    obtain ⟨okS, hfl⟩ := okS
    rw [orBad_bind] at q2
    obtain ⟨σ', hσ', q2⟩ := q2.orBad
    obtain ⟨go, item⟩ := (sv i H2 ρ2 S2 e2 p2 s2 okS).2 src.l[i] (List.getElem?_eq_getElem hlt)
    refine .inr ⟨go, fun H' => ∃ m', m' < m ∧ W (i + 1) m' H', fun H' h => h, fun x H3 hy => ?_⟩
    obtain ⟨e3, s3, r3⟩ := item x H3 hy
    refine ⟨ρ2, src.l[i], σb, S2, σ', s3, r3.flat hfl, (r1.mono e2 p2).mono e3 (PX.refl _), hσ', fun vσ' ro hl hw => ⟨hw.trans (wipe_wipe fun _ h => h), ρ2, σ', S2, ro, s3, ?_⟩⟩
    have next : ∀ {H4 : Hp} {ρ4 : List Addr} {S4 : Store}, HX H3 H4 → PX ρ2 ρ4 → SRep Z.G H4 ρ4 S4 →
        Pst Z vσ (relD Z) H2 ρ2 Q ((lcF p σb src fc fe (src.l.drop (i + 1)) S1.length S4).bind fun _ S' => .ok (.ref S1.length) S') → ∃ m', m' < m ∧ W (i + 1) m' H4 := fun {H4 ρ4 S4} e4 p4 s4 q4 =>
      ⟨src.l.length - (i + 1), by omega, rfl, hlt, ρ4, S4, (e2.trans e3).trans e4, p2.trans p4, s4, p4 _ _ hD2, q4.mono (e3.trans e4) p4⟩
    cases hc1 : fc σ' S2 with
    | bad => rw [hc1] at q2; exact q2.elim
    | ex cn l S3 => rw [hc1] at q2; exact q2.elim
    | ok b S3 =>
      rw [hc1] at q2
      intro b' H4 ρ4 e4 p4 s4 eb
      have eb : b' = b := eb
      subst eb
      cases b' with
      | false =>
        simp only [Bool.false_eq_true, if_false]
        exact next e4 p4 s4 q2
      | true =>
        simp only [if_true]
        refine ⟨ρ4, σ', S3, ro.mono e4 p4, s4, ?_⟩
        dsimp only at q2
        cases hc2 : fe σ' S3 with
        | bad => rw [hc2] at q2; exact q2.elim
        | ex cn l S4 => rw [hc2] at q2; exact q2.elim
        | ok d S4 =>
          rw [hc2] at q2
          dsimp only at q2
          rw [orBad_bind] at q2
          obtain ⟨acc, hacc, q2⟩ := q2.orBad
          rw [when_bind] at q2
          obtain ⟨hz, q2⟩ := q2.when
          simp only [Bool.and_eq_true, sz, decide_eq_true_eq] at hz
          intro y H5 ρ5 e5 p5 s5 r5
          have hD5 : ρ5[S1.length]? = some D := p5 _ _ (p4 _ _ hD2)
          obtain ⟨vs, k1, k2⟩ := lst_at s5 hD5 hacc
          refine ⟨vs, k1, by rw [← k2.length]; omega, ?_⟩
          have r5' : Rep Z.G none H5 ρ5 d y := r5
          exact next ((e4.trans e5).trans (HX.put k1 rfl)) (p4.trans p5) (s5.put hD5 k1 (k2.append (.cons r5' .nil))) q2
  · have hi3 : i = src.l.length := by omega
    have hd : src.l.drop i = [] := List.drop_eq_nil_of_le (by omega)
    rw [hd] at q2
    have q2 : Pst Z vσ (relD Z) H2 ρ2 Q ((R.when (src.ok S2) (.ok () S2)).bind fun _ S' => .ok (.ref S1.length) S') := q2
    rw [when_bind] at q2
    obtain ⟨okS, q2⟩ := q2.when
    refine .inl ⟨(sv i H2 ρ2 S2 e2 p2 s2 okS).1 (by omega), ?_⟩
    exact Pst.ok (rel := relD Z) q2 s2 (.ref hD2)
theorem p_lc {elt tg iter : Expr} {ifs : List Expr} {scope : Scope} {own : List (Str × Nat)} {p : Pt} {fi : List D → Store → R Src} {fc : List D → Store → R Bool} {fe : List D → Store → R D} (hc : X.calm = true) (hN : X.N.Nodup)
    (hi : PI X tg iter (tvI Z fi)) (ok : BlkOk X.N X.env.scope scope own)
    (hg : ∀ (s : Shared) (H : Hp) (C : Addr) (cl : List (Str × Addr)) (fp : List Addr), PG (X.blk s H scope (compEnvC scope cl C X.env) fp) tg (tvPw Z.blk p.bind (own.map (·.2))))
    (ht : ∀ (s : Shared) (H : Hp) (C : Addr) (cl : List (Str × Addr)) (fp : List Addr), PTs (X.blk s H scope (compEnvC scope cl C X.env) fp) ifs (tvB Z.blk fc))
    (he : ∀ (s : Shared) (H : Hp) (C : Addr) (cl : List (Str × Addr)) (fp : List Addr), PE (X.blk s H scope (compEnvC scope cl C X.env) fp) elt (tv Z.blk fe))
    (hs : ∀ x, foldedSetIterable iter X.env x = pure x) :
    PE X (.ListComp elt [⟨tg, iter, ifs, 0⟩] scope pos) (tv Z fun σ S => (fi σ S).bind fun src S =>
      (lcF p (wipeD (noClo σ) (own.map (·.2))) src fc fe src.l S.length (S ++ [.lst []])).bind fun _ S' => .ok (.ref S.length) S') := imp_PE (pe_lc hc hN hi ok hg ht he hs) fun vσ H Q q => lc_read q
end
end Ev
set_option Elab.async false
set_option linter.all false
set_option maxRecDepth 100000
set_option maxHeartbeats 2000000
/-! Ev8: how a call binds. -/
namespace Ev
open PySem PySem.Spec PyProof.Rows L2

section
variable {α β : Type}
theorem lookup_map (f : α → β) (k : Str) : ∀ l : List (Str × α), (l.map fun p => (p.1, f p.2)).lookup k = (l.lookup k).map f
  | [] => rfl
  | (n, v) :: r => by
    simp only [List.map_cons, List.lookup_cons]
    cases k == n with
    | true => rfl
    | false => exact lookup_map f k r
theorem zip_mapR (f : α → β) : ∀ (ps : List Str) (us : List α), ps.zip (us.map f) = (ps.zip us).map fun p => (p.1, f p.2)
  | [], _ => rfl
  | _ :: _, [] => rfl
  | p :: ps, u :: us => by simp only [List.map_cons, List.zip_cons_cons, zip_mapR f ps us]
theorem kwOk_map (f : α → β) (ps : List Str) : ∀ (kw slots : List (Str × α)), kwOk ps (slots.map fun p => (p.1, f p.2)) (kw.map fun p => (p.1, f p.2)) = kwOk ps slots kw
  | [], _ => rfl
  | (k, v) :: r, slots => by
    have e : (slots.map fun p => (p.1, f p.2)) ++ [(k, f v)] = (slots ++ [(k, v)]).map fun p => (p.1, f p.2) := by simp
    simp only [List.map_cons, kwOk, lookup_map]
    rw [e, kwOk_map f ps r]
    cases slots.lookup k <;> rfl
theorem fillD_map (f : α → β) : ∀ (ds slots : List (Str × α)), fillD (slots.map fun p => (p.1, f p.2)) (ds.map fun p => (p.1, f p.2)) = (fillD slots ds).map fun p => (p.1, f p.2)
  | [], _ => rfl
  | (n, d) :: r, slots => by
    simp only [List.map_cons, fillD, lookup_map]
    have e : (slots.map fun p => (p.1, f p.2)) ++ [(n, f d)] = (slots ++ [(n, d)]).map fun p => (p.1, f p.2) := by simp
    cases h : slots.lookup n with
    | none =>
      simp only [Option.map_none, Option.isNone_none, if_true]
      rw [e, fillD_map f r]
    | some x =>
      simp only [Option.map_some, Option.isNone_some, Bool.false_eq_true, if_false]
      exact fillD_map f r slots
theorem optAll_map (f : α → β) : ∀ l : List (Option α), optAll (l.map (Option.map f)) = (optAll l).map (List.map f)
  | [] => rfl
  | none :: _ => rfl
  | some a :: r => by
    simp only [List.map_cons, Option.map_some, optAll, optAll_map f r]
    cases optAll r <;> rfl
theorem bindG_map (f : α → β) (ps : List Str) (dl us : List α) (kw : List (Str × α)) : bindG ps (dl.map f) (us.map f) (kw.map fun p => (p.1, f p.2)) = (bindG ps dl us kw).map (List.map f) := by
  unfold bindG
  simp only [List.length_map, zip_mapR, kwOk_map, ← List.map_append, lookup_map, fillD_map, Option.isSome_map]
  split
  · rw [← optAll_map, List.map_map]; rfl
  · rfl
end
theorem optAll_len {α : Type} : ∀ {l : List (Option α)} {xs : List α}, optAll l = some xs → l.length = xs.length
  | [], xs, h => by simp [optAll] at h; subst h; rfl
  | a :: r, xs, h => by
    obtain ⟨x, ys, rfl, e, rfl⟩ := optAll_cons h
    simp [optAll_len e]
theorem bindG_len {α : Type} {ps : List Str} {dl us vs : List α} {kw : List (Str × α)} (h : bindG ps dl us kw = some vs) : vs.length = ps.length := by
  unfold bindG at h
  split at h
  · have := optAll_len h
    simpa using this.symm
  · cases h
theorem forIn_kw {σ β : Type} (g : σ → β → Sem (ForInStep σ)) (t : σ → β → σ) (ok : σ → β → Prop) (hg : ∀ a b, ok a b → g a b = pure (.yield (t a b))) :
    ∀ (l : List β) (a : σ), (∀ (pre : List β) (b : β) (post : List β), l = pre ++ b :: post → ok (pre.foldl t a) b) → forIn l a (fun b a => g a b) = (pure (l.foldl t a) : Sem σ)
  | [], a, _ => by rw [List.forIn_nil]; rfl
  | b :: l, a, h => by
    rw [List.forIn_cons, hg a b (h [] b l rfl), pure_bind]
    exact forIn_kw g t ok hg l (t a b) fun pre c post e => by
      have := h (b :: pre) c post (by rw [e]; rfl)
      simpa using this
theorem kwOk_at {α : Type} {ps : List Str} : ∀ {kw slots : List (Str × α)}, kwOk ps slots kw = true → ∀ (pre : List (Str × α)) (b : Str × α) (post : List (Str × α)), kw = pre ++ b :: post → ps.contains b.1 = true ∧ ((slots ++ pre).lookup b.1).isNone = true
  | [], _, _, pre, b, post, e => by simp at e
  | (k, v) :: r, slots, h, pre, b, post, e => by
    simp only [kwOk, Bool.and_eq_true] at h
    cases pre with
    | nil =>
      simp at e
      rw [← e.1]
      simpa using h.1
    | cons q pre =>
      simp at e
      have := kwOk_at h.2 pre b post e.2
      rw [← e.1]
      simpa using this
theorem fill_fold {α : Type} : ∀ (ds slots : List (Str × α)), ds.foldl (fun sl b => if (sl.lookup b.1).isNone then sl ++ [b] else sl) slots = fillD slots ds
  | [], _ => rfl
  | (n, d) :: r, slots => by
    rw [List.foldl_cons, fill_fold r]
    rfl
theorem kw_fold {α : Type} : ∀ (kw slots : List (Str × α)) (x : List (Str × α)), kw.foldl (fun (a : List (Str × α) × List (Str × α)) b => (a.1 ++ [(b.1, b.2)], a.2)) (slots, x) = (slots ++ kw, x)
  | [], _, _ => by simp
  | (n, d) :: r, slots, x => by
    rw [List.foldl_cons, kw_fold r]
    simp
theorem filterMap_zip {α : Type} {sl : List (Str × α)} : ∀ {ps : List Str} {vs : List α}, optAll (ps.map fun n => sl.lookup n) = some vs → (ps.filterMap fun n => (sl.lookup n).map (n, ·)) = ps.zip vs
  | [], vs, h => by simp
  | p :: ps, vs, h => by
    rw [List.map_cons] at h
    obtain ⟨x, ys, e1, e2, rfl⟩ := optAll_cons h
    rw [List.filterMap_cons, e1]
    simp only [Option.map_some, List.zip_cons_cons]
    rw [filterMap_zip e2]
/-- plain parameters -/
structure PlainP (p : Arguments) (ps : List Str) : Prop where
  po : p.posonlyargs = []
  ko : p.kwonlyargs = []
  va : p.vararg = none
  kwa : p.kwarg = none
  nm : p.args.map (·.arg) = ps
theorem bind_dfl {fd : FuncData} {ps : List Str} {dl us vs : List Value} {kw : List (Str × Value)} (hp : PlainP fd.params ps) (h : bindG ps dl us kw = some vs) :
    ∃ k : Option (Array Value) → Sem (List (Str × Value)), bindArgs fd ⟨us, kw⟩ = seqItems? fd.defaults >>= k ∧ ∀ o : Option (Array Value), (o.getD #[]).toList = dl → k o = pure (ps.zip vs) := by
  unfold bindG at h
  split at h
  · rename_i hc
    simp only [Bool.and_eq_true, decide_eq_true_eq] at hc
    obtain ⟨⟨⟨h1, h2⟩, h3⟩, h4⟩ := hc
    unfold bindArgs
    simp only [hp.po, hp.ko, hp.va, hp.kwa, List.map_nil, List.nil_append, hp.nm, List.append_nil]
    rw [forIn_kw (t := fun a b => (a.1 ++ [(b.1, b.2)], a.2)) (ok := fun a b => ps.contains b.1 = true ∧ (a.1.lookup b.1).isNone = true)]
    · rw [kw_fold]
      simp only [pure_bind]
      refine ⟨_, rfl, fun o ho => ?_⟩
      simp only [ho]
      have g1 : (decide (us.length > ps.length) && (none : Option Arg).isNone) = false := by
        simp; omega
      have g2 : dl.drop (dl.length - ps.length) = dl := by
        have : dl.length - ps.length = 0 := by omega
        rw [this]; rfl
      rw [g1]
      simp only [Bool.false_eq_true, if_false, g2]
      have g3 : (List.filter (fun n => (List.lookup n (ps.zip us ++ kw)).isNone) (List.take (ps.length - dl.length) ps)) = [] := by
        rw [List.filter_eq_nil_iff]
        intro n hn hx
        have := List.all_eq_true.mp h4 n hn
        cases e : List.lookup n (ps.zip us ++ kw) with
        | none => rw [e] at this; cases this
        | some v => rw [e] at hx; cases hx
      simp only [g3, List.isEmpty_nil, Bool.not_true, Bool.false_eq_true, if_false]
      rw [forIn_kw (t := fun sl b => if (sl.lookup b.1).isNone then sl ++ [b] else sl) (ok := fun _ _ => True)]
      · rw [fill_fold]
        simp only [pure_bind, List.forIn_nil, List.isEmpty_nil, Bool.not_true, Bool.false_eq_true, if_false]
        rw [filterMap_zip h]
      · rintro a ⟨b1, b2⟩ _
        dsimp only
        split <;> rfl
      · intro _ _ _ _
        trivial
    · rintro ⟨a1, a2⟩ ⟨b1, b2⟩ ⟨ok1, ok2⟩
      dsimp only at ok1 ok2 ⊢
      rw [ok1]
      have : (List.lookup b1 a1).isSome = false := by
        cases e : List.lookup b1 a1 with
        | none => rfl
        | some v => rw [e] at ok2; cases ok2
      rw [this]
      rfl
    · intro pre b post e
      obtain ⟨k1, k2⟩ := kwOk_at h3 pre b post e
      refine ⟨k1, ?_⟩
      rw [kw_fold]
      exact k2
  · cases h
/-- a def's defaults -/
def DflK (K : PySem.W.Frag) (dV : Value) (dl : List Value) : Prop := (dl = [] ∧ dV = .none) ∨ ∃ (T : Addr) (o : Obj) (n : Nat), dV = .ref T ∧ K.lookup T = some o ∧ o.data = .seq dl.toArray n
theorem binds_to {K : PySem.W.Frag} {s : Shared} {fd : FuncData} {ps : List Str} {dl us vs : List Value} {kw : List (Str × Value)} (hK : K.In s.heap) (hp : PlainP fd.params ps) (hd : DflK K fd.defaults dl) (h : bindG ps dl us kw = some vs) : BindsTo s fd ⟨us, kw⟩ (ps.zip vs) := by
  obtain ⟨k, e, hk⟩ := bind_dfl (fd := fd) hp h
  rcases hd with ⟨e1, e2⟩ | ⟨T, o, n, e2, lk, hs⟩
  · refine BindsTo.of_eq ?_
    rw [e, e2]
    have : seqItems? Value.none = pure none := by rfl
    rw [this, pure_bind]
    exact hk none (by rw [e1]; rfl)
  · exact BindsTo.of_defaults e2 (hK _ _ lk) hs e (hk _ (by simp))
end Ev
set_option Elab.async false
set_option linter.all false
set_option maxRecDepth 100000
set_option maxHeartbeats 2000000
/-! Xi0: an own class of errors whose __init__ says super().__init__(x); self.x = x. -/
namespace Ev
open PySem PySem.Spec PyProof.Rows L2 PySem.W
/-- the text of __init__ -/
def xiA (f : Str) (p1 p2 : Pos) : Arguments := { posonlyargs := [], args := [{ arg := "self", annotation := none, pos := p1 }, { arg := f, annotation := none, pos := p2 }], vararg := none, kwonlyargs := [], kw_defaults := [], kwarg := none, defaults := [] }
def xiB (f : Str) (q1 q2 q3 q4 q5 q6 q7 q8 q9 q10 : Pos) : List Stmt :=
  [.Expr (.Call (.Attribute (.Call (.Name "super" q1) [] [] q2) "__init__" q3) [.Name f q4] [] q5) q6, .Assign [.Attribute (.Name "self" q7) f q8] (.Name f q9) q10]
def xiS (f : Str) : Scope := { kind := .function, names := [(PySem.Str.ofString "self", .local), (f, .local), (PySem.Str.ofString "__class__", .free), (PySem.Str.ofString "super", .globalImplicit)], isGenerator := false, isCoroutine := false, more := [] }
def fldB (f : Str) : Bool := decide (f = "given") || decide (f = "index")
/-- what the module says of such a class, at C, its __init__ at fI, the cell of its class at cc, the code at cda -/
structure OwnI (P : Program) (K : Frag) (mg : Str → Option Value) (f : Str) (C fI cc cda : Addr) : Prop where
  fOk : fldB f = true
  init : excInitIn K C PySem.HandSPX.veTail "ValueError.__new__" = true
  cls : ∃ nm q N bs bm sn sub ab col dd k0 k1 k2 k3 k5, K.lookup C = some (excClassObj nm q C N bs bm true sn sub ab col dd k0 k1 k2 k3 k5 "ValueError.__new__") ∧ PySem.HandSPX.refsVE bm = true
  sa : findIn K (.ref C) "__setattr__" = some (some (.builtin "object.__setattr__"))
  noN : findIn K (.ref C) f = some none
  iC : findIn K (.ref C) "__init__" = some (some (.ref fI))
  tC : typeIn K (.ref fI) = some (.type "function")
  su : ks_superIn K C C "__init__" = some (some (.builtin "ValueError.__init__"))
  ve : subIn K (.ref C) (.type "ValueError") = some true
  own : mroIn K C (.ref C) = some true
  op : nsIn K cStatics "thirdparty.any" = some none
  kC : keepIn K (.ref C) = true
  nosup : mg "super" = none
  top : (P.main.scope.names.lookup ("super" : Str)).isSome = false
  cell : ∃ (cl : Value) (cld : Option Addr) (csl : Array (Option Value)), K.lookup cc = some ⟨cl, cld, .cell (some (.ref C)), csl⟩
  code : ∃ (ccl : Value) (cdd : Option Addr) (vs : Array Value) (ccs : Array (Option Value)) (file : Str) (tf : Tok), K.lookup cda = some ⟨ccl, cdd, .fields vs, ccs⟩ ∧ vs[2]? = some (.str file tf) ∧ ((P.main.file : Str) == file) = true
  fn : ∃ (qual : Str) (oc : Value) (od : Option Addr) (doc pm : Value) (an : Option Addr) (ct : Value) (osl : Array (Option Value)) (p1 p2 q1 q2 q3 q4 q5 q6 q7 q8 q9 q10 : Pos),
    K.lookup fI = some ⟨oc, od, .func (ksFn "__init__" qual (xiA f p1 p2) (xiB f q1 q2 q3 q4 q5 q6 q7 q8 q9 q10) (xiS f) .none .none doc pm an (.ref cda) ct cc), osl⟩ ∧ codeIn K (.ref cda) qual = true ∧ (q3.endLine == q5.line) = true
theorem fldB_ok {f : Str} (h : fldB f = true) : f = "given" ∨ f = "index" := by
  unfold fldB at h
  rw [Bool.or_eq_true, decide_eq_true_eq, decide_eq_true_eq] at h
  exact h
/-- what __init__ leaves of a fresh error at x -/
structure XiEnd (B h' : Heap) (x C dx t1 : Addr) (f : Str) (v : Value) : Prop where
  keep : ∀ b o, B.get? b = some o → h'.get? b = some o
  obj : h'.get? x = some { cls := .ref C, dict := some dx, data := .fields #[.ref t1, .none, .none, .none, .bool false, .none] }
  dbig : B.objs.size ≤ dx
  dne : dx ≠ x
  ns : h'.Ns1 dx (fun y => if y = f then some v else none)
theorem eval_meth {o : Expr} {name : Str} {apos pos : Pos} {args : List Expr} {env : Env} (hform : methodCallForm (args.length + 0) (backTo pos (starEach args env)) [] = true) (hl : (apos.endLine == pos.line) = true) :
    eval (.Call (.Attribute o name apos) args [] pos) env = (do
      let ov ← attributeBase o name env (eval o env)
      standAt apos.atName
      let (f, first) ← holding [ov] (getMethod ov name (do return (← importBound o env).getD true))
      callWith pos f first (backTo pos (starEach args env)) []) := by
  have hp : methodCallPos true o env apos pos = pure pos := by unfold methodCallPos; simp [hl]
  rw [arm_eval_Call]
  unfold methodCall
  have hf : methodCallForm (args.length + ([] : List Keyword).length) (backTo pos (starEach args env)) (backToKw pos (keywordEach [] env)) = true := hform
  simp only [hf, hp]
  rfl
section
variable {prog : Program} {w : World} {A : Around} {E : Value → Shared → Prop} {R : Result → Shared → Prop} {s : Shared} {K : Frag} {mg mb : Str → Option Value} {f : Str} {C fI cc cda : Addr}
theorem xi_bind (hf : fldB f = true) {qual : Str} {p1 p2 q1 q2 q3 q4 q5 q6 q7 q8 q9 q10 : Pos} {doc pm : Value} {an : Option Addr} {ct cdv : Value} {x : Addr} {v : Value} :
    BindsTo s (ksFn "__init__" qual (xiA f p1 p2) (xiB f q1 q2 q3 q4 q5 q6 q7 q8 q9 q10) (xiS f) .none .none doc pm an cdv ct cc) ⟨[.ref x, v], []⟩ [("self", .ref x), (f, v)] := by
  rcases fldB_ok hf with rfl | rfl <;> exact BindsTo.of_eq (by first | rfl | with_unfolding_all rfl)
theorem xi_loc (hf : fldB f = true) : (xiS f).names.lookup ("self" : Str) = some .local ∧ (xiS f).names.lookup f = some .local ∧ (xiS f).names.lookup ("super" : Str) = some .globalImplicit ∧ (xiS f).names.lookup ("__class__" : Str) = some .free ∧ (f == ("__debug__" : Str)) = false ∧ (f == ("self" : Str)) = false := by
  rcases fldB_ok hf with rfl | rfl <;> exact ⟨by decide, by decide, by decide, by decide, by decide, by decide⟩
theorem xi_ns (hf : fldB f = true) (x : Addr) (v : Value) : ([(PySem.Str.ofString "self", Value.ref x), (f, v)] : List (Str × Value)).reverse.lookup ("self" : Str) = some (.ref x) ∧ ([(PySem.Str.ofString "self", Value.ref x), (f, v)] : List (Str × Value)).reverse.lookup f = some v := by
  rcases fldB_ok hf with rfl | rfl <;> exact ⟨by rfl, by rfl⟩
variable {h : Heap} {g : Array GenState} {d : Drawn} {t : Nat} {os : OsState}
theorem xi_init (T : OwnI prog K mg f C fI cc cda) {B : Heap} {x t0 : Addr} {v : Value} (KB : K.In B) (kB : ∀ b o, B.get? b = some o → s.heap.get? b = some o) (hxB : B.objs.size ≤ x) (hg : s.heap.Ns mainGlobals mg) (hb : s.heap.Ns builtinsNs mb) (hmb : ∀ y : Str, y ≠ "__name__" → mb y = bootBuiltins y)
    (hlim : s.heap.NoLimit) (hx : s.heap.get? x = some (PySem.HandSPX.excO C t0)) (hroom : A.depth < recursionLimit)
    (hq : ∀ h' tk dx t1, XiEnd B h' x C dx t1 f v → R (.ok (.ret .none)) { s with heap := h', toks := tk }) :
    codeAny (model prog w) A (.call (.ref fI) ⟨[.ref x, v], []⟩) R s := by
  obtain ⟨qual, oc, od, doc, pm, an, ct, osl, p1, p2, q1, q2, q3, q4, q5, q6, q7, q8, q9, q10, ho, hcd, hli⟩ := T.fn
  obtain ⟨nm, q, N, bs, bm, sn, sub, ab, col, dd, k0, k1, k2, k3, k5, hC, hbm⟩ := T.cls
  obtain ⟨cl, cld, csl, hcell⟩ := T.cell
  obtain ⟨ccl, cdd, vs, ccs, file, tf, hcode, hvs, hfile⟩ := T.code
  obtain ⟨l1, l2, l3, l4, l5, l6⟩ := xi_loc T.fOk
  have X : K.In s.heap := KB.keeps kB
  have hcl : clsIn K C = some { name := nm, bases := bs, mro := .ref C :: bm, ns := N, qualname := q, hasDict := true, slotNames := sn, subclasses := sub, abstract := ab, collection := col, hasDel := false } := by unfold clsIn; rw [hC] <;> rfl
  obtain ⟨hh, g, d, tk, os⟩ := s
  refine ks_codeAny_call_defAt (binds := [("self", .ref x), (f, v)]) hroom (X _ _ ho) rfl hlim (codeRec_of X hcd) rfl (xi_bind T.fOk) (fun y hy => ?_) (fun y hy => ?_) (fun h₁ hns hk₁ => ?_)
  · rcases fldB_ok T.fOk with rfl | rfl <;> exact (show ∀ y ∈ (xiS _).names, y.2 ≠ .cell by decide) y hy
  · rcases List.mem_cons.mp hy with rfl | hy
    · exact l1
    · rcases List.mem_cons.mp hy with rfl | hy
      · exact l2
      · cases hy
  obtain ⟨m1, m2⟩ := xi_ns T.fOk x v
  have X₁ : K.In h₁ := X.keeps hk₁
  have hx₁ := hk₁ _ _ hx
  have hLx : hh.objs.size ≠ x := Nat.ne_of_gt (Heap.lt_size hx)
  have hD := X₁ _ _ hC
  have hsub : Looks (model prog w) h₁ (isSubtype (.ref C) (.ref C)) true := looks_mroIn X₁ T.own
  have nc : ∀ c, (PySem.HandSPX.excO C t0).data ≠ .cls c := fun c z => nomatch z
  -- super().__init__(x)
  refine ks_wpAt_execs_cons (ks_wpAt_Expr_any (ks_wpAt_MethodCall (he := eval_meth rfl hli) (ks_wpAt_super_base (env := ksEnv qual (xiS f) hh.objs.size fI (.ref cda) cc) l3 l4 (by decide) rfl (X₁ _ _ ho) rfl rfl rfl (X₁ _ _ hcode) rfl hvs hfile T.top ?_)))
  refine ks_loadName_global rfl l3 (Calls.loadGlobal_builtin (env := ksEnv qual (xiS f) hh.objs.size fI (.ref cda) cc) (hg.keeps hk₁) T.nosup (hb.keeps hk₁) ((hmb _ (by decide +kernel)).trans (show bootBuiltins "super" = some (.type "super") by kernel_rfl)) ⟨rfl, ?_⟩)
  refine wpAny_loadName_free rfl l4 rfl ⟨_, X₁ _ _ hcell, rfl⟩ ?_
  refine wpAny_loadName_local rfl l1 hns m1 ?_
  refine ks_wpAny_isType_cls hD rfl ⟨rfl, ?_⟩
  refine ks_wpAny_call_super hD rfl hx₁ rfl nc hsub (fun h2 hso k2 => ?_)
  have X₂ : K.In h2 := X₁.keeps k2
  have hx₂ := k2 _ _ hx₁
  have I₂ : InstAt h2 x (PySem.HandSPX.excO C t0) C none := ⟨hx₂, rfl, rfl, trivial⟩
  have hsu : alongIn K "__init__" (((Value.ref C :: bm).dropWhile (· != .ref C)).drop 1) = some (some (.builtin "ValueError.__init__")) := by
    have z := T.su
    unfold ks_superIn at z
    rw [hcl] at z
    exact z
  refine kxs_getMethod kxs_ValueError hso (looks_opaque X₂ T.op) (l₀ := Value.ref C :: bm) (fun A Q E s k q => wpAny_bind ((looks_clsIn X₂ hcl) A _ E s k (wpAny_pure q))) rfl X₂ hsu (I₂.type.andThen (looks_subIn X₂ T.ve)) (ks_ne X₂ I₂ hcl) (by decide) ?_
  -- the call of the bound method
  have kn : ∀ b o, h2.get? b = some o → (h2.push (kxs_mw "ValueError.__init__" x)).get? b = some o := fun b o e => Heap.get?_push_of_some _ e
  have all : ∀ b o, hh.get? b = some o → (h2.push (kxs_mw "ValueError.__init__" x)).get? b = some o := fun b o e => kn _ _ (k2 _ _ (hk₁ _ _ e))
  have nsL : (h2.push (kxs_mw "ValueError.__init__" x)).Ns hh.objs.size (fun y => ([("self", .ref x), (f, v)] : List (Str × Value)).reverse.lookup y) := (hns.keeps k2).keeps kn
  have hu : (h2.push (kxs_mw "ValueError.__init__" x)).get? h2.objs.size = some (kxs_mw "ValueError.__init__" x) := Heap.get?_push_at rfl rfl
  have lts : hh.objs.size < h2.objs.size := let ⟨_, _, _, e, _⟩ := hns.keeps k2; Heap.lt_size e
  have hBL : B.objs.size ≤ hh.objs.size := Nat.le_trans hxB (Nat.le_of_lt (Heap.lt_size hx))
  have BN : ∀ {b : Addr}, B.objs.size ≤ b → B.get? b = none := fun {b} l => Heap.get?_none_of_le l
  have hxu : x < h2.objs.size := Heap.lt_size hx₂
  refine kxs_callWith (i := "ValueError.__init__") (x := x) (by rfl) ?_
  show wpAny _ _ (evalArgs _ true ((false, eval (.Name f q4) _) :: []) []) _ _ _
  refine Calls.evalArgs_plain (Calls.spliced_cons (wpAny_Name (wpAny_loadName_local rfl l2 nsL m2 (Calls.spliced_nil ⟨hu, ?_⟩)) l5))
  refine kxs_call (K := K) (h₀ := B) (L := hh.objs.size) (m := fun y => ([("self", .ref x), (f, v)] : List (Str × Value)).reverse.lookup y) (news := [(x, excObj C t0 none .none), (h2.objs.size, kxs_mw "ValueError.__init__" x)])
    ⟨nsL, fun b o e => all b o (kB b o e), hBL⟩ KB (fun p hp => ?_) F.excBase_ValueError T.init (by simp) (.head fun p hp => ?_) (by show 1 ≤ sizeLine; rw [sizeLine_eq]; omega) (fun t1 h3 F3 N3 l3 => ?_)
  · rcases List.mem_cons.mp hp with rfl | hp
    · exact ⟨kn _ _ hx₂, Ne.symm hLx, BN hxB⟩
    · rcases List.mem_cons.mp hp with rfl | hp
      · exact ⟨hu, Nat.ne_of_gt lts, BN (Nat.le_trans hBL (Nat.le_of_lt lts))⟩
      · cases hp
  · rcases List.mem_cons.mp hp with rfl | hp
    · exact Nat.ne_of_gt hxu
    · cases hp
  -- self.x = x
  have hx₃ : h3.get? x = some (PySem.HandSPX.excO C t1) := (N3 (x, excObj C t1 none .none) (by simp)).1
  have X₃ : K.In h3 := KB.keeps F3.keep
  refine ks_wpAt_execs_cons (ks_wpAt_Assign_Attr (wpAt_of_wpAny ?_))
  refine wpAny_Name (wpAny_loadName_local rfl l2 F3.ns m2 ?_) l5
  refine wpAny_Name (wpAny_loadName_local rfl l1 F3.ns m1 ?_) (by decide)
  refine set_plain X₃ (ox := PySem.HandSPX.excO C t1) (od := none) ⟨hx₃, rfl, rfl, trivial⟩ T.sa ?_
  refine PySem.HandSPX.exc_osa X₃ hx₃ hcl (show PySem.HandSPX.refsVE (.ref C :: bm) = true from hbm) rfl T.noN (fun h4 tk4 dx k4 dn dne hx₄ hn4 => ?_)
  have hB3 : B.objs.size ≤ h3.objs.size := Nat.le_trans hxB (Nat.le_of_lt (Heap.lt_size hx₃))
  exact wpAt_of_wpAny (wpAny_execs_nil (hq h4 _ dx t1 ⟨fun b o e => k4 b o (fun z => by rw [z, BN hxB] at e; cases e) (F3.keep b o e), hx₄, Nat.le_trans hB3 dn, dne, hn4⟩))
end
end Ev
set_option Elab.async false
set_option linter.all false
set_option maxRecDepth 100000
set_option maxHeartbeats 2000000
/-! Xi1: errors made and raised: C(), C(x), raise C. -/
namespace Ev
open PySem PySem.Spec PyProof.Rows L2 PySem.W
theorem one_fits (v : Value) : [v].length ≤ sizeLine := by
  rw [sizeLine_eq]
  exact (by decide : 1 ≤ 16777216)
/-- a made error -/
structure XiMade (h h' : Heap) (e C d : Addr) (f : Str) (v : Value) : Prop where
  keep : ∀ b o, h.get? b = some o → h'.get? b = some o
  new : h.objs.size ≤ e
  obj : ∃ oe vs, h'.get? e = some oe ∧ oe.cls = .ref C ∧ oe.dict = some d ∧ oe.data = .fields vs ∧ vs[1]? = some .none
  dbig : h.objs.size ≤ d
  dne : d ≠ e
  ns : h'.Ns1 d (fun y => if y = f then some v else none)
section
variable {prog : Program} {w : World} {A : Around} {E : Value → Shared → Prop} {R : Result → Shared → Prop} {s : Shared} {K : Frag} {mg mb : Str → Option Value} {f : Str} {C fI cc cda : Addr}
theorem xi_made (T : OwnI prog K mg f C fI cc cda) {v : Value} (X : K.In s.heap) (hg : s.heap.Ns mainGlobals mg) (hb : s.heap.Ns builtinsNs mb) (hmb : ∀ y : Str, y ≠ "__name__" → mb y = bootBuiltins y) (hlim : s.heap.NoLimit) (hroom : A.depth + 1 < recursionLimit)
    (hq : ∀ h' tk e d, XiMade s.heap h' e C d f v → R (.ok (.ret (.ref e))) { s with heap := h', toks := tk }) :
    codeAny (model prog w) A (.call (.ref C) ⟨[v], []⟩) R s := by
  obtain ⟨nm, q, N, bs, bm, sn, sub, ab, col, dd, k0, k1, k2, k3, k5, hC, hbm⟩ := T.cls
  obtain ⟨hp, g, dr, tk, os⟩ := s
  have k : ∀ b o, hp.get? b = some o → ((hp.push (kdv_tup [v])).push (PySem.HandSPX.excO C hp.objs.size)).get? b = some o := fun b o e => Heap.get?_push_of_some _ (Heap.get?_push_of_some _ e)
  have hget : ((hp.push (kdv_tup [v])).push (PySem.HandSPX.excO C hp.objs.size)).get? (hp.objs.size + 1) = some (PySem.HandSPX.excO C hp.objs.size) := by heap_get
  refine PySem.HandSPX.call_own F.excBase_ValueError (fun Y => PySem.HandSPX.refsVE_contains Y bm hbm) (X _ _ hC) (looks_findIn X T.iC) (fun self => bind_fn X self T.tC) (one_fits v) ?_
  refine xi_init (s := ⟨(hp.push (kdv_tup [v])).push (PySem.HandSPX.excO C hp.objs.size), g, dr, tk, os⟩) T (B := hp) X k (Nat.le_succ _) (hg.keeps k) (hb.keeps k) hmb (hlim.keeps k) hget ?_ fun h' tk' dx t1 ⟨k', hx, dn, dne, hns⟩ => ?_
  · show A.depth + 1 < recursionLimit
    exact hroom
  · exact ⟨rfl, hq h' tk' (hp.objs.size + 1) dx ⟨k', Nat.le_succ _, ⟨_, _, hx, rfl, rfl, rfl, rfl⟩, dn, dne, hns⟩⟩
end
theorem relO_xi {v : V} {v' : Value} {g : Str} (r : RelV v v') (f : Str) : RelO (List.lookup f [(g, v)]) (if f = g then some v' else none) := by
  by_cases hw : f = g
  · subst hw
    rw [if_pos rfl]
    have q : List.lookup f [(f, v)] = some v := by simp [List.lookup]
    rw [q]
    exact r
  · rw [if_neg hw]
    have qw : (f == g) = false := by simpa using hw
    have q2 : List.lookup f [(g, v)] = none := by simp [List.lookup, qw]
    rw [q2]
    trivial
section
variable {X : Cx} {C fI cc cda : Addr} {f : Str}
/-- C(e) -/
def tMkXi (C : Addr) (f : Str) (ta : TA) : L2.St → Hp → XK → Prop := fun σ H Q => ta σ H fun vs H1 => ∃ v, vs = [v] ∧ ∀ d, H1 d = none → Q (.ref C) (some d) (upd H1 d (.xd [(f, v)]))
theorem pmk_xi {cn : Str} {a : Expr} {ta : TA} {p pos : Pos} (T : OwnI X.prog X.K X.mg f C fI cc cda) (r : Raises X (.ref C)) (hr : X.A.depth + 1 < recursionLimit) (ha : PA X [a] ta) (hg : Gl X cn) (hm : X.mg cn = some (.ref C)) (hdb : (cn == ("__debug__" : Str)) = false)
    (he : starEach (a :: []) X.env = (false, eval a X.env) :: starEach [] X.env) (hpl : (backTo pos (starEach [] X.env)).any (·.1) = false := by rfl) :
    PMk X (.Call (.Name cn p) [a] [] pos) (tMkXi C f ta) := by
  intro pins s σ H Q I h
  refine wpAny_Call_Name_kw (ld_glob I hg hm ?_ hdb)
  refine PySem.W.callWith_K (h₀ := X.base) I.ok.mod.kin T.kC (thn (ha.run pos pins s σ H _ I h) fun us s1 hh => ?_) he hpl
  obtain ⟨vs, H1, I1, r1, v, ev, q1⟩ := hh
  subst ev
  refine ⟨I1.kIn, ?_⟩
  cases r1 with
  | cons rv rn =>
    rename_i v' us'
    cases rn
    show wpAny _ _ (call (.ref C) [v']) _ _ _
    have hlim := I1.nolimit
    have hG := I1.ok.mod.glob.keeps I1.bk
    obtain ⟨mb, hB, hmb⟩ := I1.ok.mod.blt
    have hB := hB.keeps I1.bk
    obtain ⟨hp, g, dr, tk, os⟩ := s1
    refine wpAny_call (xi_made T I1.kIn hG hB hmb hlim hr fun h' tk' e d M => ?_)
    show MkP X pins σ Q (.ref e) ⟨h', g, dr, tk', os⟩
    obtain ⟨oe, fv, hoe, hc, hd, hdat, h1⟩ := M.obj
    have hns := M.ns
    obtain ⟨G', g1, g2⟩ := restrict h' fun b => decide (b ≠ e)
    have gk : ∀ b, b ≠ e → G'.get? b = h'.get? b := fun b hb => g1 b (decide_eq_true hb)
    have ge : G'.get? e = none := g2 e (by simp)
    have old : ∀ b o, hp.get? b = some o → G'.get? b = some o := fun b o q => (gk b (Nat.ne_of_lt (Nat.lt_of_lt_of_le (Heap.lt_size q) M.new))).trans (M.keep b o q)
    have ob : ObjOk X.prog X.w (upd H1 d (.xd [(f, v)])) G' d (.xd [(f, v)]) :=
      ⟨_, hns.at (fun o q => (gk d M.dne).trans q), fun y => relO_xi rv y⟩
    have J : Inv X pins σ (upd H1 d (.xd [(f, v)])) ⟨G', g, dr, tk', os⟩ := I1.laid (t' := tk') old M.dbig ob
    refine ⟨e, oe, fv, ⟨G', g, dr, tk', os⟩, _, .ref C, some d, rfl, J, fun b o q => ?_, ge, hoe, ⟨hc, hd⟩, hdat, h1, ?_, rfl, I1.bare, r, q1 d (I1.hok.fresh M.dbig)⟩
    · by_cases hb : b = e
      · have q' : G'.get? b = some o := q
        rw [hb, ge] at q'; cases q'
      · exact (gk b hb).symm.trans q
    · rw [upd_ne (Ne.symm M.dne)]
      exact I1.hok.fresh M.new
end
theorem pmk_0 {X : Cx} {C : Addr} {bmB : List Value} {B newId initId : String} {x : Str} {p pos : Pos} (F : ExcBaseFacts B newId initId bmB) (q : PySem.W.excIn X.K C bmB newId = true) (gC : X.mg x = some (.ref C))
    (kC : PySem.W.keepIn X.K (.ref C) = true) (r : Raises X (.ref C)) (hg : Gl X x) (hdb : (x == ("__debug__" : Str)) = false) : PMk X (.Call (.Name x p) [] [] pos) (fun σ H Q => Q (.ref C) none H) := fun pins s σ H Q I h => by
  refine wpAny_Call_Name_kw (ld_glob I hg gC (PySem.W.callWith_K0 I.kIn kC ?_) hdb)
  obtain ⟨bm, N, nm, qn, bs, hdct, sn, sub, ab, col, dd, k0, k1, k2, k3, k5, mN, hC, hN, hni, T⟩ := exc_obj I.kIn q
  exact wpAny_call_exc_subT F T hC hN hni (fun h' e hm => mk_of I hm r h (I.hok.gone hm.new)) (Nat.zero_le _)
/-! ### raise C -/
section
variable {prog : Program} {w : World} {A : Around} {E : Value → Shared → Prop} {s : Shared} {K : Frag} {C : Addr}
theorem xi_nest {Q : Fin → Shared → Prop} (X : K.In s.heap) (hc : ∃ oc od cd sl, K.lookup C = some ⟨oc, od, .cls cd, sl⟩) (ht : typeIn K (.ref C) = some (.type "type")) (sub : mroIn K C (.ref C) = some true) (h : Q (.done (.ret (.bool true))) s) :
    wpAny (model prog w) A (Builtin.«issubclass.nested» ⟨[.ref C, .ref C, rawInt 0], []⟩) Q E s := by
  obtain ⟨hh, g, dr, t, os⟩ := s
  dsimp only at X
  obtain ⟨oc, od, cd, sl, hK⟩ := hc
  have hC := X _ _ hK
  have L1 := PySem.W.looks_mroIn (M := model prog w) X sub
  have L2 := PySem.W.looks_typeIn (M := model prog w) X ht
  unfold Builtin.«issubclass.nested»
  repeat (first | exact h | exact wpAny_pure h | lk)
theorem xi_issub {Q : Value → Shared → Prop} (X : K.In s.heap) (hc : ∃ oc od cd sl, K.lookup C = some ⟨oc, od, .cls cd, sl⟩) (ht : typeIn K (.ref C) = some (.type "type")) (sub : mroIn K C (.ref C) = some true) (h : Q (.bool true) s) :
    wpAny (model prog w) A (call (.builtin "issubclass") [.ref C, .ref C]) Q E s :=
  call_issubclass (S := fun _ R s => K.In s.heap ∧ R (.ok (.ret (.bool true))) s) (fun _ _ _ _ _ hs => issubclass_outer (xi_nest hs.1 hc ht sub hs.2)) ⟨X, h⟩
/-- raise C, at the library's level: C a class without own __init__ -/
theorem xi_raiseC {env : Env} {x : Sem Value} {Q : Flow → Shared → Prop} {bmB : List Value} {B newId initId : String} (F : ExcBaseFacts B newId initId bmB) (X : K.In s.heap) (q : excIn K C bmB newId = true) (ht : typeIn K (.ref C) = some (.type "type")) (sub : mroIn K C (.ref C) = some true) (hb : subIn K (.ref C) (.type "BaseException") = some true) (hh : A.handled = none)
    (hx : wpAny (model prog w) A x (fun v s₁ => v = .ref C ∧ s₁ = s) E s)
    (h : ∀ h' e, Heap.MadeExcOf s.heap h' e (.ref C) [] → E (.ref e) { s with heap := h' }) : wpAny (model prog w) A (raiseStmt env (some x) none) Q E s := by
  obtain ⟨bm, N, nm, qn, bs, hdct, sn, sb, ab, col, dd, k0, k1, k2, k3, k5, mN, hC, hN, hni, T⟩ := exc_obj X q
  have hc : ∃ oc od cd sl, K.lookup C = some ⟨oc, od, .cls cd, sl⟩ := by
    unfold excIn at q
    split at q
    · rename_i dd cd sl ho
      exact ⟨_, _, _, _, ho⟩
    · cases q
  have hT : ∀ {hp : Heap} {Q' : Bool → Shared → Prop}, (∀ b o, s.heap.get? b = some o → hp.get? b = some o) → Q' true { s with heap := hp } → wpAny (model prog w) A (isType (.ref C)) Q' E { s with heap := hp } := fun {hp Q'} k z => ks_wpAny_isType_cls (k _ _ hC) rfl z
  have LB : Looks (model prog w) s.heap (isSubtype (.ref C) (.type "BaseException")) true := looks_subIn X hb
  unfold raiseStmt
  dsimp only
  refine wpAny_bind (wpAny_mono hx (fun v s₁ h₁ => ?_) fun _ _ z => z)
  obtain ⟨rfl, rfl⟩ := h₁
  refine wpAny_bind (wpAny_pure ?_)
  dsimp only
  refine wpAny_bind (wpAny_holding ?_)
  unfold excFromValue isExcClass
  refine wpAny_bind (wpAny_bind (hT (fun _ _ z => z) ?_))
  refine KFB.if_so rfl (LB.here ?_)
  refine KFB.if_so rfl ?_
  refine wpAny_bind (wpAny_call_exc_subT F T hC hN hni (fun h' e hm => ?_) (Nat.zero_le _))
  obtain ⟨t, he, _, _⟩ := hm.there
  have LT : Looks (model prog w) h' (typeOf (.ref e)) (.ref C) := fun A Q E s k q => wpAny_typeOf_ref (k _ _ he) q
  have LI : Looks (model prog w) h' (isInstance (.ref e) (.type "BaseException")) true := LT.andThen (LB.keeps hm.keeps)
  refine wpAny_bind (LI.here ?_)
  refine KFB.if_not rfl (wpAny_pure ?_)
  refine wpAny_bind (hT hm.keeps ?_)
  refine KFB.if_so rfl ?_
  refine wpAny_bind (wpAny_holding ?_)
  unfold raisedFor
  refine KFB.if_not rfl ?_
  refine wpAny_bind (m := typeOf (.ref e)) (LT.here ?_)
  refine wpAny_bind (xi_issub (X.keeps hm.keeps) hc ht sub ?_)
  refine wpAny_bind (wpAny_truthy_bool ?_)
  refine KFB.if_so rfl (wpAny_pure ?_)
  unfold setFlight raiseNew
  refine wpAny_bind (wpAny_bind (wpAny_field (i := 1) (x := Value.none) he rfl rfl ?_))
  refine KFB.if_not (by decide) (wpAny_pure (wpAny_bind (wpAny_handled ?_)))
  rw [hh]
  first
    | exact wpAny_throw (h h' e hm)
    | exact wpAny_bind (wpAny_pure (wpAny_throw (h h' e hm)))
end
/-- raise C -/
theorem ps_raiseC {X : Cx} {W : WX} {x : Str} {C : Addr} {bmB : List Value} {B newId initId : String} {p pos : Pos} (hc : X.calm = true) (tk : Takes X W) (F : ExcBaseFacts B newId initId bmB) (q : excIn X.K C bmB newId = true) (gC : X.mg x = some (.ref C)) (ht : typeIn X.K (.ref C) = some (.type "type")) (sub : mroIn X.K C (.ref C) = some true)
    (hb : subIn X.K (.ref C) (.type "BaseException") = some true) (hg : Gl X x) (hdb : (x == ("__debug__" : Str)) = false) : PS X (.Raise (some (.Name x p)) none pos) (fun _ σ H => W (.ref C) none σ H) := by
  refine ⟨fun pins s σ H D I h => ?_⟩
  show wpAny _ _ (do standAt pos; raiseStmt X.env (some (do let v ← eval (.Name x p) X.env; standAt pos; pure v)) none) _ _ _
  refine wpAny_bind (wpAny_standAt ?_)
  refine xi_raiseC F I.kIn q ht sub hb (I.ok.hd hc) (wpAny_bind (ld_glob I hg gC (wpAny_bind (wpAny_standAt (wpAny_pure ⟨rfl, rfl⟩))) hdb)) fun h' e hm => ?_
  obtain ⟨t, he, _, _⟩ := hm.there
  exact tk _ _ (XE.new I hm.keeps hm.new he ⟨rfl, rfl⟩ rfl rfl (I.hok.gone hm.new) rfl I.bare h)
/-! ### isinstance of the error that a suite holds -/
def rIsX (K : PySem.W.Frag) (i : ExI) : List V → Hp → VK → Prop := fun xs H Q => ∃ (c : V) (cv : Value) (b : Bool), xs = [.ref i.a, c] ∧ (∀ u, RelV c u → u = cv) ∧ PySem.W.kitOne K (.ref i.C) cv = some b ∧ (i.dx = none ∨ ∃ d fs, i.dx = some d ∧ H d = some (.xd fs)) ∧ Q (.bl b) H
theorem call_isX {X : Cx} {i : ExI} {oe : Obj} {pn : List (Addr × Obj)} (C : ExcC X.K i.C) (hz : Zc (.ref i.C) i.dx oe) (hf : ∃ vs, oe.data = .fields vs) : CallR (X.suite i.a ((i.a, oe) :: pn)) (.builtin "isinstance") (rIsX X.K i) := by
  intro pins s σ H xs us Q I r h
  obtain ⟨c, cv, b, rfl, hcv, e, hd, q⟩ := h
  cases r with
  | cons rx rr =>
    cases rr with
    | cons rt rr =>
      cases rr
      cases rx
      have ec := hcv _ rt
      subst ec
      obtain ⟨hget, _⟩ := I.pin (i.a, oe) (List.mem_append.mpr (.inl List.mem_cons_self))
      obtain ⟨vs, hv⟩ := hf
      have hcl : (PySem.W.clsIn X.K i.C).isSome = true := by
        obtain ⟨cd, hc, _⟩ := any_some C.hd
        rw [hc]; rfl
      have hno : PySem.W.notCls oe = true := by unfold PySem.W.notCls; rw [hv]
      have fin : ∀ od, PySem.W.InstAt s.heap i.a oe i.C od → wpAny (model X.prog X.w) (X.A.mark (some (.ref i.a))) (call (.builtin "isinstance") [.ref i.a, _]) (EP (X.suite i.a ((i.a, oe) :: pn)) pins σ Q) (fun _ _ => False) s := fun od J =>
        PySem.W.kia_one (PySem.W.kitx_exc (gt := none) hcl C.hg C.hk C.hs C.ha C.hn C.ht C.hm) I.kIn J e (fun z => nomatch z) fun tk => ⟨.bl b, H, I.kept (t' := tk) fun _ _ z => z, rfl, q⟩
      rcases hd with hd | ⟨d, fs, hd, hH⟩
      · exact fin none ⟨hget, hz.1, hno, by rw [hz.2, hd]; trivial⟩
      · obtain ⟨mA, hns, _⟩ := I.hok d _ hH
        obtain ⟨od, es, ep, ho, _⟩ := hns
        exact fin (some od) ⟨hget, hz.1, hno, by rw [hz.2, hd]; exact ho⟩
end Ev
set_option Elab.async false
set_option linter.all false
set_option maxRecDepth 100000
set_option maxHeartbeats 2000000
/-! Ev9: calls. -/
namespace Ev
open PySem PySem.Spec PyProof.Rows L2

def relR (G : GC) : Hp → List Addr → D → V → Prop := fun H ρ d v => Rep G none H ρ d v
/-- room, and no guard is up -/
structure Rm (k : Nat) (A : Around) : Prop where
  room : L2.Room k A
  gd : A.guards = some []
/-- what is known of an own class of errors, at C, with these fields -/
structure ClsE (P : Program) (K : PySem.W.Frag) (mg : Str → Option Value) (C : Addr) (ns : List String) : Prop where
  exC : PySem.W.subIn K (.ref C) (.type "BaseException") = some true
  tyC : PySem.W.typeIn K (.ref C) = some (.type "type")
  own : PySem.W.mroIn K C (.ref C) = some true
  keep : PySem.W.keepIn K (.ref C) = true
  is : ExcC K C
  fld : ∀ f ∈ ns, PySem.W.findIn K (.ref C) (Str.ofString f) = some none
  mk0 : ns = [] → PySem.W.excIn K C PySem.HandSPX.veTail "ValueError.__new__" = true
  mk1 : ∀ f r, ns = f :: r → r = [] ∧ ∃ fI cc cda, OwnI P K mg (Str.ofString f) C fI cc cda
/-- what a class stands for in a test -/
def ClsV (mg : Str → Option Value) (y : String) (cv : Value) : Prop := (mg (Str.ofString y) = some cv ∧ ∃ D, cv = .ref D) ∨ (y = "ValueError" ∧ mg "ValueError" = none ∧ cv = .type "ValueError")
/-- what the own classes of errors promise -/
structure ExcOk (G : GC) (fl : String → Option (List String)) (P : Program) (κ : Kap) : Prop where
  fl : ∀ cn, fl cn = (κ.exc cn).map (·.2)
  cls : ∀ cn p, κ.exc cn = some p → ∃ C, G.mg (Str.ofString cn) = some (.ref C) ∧ ClsE P G.K G.mg C p.2
  isx : ∀ cn y b C, κ.isx cn y = some b → G.mg (Str.ofString cn) = some (.ref C) → ∃ cv, ClsV G.mg y cv ∧ PySem.W.kitOne G.K (.ref C) cv = some b ∧ PySem.W.exmOne G.K (.ref C) cv = some b
/-- what the defs promise, by the big step function of their calls -/
structure FnsOk (G : GC) (fl : String → Option (List String)) (P : Program) (w : World) (base : Heap) (k : Nat) (κ : Kap) : Prop where
  run : ∀ (x : String) (f : Addr), G.mg (Str.ofString x) = some (.ref f) → ∀ (A : Around) (outer : List Env) (s : Shared) (H : Hp) (us kus : List Value) (vs kvs : List V) (l : List D) (kw : List (Str × D)) (ρ : List Addr) (S : Store) (Q : VK) (E : XK),
    Rm k A → Env0 P w G.K G.mg base A outer s H → Vals vs us → Reps G (some ⟨s.heap, H, frs outer, none⟩) H ρ l vs → Vals kvs kus → Reps G (some ⟨s.heap, H, frs outer, none⟩) H ρ (kw.map (·.2)) kvs → SRep G H ρ S →
    PostG G fl (fun c d _ H => E c d H) [] (relR G) H ρ Q (κ.call x l kw S) →
    codeAny (model P w) A (.call (.ref f) ⟨us, (kw.map (·.1)).zip kus⟩) (CR (L2.CX P w) outer P w H s Q E) s
  clo : ∀ (i : Nat) (f : Addr) (A : Around) (outer : List Env) (s : Shared) (H : Hp) (us : List Value) (vs : List V) (vσ : L2.St) (σ l : List D) (ρ : List Addr) (S : Store) (Q : VK) (E : XK),
    Rm k A → Env0 P w G.K G.mg base A outer s H → CloH G ⟨s.heap, H, frs outer, none⟩ H i f vσ → Repo G (some ⟨s.heap, H, frs outer, none⟩) H ρ σ vσ → Vals vs us → Reps G (some ⟨s.heap, H, frs outer, none⟩) H ρ l vs → SRep G H ρ S →
    PostG G fl (fun c d _ H => E c d H) [] (relR G) H ρ Q (κ.clo i σ l S) →
    codeAny (model P w) A (.call (.ref f) ⟨us, []⟩) (CR (L2.CX P w) outer P w H s Q E) s
  glob : ∀ (x : String) (d : D), κ.glob x = some d → ∃ u v, G.mg (Str.ofString x) = some u ∧ RelV v u ∧ ∀ H ρ, Rep G none H ρ d v
  exc : ExcOk G fl P κ
/-- what is known of a context ahead; hot: an error is held -/
structure Cs where
  N : List Str
  sc : Scope
  fs : List String
  bs : List Str
  blk : Option Scope
  qual : Str
  lam : Bool
  okl : Nat → LamA → Bool
  es : List (String × Nat)
  hot : Bool
def Cs.fn (c : Cs) (x : Str) : Bool := match c.blk with
  | none => true
  | some sc => sc.names.lookup x == some .cell
/-- the error that a suite holds: how it is asked -/
structure ExS (X : Cx) (G : GC) (κ : Kap) (i : ExI) : Prop where
  mg : G.mg (Str.ofString i.cn) = some (.ref i.C)
  ns : (κ.exc i.cn).map (·.2) = some i.ns
  is : CallR X (.builtin "isinstance") (rIsX X.K i)
  fld : ∀ f ∈ i.ns, ∀ (e : Expr) (te : TE) (pos : Pos), PE X e te → attributeBase e (Str.ofString f) X.env (eval e X.env) = eval e X.env → PE X (.Attribute e (Str.ofString f) pos) (tXf i.a (.ref i.C) i.dx i.C (Str.ofString f) te)
structure SX (Z : Se) (κ : Kap) (X : Cx) (c : Cs) (k : Nat) : Prop where
  K : X.K = Z.G.K
  mg : X.mg = Z.G.mg
  N : X.N = c.N
  sc : X.env.scope = c.sc
  calm : c.hot = false → X.calm = true
  nd : X.N.Nodup
  room : c.hot = false → Rm k X.A
  un : X.A.units + 70 < cLine
  gd : X.A.guards = some []
  fns : FnsOk Z.G Z.fl X.prog X.w X.base k κ
  tk : Takes X Z.W
  fn : ∀ x, c.fn x = true → X.fn x = true
  bs : ∀ b ∈ c.bs, X.mg b = none
  fs : ∀ x ∈ c.fs, ∃ f, Z.G.mg (Str.ofString x) = some (.ref f) ∧ PySem.W.keepIn Z.G.K (.ref f) = true
  cc : c.hot = false → ∀ cc, Z.cc = some cc → cc = ⟨X.s_0.heap, X.H_0, X.fs, none⟩ ∧ X.ex = []
  hx : ∀ cc i, Z.cc = some cc → cc.ex = some i → ExS X Z.G κ i
  es : ∀ q ∈ c.es, ∃ p, κ.exc q.1 = some p ∧ p.2.length = q.2
  frm : c.blk = none → X.stack = X.env :: X.outer ∧ X.env.frame = some X.env.locals
  okl : c.lam = true → c.okl = Z.G.lamA
  own : PassesOwn (model X.prog X.w) X.A X.env X.xe
  lam : c.lam = true → c.hot = false ∧ X.env.qual = c.qual ∧ c.blk = none ∧ (∃ cc, Z.cc = some cc) ∧ ∃ a P, LamX.TabB X.base X.mg a P ∧ X.env.code = .ref a ∧ (P, c.qual ++ "<lambda>") ∈ Z.G.T ∧ ∀ p ∈ Z.G.T, p.1 = P → p.2 = c.qual ++ "<lambda>"
section
variable {G : GC} {c1 c2 : CC} {H : Hp} {ρ : List Addr}
mutual
theorem Rep.cc (n : c1.ex = none) (t : ∀ k f vs, CloH G c1 H k f vs → CloH G c2 H k f vs) {d : D} {v : V} : Rep G (some c1) H ρ d v → Rep G (some c2) H ρ d v
  | .non => .non
  | .bl b => .bl b
  | .int i => .int i
  | .str s => .str s
  | .tup a r => .tup a (Reps.cc n t r)
  | .rl a r => .rl a (Reps.cc n t r)
  | .ref h => .ref h
  | .fn h k => .fn h k
  | .clo h r q => .clo rfl (Repo.cc n t r) (by cases h; exact t _ _ _ q)
  | .exn h1 h2 _ _ _ _ => by cases h1; rw [n] at h2; cases h2
theorem Reps.cc (n : c1.ex = none) (t : ∀ k f vs, CloH G c1 H k f vs → CloH G c2 H k f vs) {l : List D} {vs : List V} : Reps G (some c1) H ρ l vs → Reps G (some c2) H ρ l vs
  | .nil => .nil
  | .cons h r => .cons (Rep.cc n t h) (Reps.cc n t r)
theorem Repo.cc (n : c1.ex = none) (t : ∀ k f vs, CloH G c1 H k f vs → CloH G c2 H k f vs) {l : List D} {vs : L2.St} : Repo G (some c1) H ρ l vs → Repo G (some c2) H ρ l vs
  | .nil => .nil
  | .uns r => .uns (Repo.cc n t r)
  | .cons h r => .cons (Rep.cc n t h) (Repo.cc n t r)
end
end
section
variable {X : Cx} {pins : List (Addr × Obj)} {vσ : L2.St} {H : Hp} {s : Shared} {G : GC}
theorem stk_split (I : Inv X pins vσ H s) {a : Addr} (h : a < X.s_0.heap.objs.size) (n : a ∉ X.fs) : a ∉ frs X.stack := fun hm => by
  rcases List.mem_cons.mp (I.stkSub _ hm) with e | e
  · have := I.ok.above
    rw [← e] at this
    exact absurd h (Nat.not_lt.mpr this)
  · exact n e
/-- a lambda that was handed in is known at a later state of the body -/
theorem CloH.pers (I : Inv X pins vσ H s) (hex : X.ex = []) {k : Nat} {f : Addr} {vs : L2.St} (h : CloH G ⟨X.s_0.heap, X.H_0, X.fs, none⟩ H k f vs) : CloH G ⟨s.heap, H, frs X.stack, none⟩ H k f vs := by
  obtain ⟨L, cells, pm, c', ctv, h1, h2, h3, h4, h5, h6, h7, h8⟩ := h
  have nex : ∀ b : Addr, b ∉ X.ex := fun b z => by rw [hex] at z; cases z
  have kp : ∀ {a : Addr} {w : Option Value}, X.H_0 a = none → a ∉ X.fs → X.s_0.heap.IsCell a w → s.heap.IsCell a w := fun {a w} n nf ⟨o, ho, hd⟩ => ⟨o, I.base.keep a o ho n nf (nex a), hd⟩
  have h2' : X.s_0.heap.get? f = some (PySem.W.kla_obj "<lambda>" L.qual L.params L.body L.scope cells pm c' ctv) := h2
  refine ⟨L, cells, pm, c', ctv, h1, I.base.keep f _ h2' h3 h4 (nex f), I.base.free f _ h2' h3 (nex f), stk_split I (Heap.lt_size h2') h4, h5, h6, fun x a e => ?_, fun y hy e => ?_⟩
  · obtain ⟨n, nf, w, o, ho, hd⟩ := h7 x a e
    exact ⟨I.base.free a o ho n (nex a), stk_split I (Heap.lt_size ho) nf, w, kp n nf ⟨o, ho, hd⟩⟩
  · obtain ⟨a, ea, hv⟩ := h8 y hy e
    obtain ⟨n, nf, _⟩ := h7 _ _ ea
    refine ⟨a, ea, fun i v q1 q2 => ?_⟩
    obtain ⟨u, ru, cu⟩ := hv i v q1 q2
    exact ⟨u, ru, kp n nf cu⟩
end
section
variable {Z : Se} {κ : Kap} {X : Cx} {c : Cs} {k : Nat} {pins : List (Addr × Obj)} {vσ : L2.St} {H : Hp} {s : Shared} {ρ : List Addr}
theorem SX.reps (x : SX Z κ X c k) (hh : c.hot = false) (I : Inv X pins vσ H s) {l : List D} {vs : List V} (r : Reps Z.G Z.cc H ρ l vs) : Reps Z.G (some ⟨s.heap, H, frs X.stack, none⟩) H ρ l vs := by
  cases e : Z.cc with
  | none => rw [e] at r; exact r.any
  | some cc =>
    rw [e] at r
    obtain ⟨rfl, hex⟩ := x.cc hh cc e
    exact r.cc rfl fun _ _ _ h => h.pers I hex
theorem SX.repo (x : SX Z κ X c k) (hh : c.hot = false) (I : Inv X pins vσ H s) {l : List D} {vs : L2.St} (r : Repo Z.G Z.cc H ρ l vs) : Repo Z.G (some ⟨s.heap, H, frs X.stack, none⟩) H ρ l vs := by
  cases e : Z.cc with
  | none => rw [e] at r; exact r.any
  | some cc =>
    rw [e] at r
    obtain ⟨rfl, hex⟩ := x.cc hh cc e
    exact r.cc rfl fun _ _ _ h => h.pers I hex
theorem post_call {E : XK} {Q : VK} {r : R D} (hE : ∀ C d H, Z.W C d vσ H → E C d H) (h : Pst Z vσ (relD Z) H ρ Q r) : PostG Z.G Z.fl (fun c d _ H => E c d H) [] (relR Z.G) H ρ Q r := by
  cases r with
  | ok d S => exact fun v H' ρ' e p s r => h v H' ρ' e p s r.any
  | ex cn l S => exact fun C dx H' ρ' e p s r => hE _ _ _ (h C dx H' ρ' e p s r)
  | bad => exact h
/-- behind a call -/
theorem call_end (x : SX Z κ X c k) (I : Inv X pins vσ H s) {t : Code} {Q : VK} {f : Addr} {us : List Value} {kw : List (Str × Value)}
    (h : codeAny (model X.prog X.w) X.A (.call (.ref f) ⟨us, kw⟩) (CR (L2.CX X.prog X.w) X.stack X.prog X.w H s Q (WE Z.W vσ)) s) : wpAny (model X.prog X.w) X.A (call (.ref f) us kw) (EP X pins vσ Q) X.xe s := by
  refine wpAny_call (codeAny_mono h fun r s' hq => ?_)
  cases r with
  | error e => exact passAt x.tk vσ pins H s e s' I hq
  | ok fl =>
    cases fl with
    | ret u => exact I.after hq
    | next => exact False.elim hq
    | brk => exact False.elim hq
    | cont => exact False.elim hq
theorem SX.env0 (x : SX Z κ X c k) (I : Inv X pins vσ H s) : Env0 X.prog X.w Z.G.K Z.G.mg X.base X.A X.stack s H := by
  have := I.env0
  rw [x.K, x.mg] at this
  exact this
/-- a def is called -/
theorem run_call (x : SX Z κ X c k) (hh : c.hot = false) {y : String} {f : Addr} (hf : Z.G.mg (Str.ofString y) = some (.ref f)) (I : Inv X pins vσ H s) {us kus : List Value} {vs kvs : List V} {l : List D} {kw : List (Str × D)} {S : Store} {Q : VK}
    (r : Vals vs us) (rl : Reps Z.G Z.cc H ρ l vs) (kr : Vals kvs kus) (krl : Reps Z.G Z.cc H ρ (kw.map (·.2)) kvs) (sr : SRep Z.G H ρ S) (q : Pst Z vσ (relD Z) H ρ Q (κ.call y l kw S)) :
    wpAny (model X.prog X.w) X.A (call (.ref f) us ((kw.map (·.1)).zip kus)) (EP X pins vσ Q) X.xe s :=
  call_end (t := .call (.ref f) ⟨us, []⟩) x I (x.fns.run y f hf X.A X.stack s H us kus vs kvs l kw ρ S Q (WE Z.W vσ) (x.room hh) (x.env0 I) r (x.reps hh I rl) kr (x.reps hh I krl) sr (post_call (fun _ _ _ h => h) q))
theorem run_clo (x : SX Z κ X c k) (hh : c.hot = false) {i : Nat} {f : Addr} (I : Inv X pins vσ H s) {us : List Value} {vs : List V} {σ l : List D} {vs0 : L2.St} {S : Store} {Q : VK} (hc : CloH Z.G ⟨s.heap, H, frs X.stack, none⟩ H i f vs0) (hs : Repo Z.G Z.cc H ρ σ vs0)
    (r : Vals vs us) (rl : Reps Z.G Z.cc H ρ l vs) (sr : SRep Z.G H ρ S) (q : Pst Z vσ (relD Z) H ρ Q (κ.clo i σ l S)) :
    wpAny (model X.prog X.w) X.A (call (.ref f) us []) (EP X pins vσ Q) X.xe s :=
  call_end (t := .call (.ref f) ⟨us, []⟩) x I (x.fns.clo i f X.A X.stack s H us vs vs0 σ l ρ S Q (WE Z.W vσ) (x.room hh) (x.env0 I) hc (x.repo hh I hs) r (x.reps hh I rl) sr (post_call (fun _ _ _ h => h) q))
end
end Ev
set_option Elab.async false
set_option linter.all false
set_option maxRecDepth 100000
set_option maxHeartbeats 2000000
/-! Ev10: the words of calls. -/
namespace Ev
open PySem PySem.Spec PyProof.Rows L2

/-- keywords: the names, the values -/
def relK (Z : Se) (ns : List Str) : Hp → List Addr → List (Str × D) → List V → Prop := fun H ρ kw vs => kw.map (·.1) = ns ∧ Reps Z.G Z.cc H ρ (kw.map (·.2)) vs
abbrev tvK (Z : Se) (ns : List Str) (f : List D → Store → R (List (Str × D))) : TA := tvG Z (relK Z ns) f
def kwNames : List Keyword → Option (List Str)
  | [] => some []
  | ⟨some n, _, _⟩ :: r => (kwNames r).map (n :: ·)
  | _ :: _ => none
theorem kw_names {pos : Pos} {env : Env} : ∀ {kws : List Keyword} {ns : List Str}, kwNames kws = some ns → (backToKw pos (keywordEach kws env)).map (·.1) = ns.map some
  | [], ns, h => by
    have h : some [] = some ns := h
    cases h; rfl
  | ⟨some n, e, p⟩ :: r, ns, h => by
    have h : (kwNames r).map (n :: ·) = some ns := h
    cases e1 : kwNames r with
    | none => rw [e1] at h; cases h
    | some ms =>
      rw [e1] at h
      cases h
      show some n :: (backToKw pos (keywordEach r env)).map (·.1) = _
      rw [kw_names e1]; rfl
  | ⟨none, e, p⟩ :: r, ns, h => by
    have h : none = some ns := h
    cases h
theorem kw_facts {l : List (Option Str × Sem Value)} {ns : List Str} (h : l.map (·.1) = ns.map some) : l.all (·.1.isSome) = true ∧ l.any (·.1.isNone) = false ∧ l.filterMap (·.1) = ns := by
  induction l generalizing ns with
  | nil => cases ns with
    | nil => exact ⟨rfl, rfl, rfl⟩
    | cons n ns => cases h
  | cons a l ih => cases ns with
    | nil => cases h
    | cons n ns =>
      rw [List.map_cons, List.map_cons] at h
      injection h with h1 h2
      obtain ⟨k1, k2, k3⟩ := ih h2
      refine ⟨?_, ?_, ?_⟩
      · rw [List.all_cons, h1, k1]; rfl
      · rw [List.any_cons, h1, k2]; rfl
      · rw [List.filterMap_cons, h1, k3]
section
variable {Z : Se} {X : Cx} {κ : Kap} {c : Cs} {k : Nat} {e : Expr} {es : List Expr} {kws : List Keyword} {fe : List D → Store → R D} {fl : List D → Store → R (List D)} {fk : List D → Store → R (List (Str × D))} {ns : List Str} {p pos : Pos} {y : String}
theorem k_nil : PK X [] (tvK Z [] fun _ S => .ok [] S) := imp_PK pk_nil fun vσ H Q q => by
  obtain ⟨ρ, σ, S, r, s, q⟩ := q
  exact Pst.ok (rel := relK Z []) q s ⟨rfl, .nil⟩
theorem k_cons {n : Str} {kp : Pos} (he : PE X e (tv Z fe)) (hr : PK X kws (tvK Z ns fk)) : PK X (⟨some n, e, kp⟩ :: kws) (tvK Z (n :: ns) fun σ S => (fe σ S).bind fun x S => (fk σ S).bind fun l S => .ok ((n, x) :: l) S) := by
  refine imp_PK (pk_cons he hr) fun vσ H Q q => ?_
  obtain ⟨ρ, σ, S, r, s, q⟩ := q
  refine ⟨ρ, σ, S, r, s, (PostG.bind (rel := relD Z) q).imp ?_⟩
  rintro v H1 ⟨ρ1, x, S1, e1, p1, s1, r1, q1⟩
  refine ⟨ρ1, σ, S1, r.mono e1 p1, s1, (PostG.bind (rel := relK Z ns) q1).imp ?_⟩
  rintro vs H2 ⟨ρ2, l, S2, e2, p2, s2, ⟨n2, r2⟩, q2⟩
  exact Pst.ok (rel := relK Z (n :: ns)) q2 s2 ⟨by rw [List.map_cons, n2], .cons (Rep.mono e2 p2 r1) r2⟩
theorem run_end (x : SX Z κ X c k) (hh : c.hot = false) {vσ : L2.St} {f : Addr} (hm : Z.G.mg (Str.ofString y) = some (.ref f)) (hk : PySem.W.keepIn Z.G.K (.ref f) = true) (hp : es.all plainE = true) (ha : PA X es (tvL Z fl)) (he0 : es = [] → fl = fun _ S => .ok [] S) (hks : PK X kws (tvK Z ns fk)) (hn : kwNames kws = some ns)
    {pins : List (Addr × Obj)} {s : Shared} {H : Hp} {Q : VK} (I : Inv X pins vσ H s) (q : tv Z (fun σ S => (fl σ S).bind fun l S => (fk σ S).bind fun kw S => κ.call y l kw S) vσ H Q) :
    wpAny (model X.prog X.w) X.A (callWith pos (.ref f) [] (backTo pos (starEach es X.env)) (backToKw pos (keywordEach kws X.env))) (EP X pins vσ Q) X.xe s := by
  have hkX : PySem.W.keepIn X.K (.ref f) = true := by rw [x.K]; exact hk
  obtain ⟨k1, k2, k3⟩ := kw_facts (kw_names (pos := pos) (env := X.env) hn)
  have hno : ((backTo pos (starEach es X.env)).any (·.1) || (backToKw pos (keywordEach kws X.env)).any (·.1.isNone)) = false := by
    rw [noStar hp, k2]; rfl
  obtain ⟨ρ, σ, S, r, sr, q⟩ := q
  cases es with
  | nil =>
    rw [he0 rfl] at q
    dsimp only [R.ok_bind] at q
    refine PySem.W.callWith_KW0 (h₀ := X.base) I.ok.mod.kin hkX k1 ?_ hno
    refine thn (hks.run pos pins s vσ H _ I ⟨ρ, σ, S, r, sr, PostG.bind (rel := relK Z ns) q⟩) fun ws s2 ⟨zs, H2, I2, rz, q2⟩ => ⟨I2.kIn, ?_⟩
    obtain ⟨ρ2, kw, S2, e2, p2, sr2, ⟨n2, r2⟩, q2⟩ := q2
    rw [k3, ← n2]
    exact run_call x hh hm I2 (us := []) (vs := []) .nil .nil rz r2 sr2 q2
  | cons e es =>
    have hp' : plainE e = true := by rw [List.all_cons, Bool.and_eq_true] at hp; exact hp.1
    refine PySem.W.callWith_KW (h₀ := X.base) I.ok.mod.kin hkX k1 (thn (ha.run pos pins s vσ H _ I ⟨ρ, σ, S, r, sr, PostG.bind (rel := relL Z) q⟩) fun us s1 ⟨vs, H1, I1, rv, q1⟩ => ?_) hno (starEach_plain hp' _ _)
    obtain ⟨ρ1, l, S1, e1, p1, sr1, rl, q1⟩ := q1
    refine thn (hks.run pos pins s1 vσ H1 _ I1 ⟨ρ1, σ, S1, r.mono e1 p1, sr1, PostG.bind (rel := relK Z ns) q1⟩) fun ws s2 ⟨zs, H2, I2, rz, q2⟩ => ⟨I2.kIn, ?_⟩
    obtain ⟨ρ2, kw, S2, e2, p2, sr2, ⟨n2, r2⟩, q2⟩ := q2
    rw [k3, ← n2]
    exact run_call x hh hm I2 rv (Reps.mono e2 p2 rl) rz r2 sr2 q2
/-- a def of the module is called -/
theorem p_call (x : SX Z κ X c k) (hh : c.hot = false) (hy : y ∈ c.fs) (hg : Gl X (Str.ofString y)) (hd : (Str.ofString y == ("__debug__" : Str)) = false) (hp : es.all plainE = true) (ha : PA X es (tvL Z fl)) (he0 : es = [] → fl = fun _ S => .ok [] S) (hks : PK X kws (tvK Z ns fk)) (hn : kwNames kws = some ns) :
    PE X (.Call (.Name (Str.ofString y) p) es kws pos) (tv Z fun σ S => (fl σ S).bind fun l S => (fk σ S).bind fun kw S => κ.call y l kw S) := by
  obtain ⟨f, hm, hk⟩ := x.fs y hy
  refine ⟨fun pins s σ H Q I h => ?_⟩
  refine wpAny_Call_Name_kw (ld_glob I hg (by rw [x.mg]; exact hm) ?_ hd)
  exact run_end x hh hm hk hp ha he0 hks hn I h
theorem clo_at (x : SX Z κ X c k) (hh : c.hot = false) {pins : List (Addr × Obj)} {vσ : L2.St} {H : Hp} {s : Shared} (I : Inv X pins vσ H s) {i : Nat} {f : Addr} {vs : L2.St} {cc : CC} (h : Z.cc = some cc) (q : CloH Z.G cc H i f vs) : CloH Z.G ⟨s.heap, H, frs X.stack, none⟩ H i f vs := by
  obtain ⟨rfl, hex⟩ := x.cc hh cc h
  exact q.pers I hex
theorem clo_fn {G : GC} {h : Heap} {H : Hp} {fr : List Addr} {i : Nat} {f : Addr} {vs : L2.St} (q : CloH G ⟨h, H, fr, none⟩ H i f vs) : PySem.W.FnAt f h := by
  obtain ⟨L, cells, pm, c', ctv, h1, h2, _⟩ := q
  exact ⟨_, _, _, _, h2⟩
/-- a name that holds a def or a lambda is called -/
theorem p_callv (x : SX Z κ X c k) (hh : c.hot = false) {i : Nat} {nm : Str} (hN : X.N[i]? = some nm) (hv : Vis X.env.scope nm) (hd : (nm == ("__debug__" : Str)) = false) (hcd : (nm == ("__classdict__" : Str)) = false)
    (hp : es.all plainE = true) (ha : PA X es (tvL Z fl)) (he0 : es = [] → fl = fun _ S => .ok [] S) (hks : PK X kws (tvK Z ns fk)) (hn : kwNames kws = some ns) (g : List D → Store → R D)
    (g1 : ∀ σ S y, σ[i]? = some (.fn y) → g σ S = (fl σ S).bind fun l S => (fk σ S).bind fun kw S => κ.call y l kw S)
    (g2 : ∀ σ S j σ', σ[i]? = some (.clo j σ') → g σ S = .bad ∨ kws = [] ∧ g σ S = (fl σ S).bind fun l S => κ.clo j σ' l S)
    (g3 : ∀ σ S, (∀ y, σ[i]? ≠ some (.fn y)) → (∀ j σ', σ[i]? ≠ some (.clo j σ')) → g σ S = .bad) :
    PE X (.Call (.Name nm p) es kws pos) (tv Z g) := by
  refine ⟨fun pins s vσ H Q I h => ?_⟩
  obtain ⟨ρ, σ, S, r, sr, q⟩ := h
  cases hσ : σ[i]? with
  | none => rw [g3 σ S (by rw [hσ]; intro _ z; cases z) (by rw [hσ]; intro _ _ z; cases z)] at q; exact q.elim
  | some d =>
    by_cases hu : d = .uns
    · subst hu
      rw [g3 σ S (by rw [hσ]; intro _ z; cases z) (by rw [hσ]; intro _ _ z; cases z)] at q; exact q.elim
    · obtain ⟨v, hvσ, rv⟩ := r.get hσ hu
      refine wpAny_Call_Name_kw (thn ((pe_var (pos := p) hN hv hd hcd).run pins s vσ H (fun v' H1 => v' = v ∧ H1 = H) I ⟨v, hvσ, rfl, rfl⟩) fun u s1 ⟨v', H1, I1, r1, q1⟩ => ?_)
      obtain ⟨e1, e2⟩ := q1
      subst e1
      rw [e2] at I1
      cases rv with
      | @fn y f hm hk =>
        cases r1
        rw [g1 σ S y hσ] at q
        exact run_end x hh hm hk hp ha he0 hks hn I1 ⟨ρ, σ, S, r, sr, q⟩
      | @clo j l f vs cc hcc rs qc =>
        cases r1
        rcases g2 σ S j l hσ with z | ⟨hk0, z⟩
        · rw [z] at q; exact q.elim
        · subst hk0
          rw [z] at q
          have c1 := clo_at x hh I1 hcc qc
          cases es with
          | nil =>
            rw [he0 rfl] at q
            dsimp only [R.ok_bind] at q
            exact PySem.W.callWith_F0 (clo_fn c1) (run_clo x hh I1 c1 rs (us := []) (vs := []) .nil .nil sr q)
          | cons e es =>
            have hp' : plainE e = true := by rw [List.all_cons, Bool.and_eq_true] at hp; exact hp.1
            have hpr : es.all plainE = true := by rw [List.all_cons, Bool.and_eq_true] at hp; exact hp.2
            refine PySem.W.callWith_F (clo_fn c1) (thn (ha.run pos pins s1 vσ H _ I1 ⟨ρ, σ, S, r, sr, PostG.bind (rel := relL Z) q⟩) fun us s2 ⟨ws, H2, I2, rw2, q2⟩ => ?_) (starEach_plain hp' _ _) (noStar hpr)
            obtain ⟨ρ2, l2, S2, e2, p2, sr2, rl2, q2⟩ := q2
            have c2 := clo_at x hh I2 hcc (CloH.hx e2 qc)
            exact ⟨clo_fn c2, run_clo x hh I2 c2 (Repo.mono e2 p2 rs) rw2 rl2 sr2 q2⟩
      | _ => rw [g3 σ S (by rw [hσ]; intro _ z; cases z) (by rw [hσ]; intro _ _ z; cases z)] at q; exact q.elim
/-! ### a lambda as the last argument -/
/-- the arguments ahead of it, then a word -/
structure PAL (X : Cx) (es : List Expr) (t : TA) : Prop where
  run : ∀ (e : Expr) (pos : Pos) (pins : List (Addr × Obj)) (s : Shared) (σ : L2.St) (H : Hp) (Q : List V → Hp → Prop) (Po : List Value → Shared → Prop), plainE e = true → Inv X pins σ H s → t σ H Q →
    (∀ us vs s1 H1, Inv X pins σ H1 s1 → Vals vs us → Q vs H1 → wpAny (model X.prog X.w) X.A (eval e X.env) (fun u s2 => Po (us ++ [u]) s2) X.xe s1) →
    wpAny (model X.prog X.w) X.A (spliced (backTo pos (starEach (es ++ [e]) X.env))) Po X.xe s
theorem imp_PAL {t t' : TA} (h : PAL X es t) (k : ∀ σ H Q, t' σ H Q → t σ H Q) : PAL X es t' := ⟨fun e pos pins s σ H Q Po hp I q => h.run e pos pins s σ H Q Po hp I (k _ _ _ q)⟩
theorem l_nil : PAL X [] (tvL Z fun _ S => .ok [] S) := by
  refine ⟨fun e pos pins s σ H Q Po hp I q h => ?_⟩
  obtain ⟨ρ, σ, S, r, sr, q⟩ := q
  rw [List.nil_append, starEach_plain hp]
  show wpAny _ _ (spliced ((false, eval e X.env) :: [])) _ _ _
  exact Calls.spliced_cons (thn (h [] [] s H I .nil (Pst.ok (rel := relL Z) q sr .nil)) fun u s2 hq => Calls.spliced_nil (by simpa using hq))
theorem l_cons {e : Expr} {es : List Expr} {fr : List D → Store → R (List D)} (hp : plainE e = true) (he : PE X e (tv Z fe)) (hr : PAL X es (tvL Z fr)) :
    PAL X (e :: es) (tvL Z fun σ S => (fe σ S).bind fun x S => (fr σ S).bind fun l S => .ok (x :: l) S) := by
  refine ⟨fun e2 pos pins s vσ H Q Po hp2 I q h => ?_⟩
  obtain ⟨ρ, σ, S, r, sr, q⟩ := q
  rw [List.cons_append, starEach_plain hp]
  show wpAny _ _ (spliced ((false, eval e X.env) :: backTo pos (starEach (es ++ [e2]) X.env))) _ _ _
  refine Calls.spliced_cons (thn (he.run pins s vσ H _ I ⟨ρ, σ, S, r, sr, PostG.bind (rel := relD Z) q⟩) fun u s1 ⟨v, H1, I1, r1, q1⟩ => ?_)
  obtain ⟨ρ1, x, S1, e1, p1, sr1, rx, q1⟩ := q1
  refine hr.run e2 pos pins s1 vσ H1 (fun vs H2 => Q (v :: vs) H2) _ hp2 I1 ⟨ρ1, σ, S1, r.mono e1 p1, sr1, (PostG.bind (rel := relL Z) q1).imp ?_⟩ fun us vs s2 H2 I2 rv qv => ?_
  · rintro vs H2 ⟨ρ2, l, S2, e2, p2, sr2, rl, q2⟩
    exact Pst.ok (rel := relL Z) q2 sr2 (.cons (Rep.mono e2 p2 rx) rl)
  · have := h (u :: us) (v :: vs) s2 H2 I2 (.cons r1 rv) qv
    simpa using this
end
end Ev
set_option Elab.async false
set_option linter.all false
set_option maxRecDepth 100000
set_option maxHeartbeats 2000000
/-! Ev11: a lambda is handed in. -/
namespace Ev
open PySem PySem.Spec PyProof.Rows L2

theorem hx_ext {H H' : Hp} (e : LamX.ExtN H H') : HX H H' := fun b o h s => e b o h fun ps z => by rw [z] at s; cases s
theorem srep_ext {G : GC} {H H' : Hp} {ρ : List Addr} {S : Store} (e : LamX.ExtN H H') (t : LamX.Tabs G.T H') (s : SRep G H ρ S) : SRep G H' ρ S :=
  ⟨s.len, s.nd, fun n l a e1 e2 => by
    obtain ⟨vs, h1, h2⟩ := s.cell n l a e1 e2
    exact ⟨vs, e a _ h1 (fun _ z => nomatch z), h2.mono (hx_ext e) (PX.refl ρ)⟩, t⟩
section
variable {Z : Se} {X : Cx} {κ : Kap} {c : Cs} {k : Nat} {es : List Expr} {fl : List D → Store → R (List D)} {p pos lpos : Pos} {y : String} {params : Arguments} {body : Expr} {scope : Scope} {j : Nat}
/-- the lambda that was just made is known -/
theorem clo_new {pins : List (Addr × Obj)} {vσ : L2.St} {H : Hp} {s : Shared} (I : Inv X pins vσ H s) {f c' : Addr} {pm ctv : Value} (hfn : ∀ x, X.fn x = true) (hex : X.ex = []) {qual : Str} (hl : Z.G.lamA j ⟨qual, params, body, scope, X.N⟩ = true)
    (hfree : ∀ y ∈ scope.names, y.2 = .free → X.env.scope.names.lookup y.1 = some .cell ∨ X.env.scope.names.lookup y.1 = some .free)
    (h1 : s.heap.get? f = some (PySem.W.kla_obj "<lambda>" qual params body scope (cloFrom X.env.cells scope.names []) pm c' ctv)) (h2 : H f = none) (h3 : f ∉ frs X.stack) (h4 : H c' = some (LamX.CodeO c' qual)) :
    CloH Z.G ⟨s.heap, H, frs X.stack, none⟩ H j f vσ := by
  have has : ∀ y ∈ scope.names, y.2 = .free → ∃ c, X.env.cells.lookup y.1 = some c := fun y hy e => by
    rcases hfree y hy e with z | z
    · exact I.ok.has _ (.inl z)
    · exact I.ok.has _ (.inr z)
  have cm : ∀ {y a}, (cloFrom X.env.cells scope.names []).lookup y = some a → X.env.cells.lookup y = some a := fun {y a} e => by
    rcases cloFrom_mem (PySem.mem_of_lookup e) with hm | ⟨h1, h2⟩
    · cases hm
    · obtain ⟨c1, hc⟩ := has _ h1 rfl
      have hc : X.env.cells.lookup y = some c1 := hc
      have e2 : a = c1 := by
        rw [h2, hc] <;> rfl
      rw [e2]
      exact hc
  have nofr : ∀ {y a}, X.env.cells.lookup y = some a → a ∉ frs X.stack := fun {y a} e hm => by
    rcases List.mem_cons.mp (I.stkSub _ hm) with z | z
    · exact I.cne _ _ e z
    · obtain ⟨_, o, ho, _⟩ := I.ok.funs.mem z
      exact absurd (Heap.lt_size ho) (Nat.not_lt.mpr (I.ok.cab _ _ (hfn _) e))
  refine ⟨⟨qual, params, body, scope, X.N⟩, cloFrom X.env.cells scope.names [], pm, c', ctv, ⟨hl, I.len⟩, h1, h2, h3, h4, fun x y a e1 e2 => I.ok.inj x y a (cm e1) (cm e2), fun x a e => ⟨I.freeC _ _ (cm e), nofr (cm e), I.cell _ _ (cm e)⟩, fun y hy e => ?_⟩
  have hy' : (y.1, NameKind.free) ∈ scope.names := by rw [← e]; exact hy
  obtain ⟨a, ea⟩ := mem_lookup (cloFrom_has (cells := X.env.cells) (acc := []) hy')
  refine ⟨a, ea, fun i v q1 q2 => ?_⟩
  obtain ⟨m, hn, hlo⟩ := I.loc
  have hv : Vis X.env.scope y.1 := (hfree y hy e).elim (fun z => .inr (.inl z)) (fun z => .inr (.inr z))
  obtain ⟨u, ru, q⟩ := hlo i y.1 v q1 q2 hv
  refine ⟨u, ru, ?_⟩
  rcases q with ⟨kd, _⟩ | ⟨_, a2, e2, ic⟩
  · have kd : X.env.scope.names.lookup y.1 = some .local := kd
    rcases hfree y hy e with z | z <;> rw [kd] at z <;> cases z
  · rw [cm ea] at e2
    cases e2
    exact ic
theorem p_calll (x : SX Z κ X c k) (hlam : c.lam = true) (hy : y ∈ c.fs) (hg : Gl X (Str.ofString y)) (hd : (Str.ofString y == ("__debug__" : Str)) = false) (hp : es.all plainE = true) (hl : PAL X es (tvL Z fl))
    (hj : Z.G.lamA j ⟨c.qual ++ "<lambda>", params, body, scope, c.N⟩ = true) (hdef : defaultsOf params X.env = ([], []))
    (hfree : ∀ y ∈ scope.names, y.2 = .free → X.env.scope.names.lookup y.1 = some .cell ∨ X.env.scope.names.lookup y.1 = some .free) :
    PE X (.Call (.Name (Str.ofString y) p) (es ++ [.Lambda params body scope lpos]) [] pos) (tv Z fun σ S => (fl σ S).bind fun l S => κ.call y (l ++ [.clo j σ]) [] S) := by
  obtain ⟨g, hm, hk⟩ := x.fs y hy
  have hkX : PySem.W.keepIn X.K (.ref g) = true := by rw [x.K]; exact hk
  obtain ⟨hh, hq, hblk, ⟨cc, hcc⟩, a, P, TB, hcode, hmT, hu⟩ := x.lam hlam
  have hex := (x.cc hh cc hcc).2
  have hfn : ∀ z, X.fn z = true := fun z => x.fn z (by unfold Cs.fn; rw [hblk])
  refine ⟨fun pins s vσ H Q I h => ?_⟩
  refine wpAny_Call_Name_kw (ld_glob I hg (by rw [x.mg]; exact hm) ?_ hd)
  obtain ⟨ρ, σ, S, r, sr, q⟩ := h
  have hpl : plainE (.Lambda params body scope lpos) = true := rfl
  have key : wpAny (model X.prog X.w) X.A (spliced (backTo pos (starEach (es ++ [.Lambda params body scope lpos]) X.env)))
      (fun us s1 => X.K.In s1.heap ∧ wpAny (model X.prog X.w) X.A (call (.ref g) ([] ++ us)) (EP X pins vσ Q) X.xe s1) X.xe s := by
    refine hl.run _ pos pins s vσ H _ _ hpl I ⟨ρ, σ, S, r, sr, PostG.bind (rel := relL Z) q⟩ fun us vs s1 H1 I1 rv q1 => ?_
    obtain ⟨ρ1, l, S1, e1, p1, sr1, rl, q1⟩ := q1
    refine LamX.lam_make2 I1 TB hcode (by rw [hq]; exact hmT) (by rw [hq]; exact hu) sr1.tabs hdef (fun y hy e => ?_) fun f c' pm ctv H2 s2 I2 eN T2 hf hfn2 hfr hco => ⟨I2.kIn, ?_⟩
    · rcases hfree y hy e with z | z
      · exact I.ok.has _ (.inl z)
      · exact I.ok.has _ (.inr z)
    · rw [hq] at hf hco
      have sr2 := srep_ext eN T2 sr1
      have hc := clo_new (Z := Z) (j := j) I2 hfn hex (by rw [x.N]; exact hj) hfree hf hfn2 hfr hco
      have rσ : Repo Z.G (some ⟨s2.heap, H2, frs X.stack, none⟩) H2 ρ1 σ vσ := x.repo hh I2 ((r.mono e1 p1).mono (hx_ext eN) (PX.refl _))
      have rl2 : Reps Z.G (some ⟨s2.heap, H2, frs X.stack, none⟩) H2 ρ1 l vs := x.reps hh I2 (Reps.mono (hx_ext eN) (PX.refl _) rl)
      have ra : Reps Z.G (some ⟨s2.heap, H2, frs X.stack, none⟩) H2 ρ1 (l ++ [.clo j σ]) (vs ++ [.ref f]) := rl2.append (.cons (.clo rfl rσ hc) .nil)
      have q2 : Pst Z vσ (relD Z) H2 ρ1 Q (κ.call y (l ++ [.clo j σ]) [] S1) := q1.mono (hx_ext eN) (PX.refl _)
      have rc := x.fns.run y g hm X.A X.stack s2 H2 (us ++ [.ref f]) [] (vs ++ [.ref f]) [] (l ++ [.clo j σ]) [] ρ1 S1 Q (WE Z.W vσ) (x.room hh) (x.env0 I2) (rv.append (.cons (show L2.RelV (.ref f) (.ref f) from rfl) .nil)) ra .nil .nil sr2 (post_call (fun _ _ _ h => h) q2)
      exact call_end (t := .call (.ref g) ⟨[], []⟩) x I2 rc
  cases es with
  | nil => exact PySem.W.callWith_K (h₀ := X.base) I.ok.mod.kin hkX key (starEach_plain hpl _ _) (by rfl)
  | cons e es =>
    have hp' : plainE e = true := by rw [List.all_cons, Bool.and_eq_true] at hp; exact hp.1
    have hpr : es.all plainE = true := by rw [List.all_cons, Bool.and_eq_true] at hp; exact hp.2
    exact PySem.W.callWith_K (h₀ := X.base) I.ok.mod.kin hkX key (starEach_plain hp' _ _) (noStar (by show (es ++ [Expr.Lambda params body scope lpos]).all plainE = true; rw [List.all_append, hpr]; rfl))
end
end Ev
set_option Elab.async false
set_option linter.all false
set_option maxRecDepth 100000
set_option maxHeartbeats 2000000
/-! Ev12: statements. -/
namespace Ev
open PySem PySem.Spec PyProof.Rows L2

def PostF (Z : Se) (D : Ends) (H : Hp) (ρ : List Addr) : Fl → Prop
  | .nx σ S => ∀ vσ H' ρ', HX H H' → PX ρ ρ' → SRep Z.G H' ρ' S → Repo Z.G Z.cc H' ρ' σ vσ → D.nx vσ H'
  | .bk σ S => ∀ vσ H' ρ', HX H H' → PX ρ ρ' → SRep Z.G H' ρ' S → Repo Z.G Z.cc H' ρ' σ vσ → D.bk vσ H'
  | .ct σ S => ∀ vσ H' ρ', HX H H' → PX ρ ρ' → SRep Z.G H' ρ' S → Repo Z.G Z.cc H' ρ' σ vσ → D.ct vσ H'
  | .rt d S => ∀ v H' ρ', HX H H' → PX ρ ρ' → SRep Z.G H' ρ' S → Rep Z.G Z.cc H' ρ' d v → D.rt v H'
  | .ex cn l σ S => ∀ C dx vσ H' ρ', HX H H' → PX ρ ρ' → SRep Z.G H' ρ' S → Repo Z.G Z.cc H' ρ' σ vσ → ExRep Z.G Z.fl H' ρ' cn l C dx → Z.W (.ref C) dx vσ H'
  | .bad => False
def tvS (Z : Se) (f : List D → Store → Fl) : TS := fun D vσ H => ∃ ρ σ S, Repo Z.G Z.cc H ρ σ vσ ∧ SRep Z.G H ρ S ∧ PostF Z D H ρ (f σ S)
section
variable {Z : Se} {X : Cx} {κ : Kap} {c : Cs} {k : Nat} {D D' : Ends} {H H1 : Hp} {ρ ρ1 : List Addr} {vσ : L2.St}
theorem PostF.mono {f : Fl} (e : HX H H1) (p : PX ρ ρ1) (h : PostF Z D H ρ f) : PostF Z D H1 ρ1 f := by
  cases f with
  | nx σ S => exact fun vσ H' ρ' e' p' => h vσ H' ρ' (e.trans e') (p.trans p')
  | bk σ S => exact fun vσ H' ρ' e' p' => h vσ H' ρ' (e.trans e') (p.trans p')
  | ct σ S => exact fun vσ H' ρ' e' p' => h vσ H' ρ' (e.trans e') (p.trans p')
  | rt d S => exact fun v H' ρ' e' p' => h v H' ρ' (e.trans e') (p.trans p')
  | ex cn l σ S => exact fun C dx vσ H' ρ' e' p' => h C dx vσ H' ρ' (e.trans e') (p.trans p')
  | bad => exact h
theorem PostF.nx {σ : List Ev.D} {S : Store} (h : PostF Z D H ρ (.nx σ S)) (s : SRep Z.G H ρ S) (r : Repo Z.G Z.cc H ρ σ vσ) : D.nx vσ H := h vσ H ρ (HX.refl H) (PX.refl ρ) s r
theorem fl_bind {α β : Type} {rel : Hp → List Addr → α → β → Prop} {σ : List Ev.D} {S : Store} {r : R α} {f : α → Store → Fl} (ro : Repo Z.G Z.cc H ρ σ vσ) (h : PostF Z D H ρ (r.fl σ f)) :
    Pst Z vσ rel H ρ (fun b H1 => ∃ ρ1 a S1, HX H H1 ∧ PX ρ ρ1 ∧ SRep Z.G H1 ρ1 S1 ∧ rel H1 ρ1 a b ∧ PostF Z D H1 ρ1 (f a S1)) r := by
  cases r with
  | ok a S => exact fun b H' ρ' e p s q => ⟨ρ', a, S, e, p, s, q, PostF.mono e p h⟩
  | ex c l S => exact fun C dx H' ρ' e p s x => h C dx vσ H' ρ' e p s (ro.mono e p) x
  | bad => exact h
theorem imp_PS {st : Stmt} {t t' : TS} (h : PS X st t) (k : ∀ D σ H, t' D σ H → t D σ H) : PS X st t' := ⟨fun pins s σ H D I q => h.run pins s σ H D I (k _ _ _ q)⟩
theorem imp_PSs {st : List Stmt} {t t' : TS} (h : PSs X st t) (k : ∀ D σ H, t' D σ H → t D σ H) : PSs X st t' := ⟨fun pins s σ H D I q => h.run pins s σ H D I (k _ _ _ q)⟩
variable {st : Stmt} {rest a b : List Stmt} {e : Expr} {pos : Pos} {fs : List Ev.D → Store → Fl} {fr fa fb : List Ev.D → Store → Fl} {fe : List Ev.D → Store → R Ev.D} {ft : List Ev.D → Store → R Bool}
theorem s_bad : PS X st (tvS Z fun _ _ => .bad) := imp_PS ps_never fun D σ H q => by
  obtain ⟨ρ, σ, S, _, _, q⟩ := q
  exact q
theorem ss_nil : PSs X [] (tvS Z fun σ S => .nx σ S) := imp_PSs pss_nil fun D vσ H q => by
  obtain ⟨ρ, σ, S, r, s, q⟩ := q
  exact q.nx s r
theorem ss_cons (h1 : PS X st (tvS Z fs)) (h2 : PSs X rest (tvS Z fr)) : PSs X (st :: rest) (tvS Z fun σ S => match fs σ S with | .nx σ S => fr σ S | f => f) := imp_PSs (pss_cons h1 h2) fun D vσ H q => by
  obtain ⟨ρ, σ, S, r, s, q⟩ := q
  refine ⟨ρ, σ, S, r, s, ?_⟩
  dsimp only at q
  cases e : fs σ S with
  | nx σ1 S1 =>
    rw [e] at q
    exact fun vσ H' ρ' e p s r => ⟨ρ', σ1, S1, r, s, PostF.mono e p q⟩
  | bk σ S => rw [e] at q; exact q
  | ct σ S => rw [e] at q; exact q
  | rt d S => rw [e] at q; exact q
  | ex cn l σ S => rw [e] at q; exact q
  | bad => rw [e] at q; exact q
theorem s_pass : PS X (.Pass pos) (tvS Z fun σ S => .nx σ S) := imp_PS ps_pass fun D vσ H q => by
  obtain ⟨ρ, σ, S, r, s, q⟩ := q
  exact q.nx s r
theorem s_brk : PS X (.Break pos) (tvS Z fun σ S => .bk σ S) := imp_PS ps_break fun D vσ H q => by
  obtain ⟨ρ, σ, S, r, s, q⟩ := q
  exact q vσ H ρ (HX.refl H) (PX.refl ρ) s r
theorem s_cnt : PS X (.Continue pos) (tvS Z fun σ S => .ct σ S) := imp_PS ps_continue fun D vσ H q => by
  obtain ⟨ρ, σ, S, r, s, q⟩ := q
  exact q vσ H ρ (HX.refl H) (PX.refl ρ) s r
theorem s_retn : PS X (.Return none pos) (tvS Z fun σ S => .rt .non S) := imp_PS ps_retN fun D vσ H q => by
  obtain ⟨ρ, σ, S, r, s, q⟩ := q
  exact q .non H ρ (HX.refl H) (PX.refl ρ) s .non
theorem s_ret (he : PE X e (tv Z fe)) : PS X (.Return (some e) pos) (tvS Z fun σ S => (fe σ S).fl σ fun d S => .rt d S) := imp_PS (ps_ret he) fun D vσ H q => by
  obtain ⟨ρ, σ, S, r, s, q⟩ := q
  refine ⟨ρ, σ, S, r, s, (fl_bind (S := S) (rel := relD Z) r q).imp ?_⟩
  rintro v H1 ⟨ρ1, d, S1, e1, p1, s1, r1, q1⟩
  exact q1 v H1 ρ1 (HX.refl _) (PX.refl _) s1 r1
theorem s_if {cc : Expr} (hc : PT X cc (tvB Z ft)) (ha : PSs X a (tvS Z fa)) (hb : PSs X b (tvS Z fb)) : PS X (.If cc a b pos) (tvS Z fun σ S => (ft σ S).fl σ fun t S => match t with | true => fa σ S | false => fb σ S) := imp_PS (ps_if hc ha hb) fun D vσ H q => by
  obtain ⟨ρ, σ, S, r, s, q⟩ := q
  refine ⟨ρ, σ, S, r, s, (fl_bind (S := S) (rel := relE) r q).imp ?_⟩
  rintro t H1 ⟨ρ1, t', S1, e1, p1, s1, r1, q1⟩
  have r1 : t = t' := r1
  subst r1
  cases t with
  | true => exact ⟨ρ1, σ, S1, r.mono e1 p1, s1, q1⟩
  | false => exact ⟨ρ1, σ, S1, r.mono e1 p1, s1, q1⟩
/-- an expression that is no comprehension -/
def noComp : Expr → Bool
  | .ListComp _ _ _ _ => false
  | .SetComp _ _ _ _ => false
  | .DictComp _ _ _ _ _ => false
  | _ => true
theorem swaps_no {e : Expr} (h : noComp e = true) (t : Option Expr) (l : Nat) (env : Env) : swapsWith e t l env = pure false := by
  cases e <;> first | rfl | (simp [noComp] at h)
theorem s_expr (hn : noComp e = true) (he : PE X e (tv Z fe)) : PS X (.Expr e pos) (tvS Z fun σ S => (fe σ S).fl σ fun _ S => .nx σ S) := imp_PS (ps_expr he (swaps_no hn _ _ _)) fun D vσ H q => by
  obtain ⟨ρ, σ, S, r, s, q⟩ := q
  refine ⟨ρ, σ, S, r, s, (fl_bind (S := S) (rel := relD Z) r q).imp ?_⟩
  rintro v H1 ⟨ρ1, d, S1, e1, p1, s1, r1, q1⟩
  exact q1.nx s1 (r.mono e1 p1)
/-! ### targets -/
def tvT (Z : Se) (f : Ev.D → List Ev.D → Store → Fl) : TG := fun v vσ H Q => ∃ ρ d σ S D, SRep Z.G H ρ S ∧ Rep Z.G Z.cc H ρ d v ∧ Repo Z.G Z.cc H ρ σ vσ ∧ D.nx = Q ∧ PostF Z D H ρ (f d σ S)
def tvTs (Z : Se) (f : List Ev.D → List Ev.D → Store → Fl) : TGs := fun v vσ H Q => ∃ ρ d σ S D, SRep Z.G H ρ S ∧ Reps Z.G Z.cc H ρ d v ∧ Repo Z.G Z.cc H ρ σ vσ ∧ D.nx = Q ∧ PostF Z D H ρ (f d σ S)
theorem t_name {i : Nat} {x : Str} (hN : X.N.Nodup) (hi : X.N[i]? = some x) (hx : Loc X.env.scope x) (hf : X.fn x = true ∨ X.env.scope.names.lookup x = some .local) : PG X (.Name x pos) (tvT Z fun d σ S => .nx (σ.set i d) S) :=
  imp_PG (pg_name hN hi hx hf) fun v vσ H Q q => by
    obtain ⟨ρ, d, σ, S, D, s, r, ro, e, k⟩ := q
    subst e
    exact k _ _ _ (HX.refl H) (PX.refl ρ) s (ro.set r i)
theorem t_nil : PGs X [] (tvTs Z fun d σ S => match d with | [] => .nx σ S | _ => .bad) := imp_PGs pgs_nil fun v vσ H Q q => by
  obtain ⟨ρ, d, σ, S, D, s, r, ro, e, k⟩ := q
  subst e
  cases r with
  | nil => exact ⟨rfl, k.nx s ro⟩
  | cons _ _ => exact k.elim
theorem t_cons {e : Expr} {es : List Expr} {f : Ev.D → List Ev.D → Store → Fl} {g : List Ev.D → List Ev.D → Store → Fl} (h1 : PG X e (tvT Z f)) (h2 : PGs X es (tvTs Z g))
    (hs : (assignEach (e :: es) X.env).map (·.2) = assign e X.env :: (assignEach es X.env).map (·.2)) : PGs X (e :: es) (tvTs Z fun ds σ S => match ds with
      | d :: ds => (match f d σ S with | .nx σ S => g ds σ S | r => r)
      | [] => .bad) := imp_PGs (pgs_cons h1 h2 hs) fun v vσ H Q q => by
  obtain ⟨ρ, d, σ, S, D, s, r, ro, e, k⟩ := q
  subst e
  cases r with
  | nil => exact k.elim
  | @cons d v ds vs r1 r2 =>
    refine ⟨v, vs, rfl, ρ, d, σ, S, { D with nx := fun σ' H' => tvTs Z g vs σ' H' D.nx }, s, r1, ro, rfl, ?_⟩
    dsimp only at k
    cases e : f d σ S with
    | nx σ1 S1 =>
      rw [e] at k
      exact fun vσ' H' ρ' e p s' r' => ⟨ρ', ds, σ1, S1, D, s', Reps.mono e p r2, r', rfl, PostF.mono e p k⟩
    | bk σ S => rw [e] at k; exact k
    | ct σ S => rw [e] at k; exact k
    | rt d S => rw [e] at k; exact k
    | ex cn l σ S => rw [e] at k; exact k
    | bad => rw [e] at k; exact k
theorem t_tp {es : List Expr} {k : Nat} {g : List Ev.D → List Ev.D → Store → Fl} {n : Nat} (hK : X.K = Z.G.K) (hc : X.calm = true) (h : PGs X es (tvTs Z g)) (hg : ∀ l σ S, g l σ S = .bad ∨ l.length = n)
    (hn : (assignEach es X.env).length = n) (hst : (assignEach es X.env).findIdx? (·.1) = none) :
    PG X (.Tuple es k pos) (tvT Z fun d σ S => match d with | .tup l => g l σ S | _ => .bad) := imp_PG (pg_tup hc h hn hst) fun v vσ H Q q => by
  obtain ⟨ρ, d, σ, S, D, s, r, ro, e, k⟩ := q
  subst e
  cases r with
  | @tup a vs l t r =>
    have k : PostF Z D H ρ (g l σ S) := k
    rcases hg l σ S with z | z
    · rw [z] at k; exact k.elim
    · exact ⟨a, vs, rfl, by rw [hK]; exact t.t, by rw [← r.length]; exact z, ρ, l, σ, S, D, s, r, ro, rfl, k⟩
  | _ => exact k.elim
theorem ixD_ixN (n : Nat) (i : Int) (j : Nat) (h : ixD n i = some j) : ixN n i = some j := by
  unfold ixD at h
  unfold ixN
  split at h
  · split at h
    · simp_all
    · cases h
  · split at h
    · simp_all
      intro h0
      omega
    · cases h
theorem t_ix {o i : Expr} {fo fi : List Ev.D → Store → R Ev.D} (ho : PE X o (tv Z fo)) (hi : PE X i (tv Z fi))
    (ha : ∀ v, assign (.Subscript o i pos) X.env v = (do
      let ov ← holding [v] (eval o X.env)
      let iv ← holding [v, ov] (eval i X.env)
      standAt pos
      holding [v, ov, iv] (setItem ov iv v)
      release [v, ov, iv] [])) :
    PG X (.Subscript o i pos) (tvT Z fun d σ S => (fo σ S).fl σ fun x S => (fi σ S).fl σ fun y S => match x, y with
    | .ref n, .int k => match lstOf S n with
      | some l => match ixD l.length k with
        | some j => if Ev.D.flat d then .nx σ (S.set n (.lst (l.set j d))) else .bad
        | none => .bad
      | none => .bad
    | _, _ => .bad) := imp_PG (pg_sub ho hi set_list ha) fun v vσ H Q q => by
  obtain ⟨ρ, d, σ, S, D, s, r, ro, e, k⟩ := q
  subst e
  refine ⟨ρ, σ, S, ro, s, (fl_bind (S := S) (rel := relD Z) ro k).imp ?_⟩
  rintro x H1 ⟨ρ1, dx, S1, e1, p1, s1, r1, k1⟩
  have ro1 := ro.mono e1 p1
  refine ⟨ρ1, σ, S1, ro1, s1, (fl_bind (S := S1) (rel := relD Z) ro1 k1).imp ?_⟩
  rintro y H2 ⟨ρ2, dy, S2, e2, p2, s2, r2, k2⟩
  have r1' := Rep.mono e2 p2 r1
  cases r1' with
  | @ref n a q1 =>
    cases r2 with
    | int j =>
      dsimp only at k2
      cases h1 : lstOf S2 n with
      | none => rw [h1] at k2; exact k2.elim
      | some l =>
        rw [h1] at k2
        dsimp only at k2
        cases h2 : ixD l.length j with
        | none => rw [h2] at k2; exact k2.elim
        | some m =>
          rw [h2] at k2
          dsimp only at k2
          split at k2
          · rename_i hfl
            obtain ⟨vs, a1, a2⟩ := lst_at s2 q1 h1
            have rd : Rep Z.G none H2 ρ2 d v := (Rep.mono (e1.trans e2) (p1.trans p2) r).flat hfl
            refine ⟨a, vs, j, m, rfl, rfl, a1, by rw [← a2.length]; exact ixD_ixN _ _ _ h2, ?_⟩
            exact k2 vσ _ ρ2 (HX.put a1 rfl) (PX.refl _) (s2.put q1 a1 (a2.set rd m)) ((ro1.mono e2 p2).mono (HX.put a1 rfl) (PX.refl _))
          · exact k2.elim
    | _ => exact k2.elim
  | _ => exact k2.elim
theorem s_asg {tg : Expr} {ft : Ev.D → List Ev.D → Store → Fl} (he : PE X e (tv Z fe)) (hg : PG X tg (tvT Z ft)) (hs : swapsWithSole [tg] e pos.line X.env = pure false) (hw : swappedStores [tg] e X.env = pure none) (h1 : (assignEach [tg] X.env).map (·.2) = [assign tg X.env]) :
    PS X (.Assign [tg] e pos) (tvS Z fun σ S => (fe σ S).fl σ fun d S => ft d σ S) := imp_PS (ps_asg he hg hs hw h1) fun D vσ H q => by
  obtain ⟨ρ, σ, S, r, s, q⟩ := q
  refine ⟨ρ, σ, S, r, s, (fl_bind (S := S) (rel := relD Z) r q).imp ?_⟩
  rintro v H1 ⟨ρ1, d, S1, e1, p1, s1, r1, q1⟩
  exact ⟨ρ1, d, σ, S1, D, s1, r1, r.mono e1 p1, rfl, q1⟩
end
end Ev
set_option Elab.async false
set_option linter.all false
set_option maxRecDepth 100000
set_option maxHeartbeats 2000000
/-! Ev13: pairs of names, comprehensions stored, loops. -/
namespace Ev
open PySem PySem.Spec PyProof.Rows L2

section
variable {Z : Se} {X : Cx} {κ : Kap} {c : Cs} {k : Nat} {pos : Pos} {fl : List D → Store → R (List D)} {fe : List D → Store → R D}
theorem reps3 {H : Hp} {ρ : List Addr} {c : Option CC} {d e f : D} {vs : List V} (r : Reps Z.G c H ρ [d, e, f] vs) : ∃ u v w, vs = [u, v, w] ∧ Rep Z.G c H ρ d u ∧ Rep Z.G c H ρ e v ∧ Rep Z.G c H ρ f w := by
  cases r with
  | cons r1 r => cases r with
    | cons r2 r => cases r with
      | cons r3 r => cases r; exact ⟨_, _, _, rfl, r1, r2, r3⟩
def isStar : Expr → Bool
  | .Starred .. => true
  | _ => false
theorem starred_no {e : Expr} (h : plainE e = true) : isStar e = false := by
  cases e <;> first | rfl | (exact absurd h (by simp [plainE]))
theorem starred_match {P : Prop} {e : Expr} (q : (match e with | .Starred .. => true | _ => false) = true) (h : plainE e = true) : P := by
  have z : isStar e = true := by
    cases e <;> first | exact q | rfl
  rw [starred_no h] at z
  cases z
/-- a pair of names, both local: what is stored -/
theorem sw_par {x y : Str} {px py pt pt2 : Pos} {kt k2 : Nat} {a b : Expr} {env : Env} (hk : env.blockKind = .function) (ha : plainE a = true) (hb : plainE b = true) (hx : env.kindOf x = some .local) (hy : env.kindOf y = some .local) (hxy : x ≠ y) (hl : px.line = py.line)
    (hf : [a, b].all (foldedForSure 8) = false) (hc : [a, b].all (constantsAlone 8) = false) :
    swappedStores [.Tuple [.Name x px, .Name y py] kt pt] (.Tuple [a, b] k2 pt2) env = pure (some [x, y]) := by
  have hst : [a, b].any isStar = false := by
    simp only [List.any_cons, List.any_nil, starred_no ha, starred_no hb, Bool.or_false]
  have hd : ([x, y] : List Str).eraseDups.length = 2 := by
    have hyx : (y == x) = false := beq_eq_false_iff_ne.mpr (Ne.symm hxy)
    simp [List.eraseDups_cons, List.filter, hyx]
  unfold swappedStores
  simp only [List.length_cons, List.length_nil, hk, hst, hf, hc, hd, List.filterMap_cons, List.filterMap_nil, hx, hy, List.head?_cons, Option.map_some, Option.getD_some, hl, Expr.pos]
  simp [hl, hd]
  intro h
  rcases h with h | h
  · exact starred_match h ha
  · exact starred_match h hb
theorem s_par {i j : Nat} {x y : Str} {a b : Expr} {px py pt pt2 : Pos} {kt k2 : Nat} (hc : X.calm = true) (hN : X.N.Nodup) (hi : X.N[i]? = some x) (hj : X.N[j]? = some y) (hij : i ≠ j) (hxy : x ≠ y)
    (hx : X.env.scope.names.lookup x = some .local) (hy : X.env.scope.names.lookup y = some .local) (ha : PA X [a, b] (tvL Z fl)) (hk : X.env.blockKind = .function) (pa : plainE a = true) (pb : plainE b = true) (hl : px.line = py.line)
    (hf : [a, b].all (foldedForSure 8) = false) (hcs : [a, b].all (constantsAlone 8) = false) :
    PS X (.Assign [.Tuple [.Name x px, .Name y py] kt pt] (.Tuple [a, b] k2 pt2) pos) (tvS Z fun σ S => (fl σ S).fl σ fun l S => match l with | [d, e] => .nx ((σ.set i d).set j e) S | _ => .bad) :=
  imp_PS (ps_par hc hN hi hj hij hx hy ha (sw_par hk pa pb hx hy hxy hl hf hcs) (by rfl)) fun D vσ H q => by
    obtain ⟨ρ, σ, S, r, s, q⟩ := q
    refine ⟨ρ, σ, S, r, s, (fl_bind (S := S) (rel := relL Z) r q).imp ?_⟩
    rintro vs H1 ⟨ρ1, l, S1, e1, p1, s1, r1, q1⟩
    cases l with
    | nil => exact q1.elim
    | cons d l => cases l with
      | nil => exact q1.elim
      | cons e l => cases l with
        | cons _ _ => exact q1.elim
        | nil =>
          obtain ⟨v, w, rfl, rv, rw2⟩ := reps2 r1
          exact ⟨v, w, rfl, q1.nx s1 (((r.mono e1 p1).set rv i).set rw2 j)⟩
theorem sw_par3 {x y z : Str} {px py pz pt pt2 : Pos} {kt k2 : Nat} {a b c : Expr} {env : Env} (hk : env.blockKind = .function) (ha : plainE a = true) (hb : plainE b = true) (hcp : plainE c = true) (hx : env.kindOf x = some .local) (hy : env.kindOf y = some .local) (hz : env.kindOf z = some .local) (hxy : x ≠ y) (hxz : x ≠ z) (hyz : y ≠ z) (hl : px.line = py.line) (hl2 : px.line = pz.line)
    (hf : [a, b, c].all (foldedForSure 8) = false) (hc : [a, b, c].all (constantsAlone 8) = false) :
    swappedStores [.Tuple [.Name x px, .Name y py, .Name z pz] kt pt] (.Tuple [a, b, c] k2 pt2) env = pure (some [x, y, z]) := by
  have hst : [a, b, c].any isStar = false := by
    simp only [List.any_cons, List.any_nil, starred_no ha, starred_no hb, starred_no hcp, Bool.or_false]
  have hd : ([x, y, z] : List Str).eraseDups.length = 3 := by
    have h1 : (y == x) = false := beq_eq_false_iff_ne.mpr (Ne.symm hxy)
    have h2 : (z == x) = false := beq_eq_false_iff_ne.mpr (Ne.symm hxz)
    have h3 : (z == y) = false := beq_eq_false_iff_ne.mpr (Ne.symm hyz)
    simp [List.eraseDups_cons, List.filter, h1, h2, h3]
  unfold swappedStores
  simp only [List.length_cons, List.length_nil, hk, hst, hf, hc, hd, List.filterMap_cons, List.filterMap_nil, hx, hy, hz, List.head?_cons, Option.map_some, Option.getD_some, hl, Expr.pos]
  simp [← hl, ← hl2, hd]
  intro h
  rcases h with h | h | h
  · exact starred_match h ha
  · exact starred_match h hb
  · exact starred_match h hcp
theorem s_par3 {i j m : Nat} {x y z : Str} {a b c : Expr} {px py pz pt pt2 : Pos} {kt k2 : Nat} (hc : X.calm = true) (hN : X.N.Nodup) (hi : X.N[i]? = some x) (hj : X.N[j]? = some y) (hm : X.N[m]? = some z) (hij : i ≠ j) (him : i ≠ m) (hjm : j ≠ m) (hxy : x ≠ y) (hxz : x ≠ z) (hyz : y ≠ z)
    (hx : X.env.scope.names.lookup x = some .local) (hy : X.env.scope.names.lookup y = some .local) (hz : X.env.scope.names.lookup z = some .local) (ha : PA X [a, b, c] (tvL Z fl)) (hk : X.env.blockKind = .function) (pa : plainE a = true) (pb : plainE b = true) (pc : plainE c = true) (hl : px.line = py.line) (hl2 : px.line = pz.line)
    (hf : [a, b, c].all (foldedForSure 8) = false) (hcs : [a, b, c].all (constantsAlone 8) = false) :
    PS X (.Assign [.Tuple [.Name x px, .Name y py, .Name z pz] kt pt] (.Tuple [a, b, c] k2 pt2) pos) (tvS Z fun σ S => (fl σ S).fl σ fun l S => match l with | [d, e, f] => .nx (((σ.set i d).set j e).set m f) S | _ => .bad) :=
  imp_PS (ps_par3 hc hN hi hj hm hij him hjm hx hy hz ha (sw_par3 hk pa pb pc hx hy hz hxy hxz hyz hl hl2 hf hcs) (by rfl)) fun D vσ H q => by
    obtain ⟨ρ, σ, S, r, s, q⟩ := q
    refine ⟨ρ, σ, S, r, s, (fl_bind (S := S) (rel := relL Z) r q).imp ?_⟩
    rintro vs H1 ⟨ρ1, l, S1, e1, p1, s1, r1, q1⟩
    cases l with
    | nil => exact q1.elim
    | cons d l => cases l with
      | nil => exact q1.elim
      | cons e l => cases l with
        | nil => exact q1.elim
        | cons f l => cases l with
          | cons _ _ => exact q1.elim
          | nil =>
            obtain ⟨u, v, w, rfl, ru, rv, rw2⟩ := reps3 r1
            exact ⟨u, v, w, rfl, q1.nx s1 ((((r.mono e1 p1).set ru i).set rv j).set rw2 m)⟩
/-- name = [..] -/
theorem s_setLc {i : Nat} {y : Str} {py pos' : Pos} {elt tg iter : Expr} {ifs : List Expr} {scope : Scope} {own : List (Str × Nat)} {p : Pt} {fi : List D → Store → R Src} {fc : List D → Store → R Bool} (hc : X.calm = true) (hN : X.N.Nodup) (hy : X.N[i]? = some y) (hyl : X.env.scope.names.lookup y = some .local)
    (hsw : swapsWith (.ListComp elt [⟨tg, iter, ifs, 0⟩] scope pos') (some (.Name y py)) pos.line X.env = pure true)
    (hi : PI X tg iter (tvI Z fi)) (ok : BlkOk X.N X.env.scope scope own)
    (hg : ∀ (s : Shared) (H : Hp) (C : Addr) (cl : List (Str × Addr)) (fp : List Addr), PG (X.blk s H scope (compEnvC scope cl C X.env) fp) tg (tvPw Z.blk p.bind (own.map (·.2))))
    (ht : ∀ (s : Shared) (H : Hp) (C : Addr) (cl : List (Str × Addr)) (fp : List Addr), PTs (X.blk s H scope (compEnvC scope cl C X.env) fp) ifs (tvB Z.blk fc))
    (he : ∀ (s : Shared) (H : Hp) (C : Addr) (cl : List (Str × Addr)) (fp : List Addr), PE (X.blk s H scope (compEnvC scope cl C X.env) fp) elt (tv Z.blk fe))
    (hs : ∀ x, foldedSetIterable iter X.env x = pure x) :
    PS X (.Assign [.Name y py] (.ListComp elt [⟨tg, iter, ifs, 0⟩] scope pos') pos) (tvS Z fun σ S => ((fi σ S).bind fun src S =>
      (lcF p (wipeD (noClo σ) (own.map (·.2))) src fc fe src.l S.length (S ++ [.lst []])).bind fun _ S' => .ok (.ref S.length) S').fl σ fun d S => .nx (σ.set i d) S) :=
  imp_PS (ps_setLc hc hN hy hyl hsw hi ok hg ht he hs) fun D vσ H q => by
    obtain ⟨ρ, σ, S, r, s, q⟩ := q
    refine lc_read ⟨ρ, σ, S, r, s, (fl_bind (S := S) (rel := relD Z) r q).imp ?_⟩
    rintro v H1 ⟨ρ1, d, S1, e1, p1, s1, r1, q1⟩
    exact q1.nx s1 ((r.mono e1 p1).set r1 i)
/-! ### loops -/
def notSet : Expr → Bool
  | .Set _ _ _ => false
  | _ => true
theorem fsi_no {e : Expr} (h : notSet e = true) (env : Env) (x : Value) : foldedSetIterable e env x = pure x := by
  cases e <;> first | rfl | (simp [notSet] at h)
theorem s_while {cc : Expr} {body : List Stmt} {f : List D → Store → Fl} {ft : List D → Store → R D} {n : Nat} (hp : PassesOwn (model X.prog X.w) X.A X.env X.xe) (hc : PT X cc (tvB Z fun σ S => toB (ft σ S))) (hb : PSs X body (tvS Z f)) :
    PS X (.While cc body [] pos) (tvS Z fun σ S => whF ft f n σ S) := imp_PS (ps_while hp hc hb) fun D vσ H q => by
  obtain ⟨ρ, σ, S, r, s, q⟩ := q
  refine ⟨fun m vσ H => ∃ ρ σ S, Repo Z.G Z.cc H ρ σ vσ ∧ SRep Z.G H ρ S ∧ PostF Z D H ρ (whF ft f m σ S), ⟨n, ρ, σ, S, r, s, q⟩, ?_⟩
  rintro m vσ H ⟨ρ, σ, S, r, s, q⟩
  cases m with
  | zero => exact q.elim
  | succ m =>
    refine ⟨ρ, σ, S, r, s, (fl_bind (S := S) (rel := relE) r q).imp ?_⟩
    rintro t H1 ⟨ρ1, t', S1, e1, p1, s1, r1, q1⟩
    have r1 : t = t' := r1
    subst r1
    cases t with
    | false =>
      simp only [Bool.false_eq_true, if_false]
      exact q1.nx s1 (r.mono e1 p1)
    | true =>
      simp only [if_true]
      refine ⟨fun vσ H => ∃ m', m' < m + 1 ∧ ∃ ρ σ S, Repo Z.G Z.cc H ρ σ vσ ∧ SRep Z.G H ρ S ∧ PostF Z D H ρ (whF ft f m' σ S), fun _ _ h => h, ρ1, σ, S1, r.mono e1 p1, s1, ?_⟩
      dsimp only at q1
      cases e : f σ S1 with
      | nx σ2 S2 =>
        rw [e] at q1
        exact fun vσ' H' ρ' e' p' s' r' => ⟨m, Nat.lt_succ_self m, ρ', σ2, S2, r', s', PostF.mono e' p' q1⟩
      | ct σ2 S2 =>
        rw [e] at q1
        exact fun vσ' H' ρ' e' p' s' r' => ⟨m, Nat.lt_succ_self m, ρ', σ2, S2, r', s', PostF.mono e' p' q1⟩
      | bk σ2 S2 => rw [e] at q1; exact q1
      | rt d S2 => rw [e] at q1; exact q1
      | ex cn l σ2 S2 => rw [e] at q1; exact q1
      | bad => rw [e] at q1; exact q1.elim
theorem s_for {tg iter : Expr} {body : List Stmt} {p : Pt} {fi : List D → Store → R Src} {f : List D → Store → Fl} (hp : PassesOwn (model X.prog X.w) X.A X.env X.xe) (hc : X.calm = true) (hi : PI X tg iter (tvI Z fi)) (hg : PG X tg (tvP Z p.bind)) (hb : PSs X body (tvS Z f))
    (hs : ∀ x, foldedSetIterable iter X.env x = pure x) :
    PS X (.For tg iter body [] pos) (tvS Z fun σ S => (fi σ S).fl σ fun src S => forF p src f src.l σ S) := imp_PS (ps_for hp hc hi hg hb hs) fun D vσ H q => by
  obtain ⟨ρ, σ, S, r, s, q⟩ := q
  refine ⟨ρ, σ, S, r, s, (fl_bind (S := S) (rel := relI Z) r q).imp ?_⟩
  rintro J H1 ⟨ρ1, src, S1, e1, p1, s1, sv, q1⟩
  let W : Nat → Nat → L2.St → Hp → Prop := fun i m vσ H => m = src.l.length - i ∧ i ≤ src.l.length ∧ ∃ ρ σ S, HX H1 H ∧ PX ρ1 ρ ∧ Repo Z.G Z.cc H ρ σ vσ ∧ SRep Z.G H ρ S ∧ PostF Z D H ρ (forF p src f (src.l.drop i) σ S)
  refine ⟨W, ⟨src.l.length, by simp, Nat.zero_le _, ρ1, σ, S1, HX.refl _, PX.refl _, r.mono e1 p1, s1, by simpa using q1⟩, ?_⟩
  rintro i m vσ2 H2 ⟨hm, hi2, ρ2, σ2, S2, e2, p2, r2, s2, q2⟩
  by_cases hlt : i < src.l.length
  · have hd : src.l.drop i = src.l[i] :: src.l.drop (i + 1) := List.drop_eq_getElem_cons hlt
    rw [hd] at q2
    unfold forF at q2
    split at q2
    · rename_i okS
      obtain ⟨go, item⟩ := (sv i H2 ρ2 S2 e2 p2 s2 okS).2 src.l[i] (List.getElem?_eq_getElem hlt)
      cases hpb : Pt.bind p src.l[i] σ2 with
      | none => rw [hpb] at q2; exact q2.elim
      | some σ3 =>
        rw [hpb] at q2
        dsimp only at q2
        refine .inr ⟨go, fun vσ' H' => ∃ m', m' < m ∧ W (i + 1) m' vσ' H', fun _ _ h => h, fun x H3 hy => ?_⟩
        obtain ⟨e3, s3, r3⟩ := item x H3 hy
        refine ⟨ρ2, src.l[i], σ2, S2, σ3, s3, r3, r2.mono e3 (PX.refl _), hpb, fun vσ4 ro4 hl4 => ⟨ρ2, σ3, S2, ro4, s3, ?_⟩⟩
        have next : ∀ {vσ5 : L2.St} {H5 : Hp} {ρ5 : List Addr} {σ5 : List Ev.D} {S5 : Store}, HX H3 H5 → PX ρ2 ρ5 → SRep Z.G H5 ρ5 S5 → Repo Z.G Z.cc H5 ρ5 σ5 vσ5 →
            PostF Z D H2 ρ2 (forF p src f (src.l.drop (i + 1)) σ5 S5) → ∃ m', m' < m ∧ W (i + 1) m' vσ5 H5 := fun {vσ5 H5 ρ5 σ5 S5} e5 p5 s5 r5 q5 =>
          ⟨src.l.length - (i + 1), by omega, rfl, hlt, ρ5, σ5, S5, (e2.trans e3).trans e5, p2.trans p5, r5, s5, PostF.mono (e3.trans e5) p5 q5⟩
        cases e : f σ3 S2 with
        | nx σ5 S5 =>
          rw [e] at q2
          exact fun vσ' H' ρ' e' p' s' r' => next e' p' s' r' q2
        | ct σ5 S5 =>
          rw [e] at q2
          exact fun vσ' H' ρ' e' p' s' r' => next e' p' s' r' q2
        | bk σ5 S5 => rw [e] at q2; exact PostF.mono (D := D) (f := .nx σ5 S5) e3 (PX.refl _) q2
        | rt d S5 => rw [e] at q2; exact PostF.mono (D := D) (f := .rt d S5) e3 (PX.refl _) q2
        | ex cn l σ5 S5 => rw [e] at q2; exact PostF.mono (D := D) (f := .ex cn l σ5 S5) e3 (PX.refl _) q2
        | bad => rw [e] at q2; exact q2.elim
    · exact q2.elim
  · have hd : src.l.drop i = [] := List.drop_eq_nil_of_le (by omega)
    rw [hd] at q2
    unfold forF at q2
    split at q2
    · rename_i okS
      exact .inl ⟨(sv i H2 ρ2 S2 e2 p2 s2 okS).1 (by omega), q2.nx s2 r2⟩
    · exact q2.elim
end
end Ev
set_option Elab.async false
set_option linter.all false
set_option maxRecDepth 100000
set_option maxHeartbeats 2000000
/-! Ev13b: errors: raise, try. -/
namespace Ev
open PySem PySem.Spec PyProof.Rows L2

mutual
theorem Rep.flat_of {G : GC} {H : Hp} {ρ : List Addr} : ∀ {d : D} {v : V}, Rep G none H ρ d v → D.flat d = true
  | _, _, .non => rfl
  | _, _, .bl _ => rfl
  | _, _, .int _ => rfl
  | _, _, .str _ => rfl
  | _, _, .tup _ r => by simpa [D.flat] using Reps.flat_of r
  | _, _, .rl _ r => by simpa [D.flat] using Reps.flat_of r
  | _, _, .ref _ => rfl
  | _, _, .fn _ _ => rfl
theorem Reps.flat_of {G : GC} {H : Hp} {ρ : List Addr} : ∀ {l : List D} {vs : List V}, Reps G none H ρ l vs → D.flats l = true
  | _, _, .nil => rfl
  | _, _, .cons h r => by simp [D.flats, Rep.flat_of h, Reps.flat_of r]
end
def Se.suite (Z : Se) (X : Cx) (j : ExI) : Se := { Z with cc := some ⟨X.s_0.heap, X.H_0, X.fs, some j⟩, W := fun _ _ _ _ => False }
def Cs.suite (c : Cs) : Cs := { c with hot := true, lam := false }
section
variable {Z : Se} {X : Cx} {κ : Kap} {c : Cs} {k : Nat} {cn : String} {C : Addr} {ns : List String} {p pos pos' : Pos}
theorem raises_cls (hK : X.K = Z.G.K) (T : ClsE X.prog Z.G.K Z.G.mg C ns) : Raises X (.ref C) := raises_own (by rw [hK]; exact T.exC) (by rw [hK]; exact T.tyC)
theorem s_raise0 (x : SX Z κ X c k) (hh : c.hot = false) (hm : Z.G.mg (Str.ofString cn) = some (.ref C)) (T : ClsE X.prog Z.G.K Z.G.mg C []) (hf : Z.fl cn = some []) (hg : Gl X (Str.ofString cn)) (hdb : (Str.ofString cn == ("__debug__" : Str)) = false) :
    PS X (.Raise (some (.Call (.Name (Str.ofString cn) p) [] [] pos)) none pos') (tvS Z fun σ S => .ex cn [] σ S) :=
  imp_PS (ps_raise (x.calm hh) x.tk (pmk_0 F.excBase_ValueError (by rw [x.K]; exact T.mk0 rfl) (by rw [x.mg]; exact hm) (by rw [x.K]; exact T.keep) (raises_cls x.K T) hg hdb)) fun D vσ H ⟨ρ, σ, S, ro, sr, h⟩ =>
    h C none vσ H ρ (HX.refl H) (PX.refl ρ) sr ro ⟨[], [], hf, hm, rfl, .nil, .inl ⟨rfl, rfl⟩⟩
theorem s_raiseC (x : SX Z κ X c k) (hh : c.hot = false) (hm : Z.G.mg (Str.ofString cn) = some (.ref C)) (T : ClsE X.prog Z.G.K Z.G.mg C []) (hf : Z.fl cn = some []) (hg : Gl X (Str.ofString cn)) (hdb : (Str.ofString cn == ("__debug__" : Str)) = false) :
    PS X (.Raise (some (.Name (Str.ofString cn) p)) none pos') (tvS Z fun σ S => .ex cn [] σ S) :=
  imp_PS (ps_raiseC (x.calm hh) x.tk F.excBase_ValueError (by rw [x.K]; exact T.mk0 rfl) (by rw [x.mg]; exact hm) (by rw [x.K]; exact T.tyC) (by rw [x.K]; exact T.own) (by rw [x.K]; exact T.exC) hg hdb) fun D vσ H ⟨ρ, σ, S, ro, sr, h⟩ =>
    h C none vσ H ρ (HX.refl H) (PX.refl ρ) sr ro ⟨[], [], hf, hm, rfl, .nil, .inl ⟨rfl, rfl⟩⟩
theorem s_raise1 (x : SX Z κ X c k) (hh : c.hot = false) {f : String} {a : Expr} {fl : List D → Store → R (List D)} (hm : Z.G.mg (Str.ofString cn) = some (.ref C)) (T : ClsE X.prog Z.G.K Z.G.mg C [f]) (hf : Z.fl cn = some [f]) (hg : Gl X (Str.ofString cn)) (hdb : (Str.ofString cn == ("__debug__" : Str)) = false)
    (ha : PA X [a] (tvL Z fl)) (hp : plainE a = true) :
    PS X (.Raise (some (.Call (.Name (Str.ofString cn) p) [a] [] pos)) none pos') (tvS Z fun σ S => (fl σ S).fl σ fun l S => if l.length = 1 && D.flats l then .ex cn l σ S else .bad) := by
  obtain ⟨_, fI, cc, cda, O⟩ := T.mk1 f [] rfl
  have O : OwnI X.prog X.K X.mg (Str.ofString f) C fI cc cda := by rw [x.K, x.mg]; exact O
  refine imp_PS (ps_raise (x.calm hh) x.tk (pmk_xi O (raises_cls x.K T) (by have := (x.room hh).room.dp; omega) ha hg (by rw [x.mg]; exact hm) hdb (starEach_plain hp _ _))) fun D vσ H ⟨ρ, σ, S, ro, sr, q⟩ => ?_
  refine ⟨ρ, σ, S, ro, sr, (fl_bind (S := S) (rel := relL Z) ro q).imp ?_⟩
  rintro vs H1 ⟨ρ1, l, S1, e1, p1, s1, rl, q1⟩
  split at q1
  · rename_i hl
    simp only [Bool.and_eq_true, decide_eq_true_eq] at hl
    obtain ⟨hl1, hl2⟩ := hl
    cases l with
    | nil => cases hl1
    | cons d l => cases l with
      | cons _ _ => cases hl1
      | nil =>
        obtain ⟨v, rfl, rv⟩ := reps1 rl
        refine ⟨v, rfl, fun d' hd => ?_⟩
        have rf : Reps Z.G none H1 ρ1 [d] [v] := rl.flat hl2
        refine q1 C (some d') vσ _ ρ1 (HX.new hd) (PX.refl ρ1) (s1.laid hd) ((ro.mono e1 p1).mono (HX.new hd) (PX.refl ρ1)) ⟨[f], [v], hf, hm, rfl, rf.mono (HX.new hd) (PX.refl ρ1), .inr ⟨d', rfl, upd_same⟩⟩
  · exact q1.elim
/-- the body of a try -/
theorem SX.tr {W : WX} {pn : List (Addr × Obj)} {xe : Value → Shared → Prop} (x : SX Z κ X c k) (hh : c.hot = false) (hblk : c.blk = none) (tk : Takes (X.tr pn xe) W) (ow : PassesOwn (model X.prog X.w) X.A X.env xe) : SX { Z with W := W } κ (X.tr pn xe) c k where
  K := x.K
  mg := x.mg
  N := x.N
  sc := x.sc
  calm := x.calm
  nd := x.nd
  room := x.room
  un := x.un
  gd := x.gd
  fns := x.fns
  tk := tk
  fn := x.fn
  bs := x.bs
  fs := x.fs
  cc := x.cc
  hx := fun cc i e1 e2 => by
    obtain ⟨rfl, _⟩ := x.cc hh cc e1
    cases e2
  frm := x.frm
  es := x.es
  okl := x.okl
  own := ow
  lam := x.lam
/-- a suite -/
theorem SX.suite (x : SX Z κ X c k) {j : ExI} {oe : Obj} {pn : List (Addr × Obj)} (hm : Z.G.mg (Str.ofString j.cn) = some (.ref j.C)) (hn : (κ.exc j.cn).map (·.2) = some j.ns) (T : ClsE X.prog Z.G.K Z.G.mg j.C j.ns) (hz : Zc (.ref j.C) j.dx oe) (hf : ∃ vs, oe.data = .fields vs) :
    SX (Z.suite X j) κ (X.suite j.a ((j.a, oe) :: pn)) c.suite k where
  K := x.K
  mg := x.mg
  N := x.N
  sc := x.sc
  calm := fun h => by cases h
  nd := x.nd
  room := fun h => by cases h
  un := x.un
  gd := x.gd
  fns := x.fns
  tk := takes0
  fn := x.fn
  bs := x.bs
  fs := x.fs
  cc := fun h => by cases h
  hx := fun cc i e1 e2 => by
    cases e1
    cases e2
    have IC : ExcC X.K j.C := by rw [x.K]; exact T.is
    exact ⟨hm, hn, call_isX IC hz hf, fun f hf2 e te pos he hb => pe_xf ⟨IC.hg, IC.hk, IC.hs, IC.hd⟩ (by rw [x.K]; exact T.fld f hf2) hz hf he hb⟩
  frm := x.frm
  es := x.es
  okl := fun h => by cases h
  own := PassesOwn.never
  lam := fun h => by cases h
theorem ClsV.uniq {mg : Str → Option Value} {y : String} {u v : Value} (h1 : ClsV mg y u) (h2 : ClsV mg y v) : u = v := by
  rcases h1 with ⟨h1, _⟩ | ⟨e, h1, rfl⟩ <;> rcases h2 with ⟨h2, _⟩ | ⟨e2, h2, rfl⟩
  · rw [h1] at h2; exact Option.some.inj h2
  · subst e2; rw [show mg (Str.ofString "ValueError") = none from h2] at h1; cases h1
  · subst e; rw [show mg (Str.ofString "ValueError") = none from h1] at h2; cases h2
  · rfl
theorem ClsV.names {y : String} {u : Value} (hmg : X.mg = Z.G.mg) (h : ClsV Z.G.mg y u) (hg : Gl X (Str.ofString y)) (hd : (Str.ofString y == ("__debug__" : Str)) = false) : Names X (Str.ofString y) u := by
  refine ⟨hg, hd, ?_⟩
  rcases h with ⟨h1, _⟩ | ⟨rfl, h1, rfl⟩
  · exact .inl (by rw [hmg]; exact h1)
  · exact .inr ⟨by rw [hmg]; exact h1, PyProof.Rows.Boot.«ValueError», by decide⟩
/-- what comes behind a suite -/
theorem PostF.endH {D D' : Ends} {H : Hp} {ρ : List Addr} {f : Fl} {j : ExI} {i : Option Nat} (u : L2.St → L2.St) (hu : ∀ vσ, u vσ = match i with | some i => vσ.set i none | none => vσ)
    (hD : D'.nx = (fun σ' H' => D.nx (u σ') H') ∧ D'.rt = D.rt ∧ D'.bk = (fun σ' H' => D.bk (u σ') H') ∧ D'.ct = fun σ' H' => D.ct (u σ') H') (h : PostF Z D H ρ (endH i f)) : PostF (Z.suite X j) D' H ρ f := by
  obtain ⟨h1, h2, h3, h4⟩ := hD
  have gone : ∀ {σ : List Ev.D} {vσ : L2.St} {H' : Hp} {ρ' : List Addr}, Repo Z.G (Z.suite X j).cc H' ρ' σ vσ → Repo Z.G Z.cc H' ρ' (unO i (noClo σ)) (u vσ) := fun {σ vσ H' ρ'} r => by
    have r1 : Repo Z.G Z.cc H' ρ' (noClo σ) vσ := r.noClo.any
    rw [hu]
    cases i with
    | none => exact r1
    | some i => exact r1.unset i
  cases f with
  | nx σ S => intro vσ H' ρ' e p s r; rw [h1]; exact h (u vσ) H' ρ' e p s (gone r)
  | bk σ S => intro vσ H' ρ' e p s r; rw [h3]; exact h (u vσ) H' ρ' e p s (gone r)
  | ct σ S => intro vσ H' ρ' e p s r; rw [h4]; exact h (u vσ) H' ρ' e p s (gone r)
  | rt d S =>
    intro v H' ρ' e p s r
    rw [h2]
    unfold Ev.endH at h
    dsimp only at h
    split at h
    · rename_i hf
      exact h v H' ρ' e p s (Rep.flat hf r).any
    · exact h.elim
  | ex _ _ _ _ => exact h.elim
  | bad => exact h.elim
/-- what the suite is told -/
def tSu (Z : Se) (X : Cx) (κ : Kap) (fh : List D → Store → Fl) (a : Addr) (cls : Value) (d : Option Addr) : TS := fun D vσ H =>
  ∃ j : ExI, j.a = a ∧ cls = .ref j.C ∧ j.dx = d ∧ Z.G.mg (Str.ofString j.cn) = some (.ref j.C) ∧ (κ.exc j.cn).map (·.2) = some j.ns ∧ ClsE X.prog Z.G.K Z.G.mg j.C j.ns ∧ tvS (Z.suite X j) fh D vσ H
theorem su_ok (x : SX Z κ X c k) {suite : List Stmt} {fh : List D → Store → Fl}
    (hs : ∀ (j : ExI) (X' : Cx), X'.env = X.env → SX (Z.suite X j) κ X' c.suite k → PSs X' suite (tvS (Z.suite X j) fh)) :
    ∀ (a : Addr) (oe : Obj) (cls : Value) (d : Option Addr) (pn : List (Addr × Obj)), Zc cls d oe → (∃ vs, oe.data = .fields vs) → PSs (X.suite a ((a, oe) :: pn)) suite (tSu Z X κ fh a cls d) := fun a oe cls d pn hz hf => by
  refine ⟨fun pins s vσ H D I q => ?_⟩
  obtain ⟨j, rfl, rfl, rfl, h1, h2, h3, q⟩ := q
  exact (hs j (X.suite j.a ((j.a, oe) :: pn)) rfl (x.suite h1 h2 h3 hz hf)).run pins s vσ H D I q
/-- the error of a try's body: how it goes on -/
def tryF (κ : Kap) (sg : String) (i : Option Nat) (fh : List D → Store → Fl) : Fl → Fl
  | .ex cn l σ1 S1 => (match κ.isx cn sg with
    | some true => endH i (fh (setO i σ1 (.exn cn l)) S1)
    | some false => .ex cn l σ1 S1
    | none => .bad)
  | f => f
theorem try_post (x : SX Z κ X c k) (hh : c.hot = false) {sg : String} {cv : Value} {i : Option Nat} {fh : List D → Store → Fl} {D D' : Ends} {H : Hp} {ρ : List Addr} {f : Fl} {W : WX} (hcv : ClsV Z.G.mg sg cv) (u : L2.St → L2.St) (hu : ∀ vσ, u vσ = match i with | some i => vσ.set i none | none => vσ) (st : Addr → L2.St → L2.St)
    (hst : ∀ a vσ, st a vσ = match i with | some i => vσ.set i (some (.ref a)) | none => vσ)
    (hD : D'.nx = (fun σ' H' => D.nx (u σ') H') ∧ D'.rt = D.rt ∧ D'.bk = (fun σ' H' => D.bk (u σ') H') ∧ D'.ct = fun σ' H' => D.ct (u σ') H')
    (hW : ∀ cls d σ H, (∃ b, PySem.W.exmOne X.K cls cv = some b ∧ (b = true → ∀ a, H a = none → tSu Z X κ fh a cls d D' (st a σ) H) ∧ (b = false → Z.W cls d σ H)) → W cls d σ H)
    (h : PostF Z D H ρ (tryF κ sg i fh f)) : PostF { Z with W := W } D H ρ f := by
  cases f with
  | nx σ S => exact h
  | bk σ S => exact h
  | ct σ S => exact h
  | rt d S => exact h
  | bad => exact h
  | ex cn l σ1 S1 =>
    intro C dx vσ1 H1 ρ1 e p s1 ro1 er
    obtain ⟨ns, vs, e1, e2, e3, e4, e5⟩ := er
    have e1 : Z.fl cn = some ns := e1
    rw [x.fns.exc.fl] at e1
    unfold tryF at h
    dsimp only at h
    cases hi : κ.isx cn sg with
    | none => rw [hi] at h; exact h.elim
    | some b =>
      rw [hi] at h
      obtain ⟨cv', hv', _, hx⟩ := x.fns.exc.isx cn sg b C hi e2
      have := ClsV.uniq hv' hcv
      subst this
      refine hW _ _ _ _ ⟨b, by rw [x.K]; exact hx, fun hb a ha => ?_, fun hb => ?_⟩
      · subst hb
        dsimp only at h
        have T : ClsE X.prog Z.G.K Z.G.mg C ns := by
          cases hk : κ.exc cn with
          | none => rw [hk] at e1; cases e1
          | some q =>
            rw [hk] at e1
            obtain ⟨C', m', T⟩ := x.fns.exc.cls cn q hk
            have e2 : Z.G.mg (Str.ofString cn) = some (.ref C) := e2
            rw [e2] at m'
            cases m'
            have : q.2 = ns := Option.some.inj e1
            rw [← this]; exact T
        have ro2 : Repo Z.G (some ⟨X.s_0.heap, X.H_0, X.fs, none⟩) H1 ρ1 σ1 vσ1 := by
          cases hcc : Z.cc with
          | none =>
            have ro1 : Repo Z.G Z.cc H1 ρ1 σ1 vσ1 := ro1
            rw [hcc] at ro1
            exact ro1.any
          | some cc =>
            have ro1 : Repo Z.G Z.cc H1 ρ1 σ1 vσ1 := ro1
            rw [hcc] at ro1
            obtain ⟨rfl, _⟩ := x.cc hh cc hcc
            exact ro1
        have ro3 : Repo Z.G (Z.suite X ⟨a, C, dx, cn, ns⟩).cc H1 ρ1 σ1 vσ1 := Repo.cc (c1 := ⟨X.s_0.heap, X.H_0, X.fs, none⟩) (c2 := ⟨X.s_0.heap, X.H_0, X.fs, some ⟨a, C, dx, cn, ns⟩⟩) rfl (fun k f vs (h : CloH Z.G ⟨X.s_0.heap, X.H_0, X.fs, none⟩ H1 k f vs) => show CloH Z.G ⟨X.s_0.heap, X.H_0, X.fs, some ⟨a, C, dx, cn, ns⟩⟩ H1 k f vs from h) ro2
        have re : Rep Z.G (Z.suite X ⟨a, C, dx, cn, ns⟩).cc H1 ρ1 (.exn cn l) (.ref a) := .exn (i := ⟨a, C, dx, cn, ns⟩) rfl rfl e3 (Reps.flat_of e4) e4.any e5
        refine ⟨⟨a, C, dx, cn, ns⟩, rfl, rfl, rfl, e2, e1.symm ▸ e1, T, ρ1, setO i σ1 (.exn cn l), S1, ?_, s1, PostF.mono e p (PostF.endH u hu hD h)⟩
        rw [hst]
        cases i with
        | none => exact ro3
        | some i => exact ro3.set re i
      · subst hb
        exact h C dx vσ1 H1 ρ1 e p s1 ro1 ⟨ns, vs, by rw [x.fns.exc.fl]; exact e1, e2, e3, e4, e5⟩
variable {n sg : Str} {i : Nat} {cv : Value} {body suite : List Stmt} {b₀ : Stmt} {np : Pos} {fb fh : List D → Store → Fl}
theorem s_try_as {y : String} (x : SX Z κ X c k) (hh : c.hot = false) (hblk : c.blk = none) (hi : X.N[i]? = some n) (hln : X.env.kindOf n = some .local) (hcv : ClsV Z.G.mg y cv) (hg : Gl X (Str.ofString y)) (hd : (Str.ofString y == ("__debug__" : Str)) = false)
    (hb : ∀ (W : WX) (X' : Cx), X'.env = X.env → SX { Z with W := W } κ X' c k → PSs X' body (tvS { Z with W := W } fb))
    (hs : ∀ (j : ExI) (X' : Cx), X'.env = X.env → SX (Z.suite X j) κ X' c.suite k → PSs X' (b₀ :: suite) (tvS (Z.suite X j) fh)) :
    PS X (.Try body [.ExceptHandler (some (.Name (Str.ofString y) np)) (some n) (b₀ :: suite) pos'] [] [] pos) (tvS Z fun σ S => tryF κ y (some i) fh (fb σ S)) :=
  imp_PS (ps_try_as (x.frm hblk).1 (x.frm hblk).2 x.nd hi hln (hcv.names x.mg hg hd) x.tk (fun W pn xe tk ow => hb W (X.tr pn xe) rfl (x.tr hh hblk tk ow)) (su_ok x hs)) fun D vσ H ⟨ρ, σ, S, ro, sr, h⟩ =>
    ⟨ρ, σ, S, ro, sr, try_post (D' := { nx := fun σ' H' => D.nx (σ'.set i none) H', rt := D.rt, bk := fun σ' H' => D.bk (σ'.set i none) H', ct := fun σ' H' => D.ct (σ'.set i none) H' }) x hh hcv (fun vσ => vσ.set i none) (fun _ => rfl) (fun a vσ => vσ.set i (some (.ref a))) (fun _ _ => rfl) ⟨rfl, rfl, rfl, rfl⟩ (fun _ _ _ _ w => w) h⟩
theorem s_try_only {y : String} (x : SX Z κ X c k) (hh : c.hot = false) (hblk : c.blk = none) (hcv : ClsV Z.G.mg y cv) (hg : Gl X (Str.ofString y)) (hd : (Str.ofString y == ("__debug__" : Str)) = false)
    (hb : ∀ (W : WX) (X' : Cx), X'.env = X.env → SX { Z with W := W } κ X' c k → PSs X' body (tvS { Z with W := W } fb))
    (hs : ∀ (j : ExI) (X' : Cx), X'.env = X.env → SX (Z.suite X j) κ X' c.suite k → PSs X' (b₀ :: suite) (tvS (Z.suite X j) fh)) :
    PS X (.Try body [.ExceptHandler (some (.Name (Str.ofString y) np)) none (b₀ :: suite) pos'] [] [] pos) (tvS Z fun σ S => tryF κ y none fh (fb σ S)) :=
  imp_PS (ps_try_only (x.frm hblk).1 (x.frm hblk).2 (hcv.names x.mg hg hd) x.tk (fun W pn xe tk ow => hb W (X.tr pn xe) rfl (x.tr hh hblk tk ow)) (su_ok x hs)) fun D vσ H ⟨ρ, σ, S, ro, sr, h⟩ =>
    ⟨ρ, σ, S, ro, sr, try_post (D' := D) x hh hcv (fun vσ => vσ) (fun _ => rfl) (fun a vσ => vσ) (fun _ _ => rfl) ⟨rfl, rfl, rfl, rfl⟩ (fun _ _ _ _ w => w) h⟩
end
end Ev
set_option Elab.async false
set_option linter.all false
set_option maxRecDepth 100000
set_option maxHeartbeats 2000000
/-! Ev13c: what a suite asks of its error. -/
namespace Ev
open PySem PySem.Spec PyProof.Rows L2
section
variable {Z : Se} {X : Cx} {κ : Kap} {c : Cs} {k : Nat} {p p1 p2 pos : Pos} {i : Nat} {n : Str} {y : String}
theorem exn_inv {H : Hp} {ρ : List Addr} {cn : String} {l : List D} {v : V} (r : Rep Z.G Z.cc H ρ (.exn cn l) v) : ∃ cc j vs, Z.cc = some cc ∧ cc.ex = some j ∧ cn = j.cn ∧ v = .ref j.a ∧ l.length = j.ns.length ∧ Reps Z.G Z.cc H ρ l vs ∧
    ((j.ns = [] ∧ j.dx = none) ∨ ∃ d, j.dx = some d ∧ H d = some (.xd ((j.ns.map Str.ofString).zip vs))) := by
  cases r with
  | exn h1 h2 h3 hf r h4 => exact ⟨_, _, _, h1, h2, rfl, rfl, h3, r, h4⟩
theorem ex_some {cc : CC} {j : ExI} (h1 : Z.cc = some cc) (h2 : cc.ex = some j) {cc' : CC} {j' : ExI} (h3 : Z.cc = some cc') (h4 : cc'.ex = some j') : j' = j := by
  rw [h1] at h3
  cases h3
  rw [h2] at h4
  exact (Option.some.inj h4).symm
theorem p_isx (x : SX Z κ X c k) (hi : X.N[i]? = some n) (hv : Vis X.env.scope n) (hd : (n == ("__debug__" : Str)) = false) (hcd : (n == ("__classdict__" : Str)) = false) (hg : Gl X "isinstance") (hm : X.mg "isinstance" = none) (hgy : Gl X (Str.ofString y)) (hdy : (Str.ofString y == ("__debug__" : Str)) = false) :
    PE X (.Call (.Name "isinstance" p) [.Name n p1, .Name (Str.ofString y) p2] [] pos) (tv Z fun σ S => match σ[i]? with
      | some (.exn cn _) => orBad (κ.isx cn y) fun b => .ok (.bl b) S
      | _ => .bad) := by
  -- what is known of the slot
  have slot : ∀ {vσ : L2.St} {H : Hp} {Q : VK}, tv Z (fun σ S => match σ[i]? with
      | some (.exn cn _) => orBad (κ.isx cn y) fun b => .ok (.bl b) S
      | _ => .bad) vσ H Q → ∃ cc j b ρ S, Z.cc = some cc ∧ cc.ex = some j ∧ κ.isx j.cn y = some b ∧ vσ[i]? = some (some (.ref j.a)) ∧ (j.dx = none ∨ ∃ d fs, j.dx = some d ∧ H d = some (.xd fs)) ∧ SRep Z.G H ρ S ∧ Pst Z vσ (relD Z) H ρ Q (.ok (.bl b) S) := by
    intro vσ H Q q
    obtain ⟨ρ, σ, S, r, s, q⟩ := q
    dsimp only at q
    split at q
    · rename_i cn l e
      obtain ⟨b, hb, q1⟩ := Pst.orBad q
      obtain ⟨v, e2, rv⟩ := r.get e (by intro z; cases z)
      obtain ⟨cc, j, vs, h1, h2, rfl, rfl, h3, _, h4⟩ := exn_inv rv
      refine ⟨cc, j, b, ρ, S, h1, h2, hb, e2, ?_, s, q1⟩
      rcases h4 with ⟨_, z⟩ | ⟨d, e1, e3⟩
      · exact .inl z
      · exact .inr ⟨d, _, e1, e3⟩
    · exact q.elim
  by_cases hex : ∃ cc j b, Z.cc = some cc ∧ cc.ex = some j ∧ κ.isx j.cn y = some b
  · obtain ⟨cc, j, b, h1, h2, h3⟩ := hex
    have E := x.hx cc j h1 h2
    obtain ⟨cv, hcv, hk, _⟩ := x.fns.exc.isx j.cn y b j.C h3 E.mg
    obtain ⟨cV, hV, hone⟩ : ∃ cV : V, PE X (.Name (Str.ofString y) p2) (tC cV) ∧ ∀ u, RelV cV u → u = cv := by
      rcases hcv with ⟨h, D, rfl⟩ | ⟨rfl, h, rfl⟩
      · exact ⟨.ref D, pe_glob hgy (by rw [x.mg]; exact h) rfl hdy, fun u r => r⟩
      · exact ⟨.ty "ValueError", pe_bltn hgy (by rw [x.mg]; exact h) PyProof.Rows.Boot.«ValueError» rfl (by decide) hdy, fun u r => r⟩
    refine imp_PE (pe_callB E.is hg hm (by decide +kernel) (pa_cons (pe_var hi hv hd hcd) (pa_cons hV pa_nil)) (by decide +kernel) (by decide +kernel)) fun vσ H Q q => ?_
    obtain ⟨cc', j', b', ρ, S, g1, g2, g3, e2, h4, s, q⟩ := slot q
    have := ex_some h1 h2 g1 g2
    subst this
    rw [h3] at g3
    cases g3
    exact ⟨_, e2, cV, cv, b, rfl, hone, by rw [x.K]; exact hk, h4, Pst.ok (rel := relD Z) q s (.bl b)⟩
  · refine ⟨fun pins s σ H Q I q => ?_⟩
    obtain ⟨cc, j, b, ρ, S, g1, g2, g3, _⟩ := slot q
    exact absurd ⟨cc, j, b, g1, g2, g3⟩ hex
theorem p_fld (x : SX Z κ X c k) {e : Expr} {fe : List D → Store → R D} {f : String} (he : PE X e (tv Z fe)) (hb : attributeBase e (Str.ofString f) X.env (eval e X.env) = eval e X.env) :
    PE X (.Attribute e (Str.ofString f) pos) (tv Z fun σ S => (fe σ S).bind fun v S => match v with
      | .exn cn l => orBad (κ.efld cn l f) fun d => .ok d S
      | _ => .bad) := by
  have inv : ∀ {vσ : L2.St} {Q : VK} {v : V} {H1 : Hp}, (∃ ρ1 a S1, SRep Z.G H1 ρ1 S1 ∧ relD Z H1 ρ1 a v ∧ Pst Z vσ (relD Z) H1 ρ1 Q (match a with
      | .exn cn l => orBad (κ.efld cn l f) fun d => .ok d S1
      | _ => .bad)) → ∃ cc j dd w, Z.cc = some cc ∧ cc.ex = some j ∧ f ∈ j.ns ∧ v = .ref j.a ∧ j.dx = some dd ∧ H1 dd = some (.xd [(Str.ofString f, w)]) ∧ Q w H1 := by
    rintro vσ Q v H1 ⟨ρ1, a, S1, s1, r1, q⟩
    cases a with
    | exn cn l =>
      obtain ⟨d, hd, q1⟩ := Pst.orBad q
      obtain ⟨cc, j, vs, h1, h2, rfl, rfl, h3, r, h4⟩ := exn_inv r1
      have E := x.hx cc j h1 h2
      have en := E.ns
      unfold Kap.efld at hd
      cases hk : κ.exc j.cn with
      | none => rw [hk] at en; cases en
      | some q =>
        rw [hk] at en hd
        dsimp only at hd
        have en : q.2 = j.ns := Option.some.inj en
        split at hd
        · rename_i hq
          rw [en] at hq
          rw [hq] at h3 h4
          cases r with
          | nil => cases hd
          | @cons d0 w l0 vs0 rd rr =>
            cases hd
            cases rr with
            | cons _ _ => cases h3
            | nil =>
              rcases h4 with ⟨z, _⟩ | ⟨dd, e1, e3⟩
              · cases z
              · exact ⟨cc, j, dd, w, h1, h2, by rw [hq]; simp, rfl, e1, e3, Pst.ok (rel := relD Z) q1 s1 rd⟩
        · cases hd
    | _ => exact q.elim
  by_cases hex : ∃ cc j, Z.cc = some cc ∧ cc.ex = some j ∧ f ∈ j.ns
  · obtain ⟨cc, j, h1, h2, hf⟩ := hex
    refine imp_PE ((x.hx cc j h1 h2).fld f hf e _ pos he hb) fun vσ H Q q => ?_
    obtain ⟨ρ, σ, S, r, s, q⟩ := q
    refine ⟨ρ, σ, S, r, s, (PostG.bind (rel := relD Z) q).imp ?_⟩
    rintro v H1 ⟨ρ1, a, S1, e1, p1, s1, r1, q1⟩
    obtain ⟨cc', j', dd, w, g1, g2, g3, rfl, g4, g5, q2⟩ := inv ⟨ρ1, a, S1, s1, r1, q1⟩
    have := ex_some h1 h2 g1 g2
    subst this
    exact ⟨rfl, rfl, dd, _, w, g4, g5, by simp [List.lookup], q2⟩
  · refine ⟨fun pins s vσ H Q I q => ?_⟩
    obtain ⟨ρ, σ, S, r, sr, q⟩ := q
    refine attr_of hb (thn (he.run pins s vσ H _ I ⟨ρ, σ, S, r, sr, PostG.bind (rel := relD Z) q⟩) fun u s1 ⟨v, H1, I1, r1, q1⟩ => ?_)
    obtain ⟨ρ1, a, S1, e1, p1, s1, r1, q1⟩ := q1
    obtain ⟨cc', j', dd, w, g1, g2, g3, _⟩ := inv ⟨ρ1, a, S1, s1, r1, q1⟩
    exact absurd ⟨cc', j', g1, g2, g3⟩ hex
end
end Ev
set_option Elab.async false
set_option linter.all false
set_option maxRecDepth 100000
set_option maxHeartbeats 2000000
/-! Ev14: whether a program of mine is what the text says. -/
namespace Ev
open PySem PySem.Spec PyProof.Rows L2

def glB (sc : Scope) (x : Str) : Bool := decide (sc.names.lookup x = some .globalImplicit) && !(x == ("__debug__" : Str))
def visB (sc : Scope) (x : Str) : Bool := (match sc.names.lookup x with
  | some .local => true
  | some .cell => true
  | some .free => true
  | _ => false) && !(x == ("__debug__" : Str)) && !(x == ("__classdict__" : Str))
def locB (c : Cs) (x : Str) : Bool := match c.sc.names.lookup x with
  | some .local => true
  | some .cell => c.fn x
  | _ => false
def relS (scope sc : Scope) : Scope := { scope with names := scope.names.map fun (n, k) => if (k == .free && sc.kind == .function && sc.names.lookup n == some .cell) then (n, .cell) else (n, k) }
def Cs.inner (c : Cs) (scope : Scope) : Cs := { c with sc := relS scope c.sc, blk := some scope, lam := false }
def ownOf (c : Cs) (own : List Nat) : List (Str × Nat) := own.map fun i => ((c.N[i]?).getD "", i)
mutual
def okP (c : Cs) : Pt → Expr → Bool
  | .v i, e => match e with
    | .Name x _ => decide (c.N[i]? = some x) && locB c x
    | _ => false
  | .tp l, e => match e with
    | .Tuple es _ _ => !c.hot && okPs c l es
    | _ => false
def okPs (c : Cs) : List Pt → List Expr → Bool
  | [], es => es.isEmpty
  | p :: ps, es => match es with
    | e :: es => plainE e && okP c p e && okPs c ps es
    | [] => false
end
mutual
def ownP (ns : List Nat) : Pt → Bool
  | .v i => decide (i ∈ ns)
  | .tp l => ownPs ns l
def ownPs (ns : List Nat) : List Pt → Bool
  | [] => true
  | p :: r => ownP ns p && ownPs ns r
end
def plainIxB : Expr → Bool
  | .Slice _ _ _ _ => false
  | _ => true
def isTupB : Expr → Bool
  | .Tuple _ _ _ => true
  | _ => false
/-- a lambda's text -/
def lamScB (sc scope : Scope) (ps : List Str) : Bool :=
  decide (scope.kind = .function) && !scope.isCoroutine && !scope.isGenerator && scope.names.all fun y => !decide (y.2 = .cell) && (!decide (y.2 = .local) || decide (y.1 ∈ ps)) && (!decide (y.2 = .free) || decide (sc.names.lookup y.1 = some .cell) || decide (sc.names.lookup y.1 = some .free))
def plainArgs (p : Arguments) : Bool := p.posonlyargs.isEmpty && p.kwonlyargs.isEmpty && p.vararg.isNone && p.kwarg.isNone && p.defaults.isEmpty && p.kw_defaults.isEmpty
def isiT (t : String) : Bool := decide (t ∈ ["int", "bool", "tuple", "str", "list"])
def mtB (m : Mt) : Bool := match m with
  | .append => true
  | .index => true
  | .count => true
  | .extend => true
  | _ => false
def initOf {α : Type} : List α → Option (List α × α)
  | [] => none
  | [a] => some ([], a)
  | a :: r => (initOf r).map fun q => (a :: q.1, q.2)
mutual
def okE (c : Cs) : E → Expr → Bool
  | .bad, _ => true
  | .var i, e => match e with
    | .Name x _ => decide (c.N[i]? = some x) && visB c.sc x
    | _ => false
  | .cint i, e => match e with
    | .Constant (.int j) _ _ => decide (i = j)
    | _ => false
  | .cstr s, e => match e with
    | .Constant (.str x) _ _ => decide (Str.ofString s = x)
    | _ => false
  | .cbl b, e => match e with
    | .Constant (.bool d) _ _ => b == d
    | _ => false
  | .cnon, e => match e with
    | .Constant .none _ _ => true
    | _ => false
  | .glb x, e => match e with
    | .Name y _ => decide (Str.ofString x = y) && glB c.sc y
    | _ => false
  | .tup es, e => match e with
    | .Tuple xs _ _ => okEs c es xs
    | _ => false
  | .lst es, e => match e with
    | .List xs _ => okEs c es xs
    | _ => false
  | .bin o a b, e => match e with
    | .BinOp x op y _ => decide (op = o.ast) && okE c a x && okE c b y
    | _ => false
  | .neg a, e => match e with
    | .UnaryOp .USub x _ => okE c a x
    | _ => false
  | .cmp o a b, e => match e with
    | .Compare x [op] [y] _ => decide (op = o.ast) && !behindInMarks op y && okE c a x && okE c b y
    | _ => false
  | .cmp2 o p a b d, e => match e with
    | .Compare x [op, op2] [y, z] _ => decide (op = o.ast) && decide (op2 = p.ast) && !lastMarks [op, op2] [y, z] && okE c a x && okE c b y && okE c d z
    | _ => false
  | .and a b, e => match e with
    | .BoolOp .And [x, y] _ => okE c a x && okE c b y
    | .BoolOp .And (x :: y :: z :: r) pos => okE c a x && okE c b (.BoolOp .And (y :: z :: r) pos)
    | _ => false
  | .or a b, e => match e with
    | .BoolOp .Or [x, y] _ => okE c a x && okE c b y
    | .BoolOp .Or (x :: y :: z :: r) pos => okE c a x && okE c b (.BoolOp .Or (y :: z :: r) pos)
    | _ => false
  | .not a, e => match e with
    | .UnaryOp .Not x _ => okE c a x
    | _ => false
  | .ifx d a b, e => match e with
    | .IfExp x y z _ => okE c d x && okE c a y && okE c b z
    | _ => false
  | .call f es ks, e => match e with
    | .Call (.Name y _) xs kws _ => decide (Str.ofString f = y) && decide (f ∈ c.fs) && glB c.sc y && xs.all plainE && okEs c es xs && okKs c ks kws && !c.hot
    | _ => false
  | .callv i es ks, e => match e with
    | .Call (.Name y _) xs kws _ => decide (c.N[i]? = some y) && visB c.sc y && xs.all plainE && okEs c es xs && okKs c ks kws && !c.hot
    | _ => false
  | .bi b es, e => match e with
    | .Call (.Name y _) (x :: xs) [] _ => (b.here || b.isRepr) && decide (b.name = y) && glB c.sc y && decide (y ∈ c.bs) && plainE x && xs.all plainE && okEs c es (x :: xs) && (b.isRepr || !c.hot)
    | _ => false
  | .isi a ts, e => match e with
    | .Call (.Name y _) [x, .Name z _] [] _ => (match ts with
      | [t] => isiT t && decide (y = "isinstance") && decide (Str.ofString t = z) && glB c.sc y && glB c.sc z && decide (y ∈ c.bs) && decide (z ∈ c.bs) && plainE x && okE c a x
      | _ => false)
    | _ => false
  | .meth m o es, e => match e with
    | .Call (.Attribute (.Name y yp) nm ap) [x] [] pos => mtB m && decide (nm = m.name) && plainE x && (ap.endLine == pos.line) && okE c o (.Name y yp) && okEs c es [x]
    | _ => false
  | .isx i w, e => match e with
    | .Call (.Name y _) [.Name n _, .Name z _] [] _ => decide (y = "isinstance") && decide (Str.ofString w = z) && glB c.sc y && glB c.sc z && decide (y ∈ c.bs) && decide (c.N[i]? = some n) && visB c.sc n
    | _ => false
  | .fld o f, e => match e with
    | .Attribute (.Name y yp) n _ => decide (Str.ofString f = n) && okE c o (.Name y yp)
    | _ => false
  | .sub a b, e => match e with
    | .Subscript x y _ => plainIxB y && okE c a x && okE c b y
    | _ => false
  | .sl a lo hi, e => match e with
    | .Subscript x (.Slice l h none _) _ => okE c a x && okEo c lo l && okEo c hi h
    | _ => false
  | .slr a, e => match e with
    | .Subscript x (.Slice none none (some (.UnaryOp .USub (.Constant (.int j) _ _) _)) _) _ => decide (j = 1) && okE c a x
    | _ => false
  | .lc d p it t own, e => match e with
    | .ListComp elt [⟨tg, iter, ifs, as⟩] scope _ => decide (as = 0) && notSet iter && okIt c it tg iter && blkC c.N c.sc scope (ownOf c own) && ownP own p && okP (c.inner scope) p tg && okIfs (c.inner scope) t ifs && okE (c.inner scope) d elt && !c.hot
    | _ => false
  | .lrng a, e => match e with
    | .Call (.Name y _) [.Call (.Name z _) [x] [] _] [] _ => decide (y = "list") && decide (z = "range") && glB c.sc y && glB c.sc z && decide (y ∈ c.bs) && decide (z ∈ c.bs) && plainE x && okE c a x && !c.hot
    | _ => false
  | .calll f es j, e => match e with
    | .Call (.Name y _) xs [] _ => c.lam && decide (Str.ofString f = y) && decide (f ∈ c.fs) && glB c.sc y && (match initOf xs with
      | some (ys, .Lambda params body scope _) => ys.all plainE && plainArgs params && okEs c es ys && (scope.names.all fun y => !decide (y.2 = .free) || decide (c.sc.names.lookup y.1 = some .cell) || decide (c.sc.names.lookup y.1 = some .free)) &&
          c.okl j ⟨c.qual ++ "<lambda>", params, body, scope, c.N⟩
      | _ => false)
    | _ => false
def okIfs (c : Cs) : Eo → List Expr → Bool
  | .no, l => l.isEmpty
  | .yes e, l => match l with
    | [x] => okE c e x
    | _ => false
def okEo (c : Cs) : Eo → Option Expr → Bool
  | .no, o => o.isNone
  | .yes e, o => match o with
    | some x => okE c e x
    | none => false
def okEs (c : Cs) : Es → List Expr → Bool
  | .nil, l => l.isEmpty
  | .cons e r, l => match l with
    | x :: xs => plainE x && okE c e x && okEs c r xs
    | [] => false
  | .star e r, l => match l with
    | .Starred x _ :: xs => okE c e x && okEs c r xs
    | _ => false
def okKs (c : Cs) : Ks → List Keyword → Bool
  | .nil, l => l.isEmpty
  | .cons y e r, l => match l with
    | ⟨some n, x, _⟩ :: xs => decide (y = n) && okE c e x && okKs c r xs
    | _ => false
def okIt (c : Cs) : It → Expr → Expr → Bool
  | .seq e, _, x => okE c e x
  | .bi b es, tg, e => match e with
    | .Call (.Name y _) xs [] _ => decide (b.name = y) && glB c.sc y && decide (y ∈ c.bs) && xs.all plainE && okEs c es xs && (match b, xs with
      | .range, [_] => true
      | .range, [_, _] => true
      | .range, [_, _, _] => true
      | .zip, [_, _] => isTupB tg
      | .enumerate, [_] => isTupB tg
      | _, _ => false)
    | _ => false
end
mutual
def okT (c : Cs) : Tg → Expr → Bool
  | .v i, e => match e with
    | .Name x _ => decide (c.N[i]? = some x) && locB c x
    | _ => false
  | .ix o i, e => match e with
    | .Subscript a b _ => plainIxB b && okE c o a && okE c i b
    | _ => false
  | .tp l, e => match e with
    | .Tuple es _ _ => !c.hot && okTs c l es
    | _ => false
def okTs (c : Cs) : List Tg → List Expr → Bool
  | [], es => es.isEmpty
  | t :: ts, es => match es with
    | e :: es => plainE e && okT c t e && okTs c ts es
    | [] => false
end
def locN (c : Cs) (i : Nat) (x : Str) : Bool := decide (c.N[i]? = some x) && decide (c.sc.names.lookup x = some .local)
/-- how a statement of an assignment goes -/
def okAsg (c : Cs) (t : Tg) (e : E) (tg v : Expr) (line : Nat) : Bool :=
  okE c e v && (match tg, v with
    | .Name x px, .ListComp elt gens scope p => if (decide (c.sc.names.lookup x = some .local) && decide (px.line = p.line) && !(scope.names.any fun (n, k) => n == x && (k == .local || k == .cell))) = true then (match t with
      | .v i => locN c i x
      | _ => false) else okT c t tg
    | .Tuple [.Name x px, .Name y py] _ _, .Tuple [a, b] _ _ => (match t, e with
      | .tp [.v i, .v j], .tup es => if [a, b].all (foldedForSure 8) then okT c t tg else
          if (!(decide (c.sc.names.lookup x = some .local) && decide (c.sc.names.lookup y = some .local))) = true then okT c t tg else
          locN c i x && locN c j y && !decide (i = j) && !decide (x = y) && plainE a && plainE b && decide (px.line = py.line) && !([a, b].all (constantsAlone 8)) && !c.hot
      | _, _ => false)
    | .Tuple [.Name x px, .Name y py, .Name z pz] _ _, .Tuple [a, b, d] _ _ => (match t, e with
      | .tp [.v i, .v j, .v m], .tup es => if [a, b, d].all (foldedForSure 8) then okT c t tg else
          locN c i x && locN c j y && locN c m z && !decide (i = j) && !decide (i = m) && !decide (j = m) && !decide (x = y) && !decide (x = z) && !decide (y = z) && plainE a && plainE b && plainE d && decide (px.line = py.line) && decide (px.line = pz.line) && !([a, b, d].all (constantsAlone 8)) && !c.hot
      | _, _ => false)
    | tg, v => noComp v && !(isTupB tg && isTupB v) && plainE tg && okT c t tg)
mutual
def okS (c : Cs) : Sm → Stmt → Bool
  | .bad, _ => true
  | .asg t e, s => match s with
    | .Assign [tg] v pos => okAsg c t e tg v pos.line
    | _ => false
  | .expr e, s => match s with
    | .Expr v _ => noComp v && okE c e v
    | _ => false
  | .ret e, s => match s with
    | .Return (some v) _ => okE c e v
    | _ => false
  | .retn, s => match s with
    | .Return none _ => true
    | _ => false
  | .pass, s => match s with
    | .Pass _ => true
    | _ => false
  | .brk, s => match s with
    | .Break _ => true
    | _ => false
  | .cnt, s => match s with
    | .Continue _ => true
    | _ => false
  | .ifs d a b, s => match s with
    | .If x as bs _ => okE c d x && okSs c a as && okSs c b bs
    | _ => false
  | .for_ p it b, s => match s with
    | .For tg iter body [] _ => notSet iter && okIt c it tg iter && okP c p tg && okSs c b body && !c.hot
    | _ => false
  | .while_ d b, s => match s with
    | .While x body [] _ => okE c d x && okSs c b body
    | _ => false
  | .raise y es, s => match s with
    | .Raise (some (.Call (.Name n _) xs [] _)) none _ => !c.hot && decide (Str.ofString y = n) && glB c.sc n && decide ((y, xs.length) ∈ c.es) && okEs c es xs && (match xs with
      | [] => true
      | [x] => plainE x
      | _ => false)
    | .Raise (some (.Name n _)) none _ => !c.hot && decide (Str.ofString y = n) && glB c.sc n && decide ((y, 0) ∈ c.es) && okEs c es []
    | _ => false
  | .tr b y i h, s => match s with
    | .Try body [.ExceptHandler (some (.Name n _)) nm (h0 :: hs) _] [] [] _ => !c.hot && c.blk.isNone && decide (Str.ofString y = n) && glB c.sc n && (c.es.any (fun q => q.1 == y) || (y == "ValueError" && decide (("ValueError" : Str) ∈ c.bs))) && okSs c b body && okSs c.suite h (h0 :: hs) && (match i, nm with
      | none, none => true
      | some j, some m => decide (c.N[j]? = some m) && decide (c.sc.names.lookup m = some .local)
      | _, _ => false)
    | _ => false
def okSs (c : Cs) : Ss → List Stmt → Bool
  | .nil, l => l.isEmpty
  | .cons s r, l => match l with
    | x :: xs => okS c s x && okSs c r xs
    | [] => false
end
end Ev
set_option Elab.async false
set_option linter.all false
set_option maxRecDepth 100000
set_option maxHeartbeats 4000000
/-! Ev15: the words' soundness. -/
namespace Ev
open PySem PySem.Spec PyProof.Rows L2

@[simp] theorem fin_bind {α : Type} (m : Bool) (r : R α) (f : α → Store → R D) : fin m (r.bind f) = r.bind fun a S => fin m (f a S) := by cases m <;> cases r <;> rfl
@[simp] theorem fin_when (m b : Bool) (r : R D) : fin m (R.when b r) = R.when b (fin m r) := by cases b <;> simp [R.when]
@[simp] theorem fin_orBad {α : Type} (m : Bool) (o : Option α) (f : α → R D) : fin m (orBad o f) = orBad o fun a => fin m (f a) := by cases o <;> simp [orBad]
theorem toB_bind {α : Type} (r : R α) (f : α → Store → R D) : toB (r.bind f) = r.bind fun a S => toB (f a S) := by cases r <;> rfl
theorem fin_tt (r : R D) : toB (fin true (toB r |>.bind fun t S => .ok (.bl t) S)) = toB r := by
  cases r with
  | ok d S => cases d <;> rfl
  | ex c l S => rfl
  | bad => rfl
theorem glB_gl {X : Cx} {sc : Scope} {y : Str} (e : X.env.scope = sc) (h : glB sc y = true) : Gl X y ∧ (y == ("__debug__" : Str)) = false := by
  unfold glB at h
  simp only [Bool.and_eq_true, decide_eq_true_eq, Bool.not_eq_true'] at h
  refine ⟨?_, h.2⟩
  show X.env.scope.names.lookup y = _
  rw [e]
  exact h.1
theorem visB_vis {sc : Scope} {y : Str} (h : visB sc y = true) : Vis sc y ∧ (y == ("__debug__" : Str)) = false ∧ (y == ("__classdict__" : Str)) = false := by
  unfold visB at h
  simp only [Bool.and_eq_true, Bool.not_eq_true'] at h
  refine ⟨?_, h.1.2, h.2⟩
  have := h.1.1
  unfold Vis
  revert this
  split <;> intro z <;> simp_all
theorem locB_loc {c : Cs} {x : Str} (h : locB c x = true) : L2.Loc c.sc x ∧ (c.fn x = true ∨ c.sc.names.lookup x = some .local) := by
  unfold locB at h
  unfold L2.Loc
  revert h
  split <;> intro z <;> simp_all
theorem assignEach_plain {e : Expr} (h : plainE e = true) (es : List Expr) (env : Env) : assignEach (e :: es) env = (false, assign e env) :: assignEach es env := by
  cases e <;> first | rfl | (exact absurd h (by simp [plainE]))
theorem SX.blk {Z : Se} {κ : Kap} {X : Cx} {c : Cs} {k : Nat} (x : SX Z κ X c k) (hh : c.hot = false) (s : Shared) (H : Hp) (scope : Scope) (C : Addr) (cl : List (Str × Addr)) (fp : List Addr) :
    SX Z.blk κ (X.blk s H scope (compEnvC scope cl C X.env) fp) (c.inner scope) k where
  K := x.K
  mg := x.mg
  N := x.N
  sc := by
    show relabel scope X.env = relS scope c.sc
    rw [← x.sc]; rfl
  calm := fun _ => x.calm hh
  nd := x.nd
  room := fun _ => x.room hh
  un := x.un
  gd := x.gd
  fns := x.fns
  tk := LamX.takes0
  fn := fun y h => h
  bs := x.bs
  fs := x.fs
  cc := fun _ cc h => by cases h
  hx := fun cc i h => by cases h
  es := x.es
  frm := fun h => by cases h
  okl := fun h => by cases h
  own := PassesOwn.never
  lam := fun h => by cases h
abbrev SayE (κ : Kap) (Z : Se) (X : Cx) (f : E) (e : Expr) : Prop :=
  PE X e (tv Z fun σ S => evE κ σ false f S) ∧ PT X e (tvB Z fun σ S => toB (evE κ σ true f S)) ∧ (∀ op vs pos, e = .BoolOp op vs pos → PW X e (tvB Z fun σ S => toB (evE κ σ true f S)))
section
variable {Z : Se} {X : Cx} {κ : Kap} {c : Cs} {k : Nat}
theorem both {e : Expr} {f : E} (h : PE X e (tv Z fun σ S => evE κ σ false f S)) (hK : X.K = Z.G.K) (he : ∀ whole, isTrue e X.env whole = (do let v ← whole; standAt e.pos; holding [v] (truthy v)))
    (hev : ∀ σ S, toB (evE κ σ true f S) = toB (fin true (evE κ σ false f S))) (hb : ∀ op vs pos, e ≠ .BoolOp op vs pos) : SayE κ Z X f e := by
  have e1 : (fun σ S => toB (evE κ σ true f S)) = fun σ S => toB (fin true (evE κ σ false f S)) := by
    funext σ S; exact hev σ S
  refine ⟨h, ?_, fun op vs pos e => absurd e (hb op vs pos)⟩
  rw [e1]
  exact pt_of h hK he
theorem R.bind_congr {α β : Type} (r : R α) {f g : α → Store → R β} (h : ∀ a S, f a S = g a S) : r.bind f = r.bind g := by
  have : f = g := by funext a S; exact h a S
  rw [this]
/-! patterns -/
mutual
theorem sP (x : SX Z κ X c k) : ∀ (p : Pt) (tg : Expr), okP c p tg = true → PG X tg (tvP Z p.bind)
  | .v i, tg, h => by
    unfold okP at h
    split at h
    · simp only [Bool.and_eq_true, decide_eq_true_eq] at h
      obtain ⟨h1, h2⟩ := locB_loc h.2
      exact g_name x.nd (by rw [x.N]; exact h.1) (by rw [x.sc]; exact h1) (h2.imp (x.fn _) (by rw [x.sc]; exact id))
    · cases h
  | .tp l, tg, h => by
    unfold okP at h
    split at h
    · rw [Bool.and_eq_true, Bool.not_eq_true'] at h
      obtain ⟨h1, h2, h3⟩ := sPs x l _ h.2
      exact g_tp x.K (x.calm h.1) h1 h2 h3
    · cases h
theorem sPs (x : SX Z κ X c k) : ∀ (l : List Pt) (es : List Expr), okPs c l es = true → PGs X es (tvPs Z (Pt.binds l)) ∧ (assignEach es X.env).length = l.length ∧ (assignEach es X.env).findIdx? (·.1) = none
  | [], es, h => by
    unfold okPs at h
    cases es with
    | nil => exact ⟨g_nil, rfl, rfl⟩
    | cons _ _ => cases h
  | p :: ps, es, h => by
    unfold okPs at h
    split at h
    · simp only [Bool.and_eq_true] at h
      obtain ⟨h1, h2, h3⟩ := sPs x ps _ h.2
      rw [assignEach_plain h.1.1]
      refine ⟨g_cons (sP x p _ h.1.2) h1 (by rw [assignEach_plain h.1.1]; rfl), by simp [h2], ?_⟩
      rw [List.findIdx?_cons]
      simp [h3]
    · cases h
end
mutual
theorem sPw (x : SX Z κ X c k) (ns : List Nat) : ∀ (p : Pt) (tg : Expr), okP c p tg = true → ownP ns p = true → PG X tg (tvPw Z p.bind ns)
  | .v i, tg, h, ho => by
    unfold okP at h
    unfold ownP at ho
    split at h
    · simp only [Bool.and_eq_true, decide_eq_true_eq] at h
      obtain ⟨h1, h2⟩ := locB_loc h.2
      exact gw_name x.nd (by rw [x.N]; exact h.1) (by rw [x.sc]; exact h1) (h2.imp (x.fn _) (by rw [x.sc]; exact id)) (by simpa using ho)
    · cases h
  | .tp l, tg, h, ho => by
    unfold okP at h
    unfold ownP at ho
    split at h
    · rw [Bool.and_eq_true, Bool.not_eq_true'] at h
      obtain ⟨h1, h2, h3⟩ := sPws x ns l _ h.2 ho
      exact gw_tp x.K (x.calm h.1) h1 h2 h3
    · cases h
theorem sPws (x : SX Z κ X c k) (ns : List Nat) : ∀ (l : List Pt) (es : List Expr), okPs c l es = true → ownPs ns l = true → PGs X es (tvPws Z (Pt.binds l) ns) ∧ (assignEach es X.env).length = l.length ∧ (assignEach es X.env).findIdx? (·.1) = none
  | [], es, h, _ => by
    unfold okPs at h
    cases es with
    | nil => exact ⟨gw_nil, rfl, rfl⟩
    | cons _ _ => cases h
  | p :: ps, es, h, ho => by
    unfold okPs at h
    unfold ownPs at ho
    simp only [Bool.and_eq_true] at ho
    split at h
    · simp only [Bool.and_eq_true] at h
      obtain ⟨h1, h2, h3⟩ := sPws x ns ps _ h.2 ho.2
      rw [assignEach_plain h.1.1]
      refine ⟨gw_cons (sPw x ns p _ h.1.2 ho.1) h1 (by rw [assignEach_plain h.1.1]; rfl), by simp [h2], ?_⟩
      rw [List.findIdx?_cons]
      simp [h3]
    · cases h
end
end
theorem ownOf_snd (c : Cs) : ∀ own : List Nat, (ownOf c own).map (·.2) = own
  | [] => rfl
  | i :: r => by
    show i :: (ownOf c r).map (·.2) = _
    rw [ownOf_snd c r]
theorem initOf_app {α : Type} : ∀ {l : List α} {ys : List α} {z : α}, initOf l = some (ys, z) → l = ys ++ [z]
  | [], ys, z, h => by cases h
  | [a], ys, z, h => by cases h; rfl
  | a :: b :: r, ys, z, h => by
    have h : (initOf (b :: r)).map (fun q => (a :: q.1, q.2)) = some (ys, z) := h
    cases e : initOf (b :: r) with
    | none => rw [e] at h; cases h
    | some q =>
      rw [e] at h
      obtain ⟨q1, q2⟩ := q
      cases h
      rw [initOf_app e]; rfl
theorem plainIx_of {b : Expr} (h : plainIxB b = true) : PlainIx b := by
  intro o i
  cases b <;> first | rfl | (exact absurd h (by simp [plainIxB]))
theorem isiT_facts {t : String} (h : isiT t = true) : t ∈ ["int", "bool", "tuple", "str", "list"] ∧ bootBuiltins (Str.ofString t) = some (.type t) ∧ Str.ofString t ≠ "__name__" ∧ (Str.ofString t == ("__debug__" : Str)) = false := by
  unfold isiT at h
  simp only [decide_eq_true_eq] at h
  refine ⟨h, ?_⟩
  simp only [List.mem_cons, List.not_mem_nil, or_false] at h
  rcases h with rfl | rfl | rfl | rfl | rfl
  · exact ⟨by rfl, by decide, by decide⟩
  · exact ⟨by rfl, by decide, by decide⟩
  · exact ⟨by rfl, by decide, by decide⟩
  · exact ⟨by rfl, by decide, by decide⟩
  · exact ⟨by rfl, by decide, by decide⟩
end Ev
set_option Elab.async false
set_option linter.all false
set_option maxRecDepth 100000
set_option maxHeartbeats 4000000
/-! Ev16: every word does what the big step function says. -/
namespace Ev
open PySem PySem.Spec PyProof.Rows L2

theorem meth_facts {X : Cx} {Z : Se} (hK : X.K = Z.G.K) (hu : X.A.units + 65 < cLine) : ∀ {m : Mt}, mtB m = true → ∃ id, Slot "list" m.name id ∧ typeOf (.builtin id) = pure (.type "method_descriptor") ∧ MtR X id (rM Z m)
  | .append, _ => ⟨"list.append", F.slot_list_append, F.type_list_append, mtr_append⟩
  | .index, _ => ⟨"list.index", F.slot_list_index, F.type_list_index, mtr_index hK hu⟩
  | .extend, _ => ⟨"list.extend", F.slot_list_extend, F.type_list_extend, mtr_extend⟩
  | .count, _ => ⟨"list.count", F.slot_list_count, F.type_list_count, mtr_count hK hu⟩
  | .get, h => by cases h
  | .items, h => by cases h
  | .values, h => by cases h
  | .join, h => by cases h
  | .upper, h => by cases h
theorem callr_bi {X : Cx} {Z : Se} {κ : Kap} {c : Cs} {k : Nat} (x : SX Z κ X c k) (b : Bi) (hb : (b.here || b.isRepr) = true) (hh : (b.isRepr || !c.hot) = true) : CallR X b.val (rL Z (bltD b)) := by
  have hu : X.A.units + 64 < cLine := by have := x.un; omega
  by_cases hc : c.hot = true
  · rw [hc] at hh
    cases b with
    | repr => exact callr_repr x.K hu x.gd
    | _ => cases hh
  · exact callr_any x.K (x.calm (by simpa using hc)) hu x.gd b hb
theorem okEs_nil {c : Cs} {es : Es} (h : okEs c es [] = true) : es = .nil := by
  cases es with
  | nil => rfl
  | cons e r => unfold okEs at h; cases h
  | star e r => unfold okEs at h; cases h
theorem evEs_nil {c : Cs} {κ : Kap} {es : Es} {l : List Expr} (h : okEs c es l = true) : l = [] → (fun σ S => evEs κ σ es S) = fun _ S => .ok [] S := fun e => by
  subst e
  rw [okEs_nil h]
  funext σ S
  simp only [evEs]
theorem R.bind_congr_ok {α β : Type} (r : R α) {f g : α → Store → R β} (h : ∀ a S, r = .ok a S → f a S = g a S) : r.bind f = r.bind g := by
  cases r with
  | ok a S => exact h a S rfl
  | ex c l S => rfl
  | bad => rfl
theorem evEs_len {c : Cs} {κ : Kap} {σ : List D} : ∀ {es : Es} {l : List Expr} {S S' : Store} {ds : List D}, okEs c es l = true → l.all plainE = true → evEs κ σ es S = .ok ds S' → ds.length = l.length
  | .nil, l, S, S', ds, h, _, e => by
    unfold okEs at h
    simp only [evEs] at e
    cases l with
    | nil => cases e; rfl
    | cons _ _ => cases h
  | .cons e r, l, S, S', ds, h, hp, ev => by
    unfold okEs at h
    cases l with
    | nil => cases h
    | cons x xs =>
      simp only [Bool.and_eq_true] at h
      rw [List.all_cons, Bool.and_eq_true] at hp
      simp only [evEs] at ev
      cases e1 : evE κ σ false e S with
      | bad => rw [e1] at ev; cases ev
      | ex _ _ _ => rw [e1] at ev; cases ev
      | ok d S1 =>
        rw [e1, R.ok_bind] at ev
        cases e2 : evEs κ σ r S1 with
        | bad => rw [e2] at ev; cases ev
        | ex _ _ _ => rw [e2] at ev; cases ev
        | ok ds2 S2 =>
          rw [e2, R.ok_bind] at ev
          cases ev
          simp [evEs_len h.2 hp.2 e2]
  | .star e r, l, S, S', ds, h, hp, ev => by
    unfold okEs at h
    split at h
    · rw [List.all_cons, Bool.and_eq_true] at hp
      exact absurd hp.1 (by simp [plainE])
    · cases h
theorem len1 {α : Type} {l : List α} (h : l.length = 1) : ∃ a, l = [a] := by
  match l, h with
  | [a], _ => exact ⟨a, rfl⟩
theorem len3 {α : Type} {l : List α} (h : l.length = 3) : ∃ a b c, l = [a, b, c] := by
  match l, h with
  | [a, b, c], _ => exact ⟨a, b, c, rfl⟩
theorem len2 {α : Type} {l : List α} (h : l.length = 2) : ∃ a b, l = [a, b] := by
  match l, h with
  | [a, b], _ => exact ⟨a, b, rfl⟩
theorem pts_of {X : Cx} {e : Expr} {t : TT} (h : PT X e t) : PTs X [e] t := pts_one h
theorem imp_PTs {X : Cx} {l : List Expr} {t t' : TT} (h : PTs X l t) (k : ∀ σ H Q, t' σ H Q → t σ H Q) : PTs X l t' := ⟨fun pins s σ H Q I q => h.run pins s σ H Q I (k _ _ _ q)⟩
theorem PTs_none {Z : Se} {X : Cx} {κ : Kap} : PTs X [] (tvB Z fun σ S => evC κ σ .no S) := imp_PTs pts_nil fun σ H Q q => by
  obtain ⟨ρ, σ, S, r, s, q⟩ := q
  simp only [evC] at q
  exact Pst.ok (rel := relE) q s rfl
theorem nb {α : Prop} : α → α := id
mutual
theorem sE : ∀ (f : E) {Z : Se} {κ : Kap} {X : Cx} {c : Cs} {k : Nat}, SX Z κ X c k → ∀ ast : Expr, okE c f ast = true → SayE κ Z X f ast
  | .bad, Z, κ, X, c, k, x, ast, h => by
    refine ⟨⟨fun pins s σ H Q I q => ?_⟩, ⟨fun pins s σ H Q I q => ?_⟩, fun _ _ _ _ => ⟨fun w pins s σ H Q I q => ?_⟩⟩
    · obtain ⟨ρ, σ, S, _, _, q⟩ := q
      simp only [evE] at q
      exact q.elim
    · obtain ⟨ρ, σ, S, _, _, q⟩ := q
      simp only [evE, toB_bad] at q
      exact q.elim
    · obtain ⟨ρ, σ, S, _, _, q⟩ := q
      simp only [evE, toB_bad] at q
      exact q.elim
  | .var i, Z, κ, X, c, k, x, ast, h => by
    unfold okE at h
    split at h
    · simp only [Bool.and_eq_true, decide_eq_true_eq] at h
      obtain ⟨hv, hd, hcd⟩ := visB_vis h.2
      refine both (p_var (by rw [x.N]; exact h.1) (by rw [x.sc]; exact hv) hd hcd) x.K (by intro _; rfl) ?_ (by intro _ _ _ z; cases z)
      intro σ S
      simp only [evE]
      split <;> simp
    · cases h
  | .cint i, Z, κ, X, c, k, x, ast, h => by
    unfold okE at h
    split at h
    · simp only [decide_eq_true_eq] at h
      subst h
      refine both ?_ x.K (by intro _; rfl) ?_ (by intro _ _ _ z; cases z)
      · simp only [evE, fin_false]
        exact p_const pe_int fun _ _ => .int _
      · intro σ S
        simp only [evE, fin_false]
    · cases h
  | .cstr t, Z, κ, X, c, k, x, ast, h => by
    unfold okE at h
    split at h
    · simp only [decide_eq_true_eq] at h
      subst h
      refine both ?_ x.K (by intro _; rfl) ?_ (by intro _ _ _ z; cases z)
      · simp only [evE, fin_false]
        exact p_const pe_str fun _ _ => .str _
      · intro σ S
        simp only [evE, fin_false]
    · cases h
  | .cbl b, Z, κ, X, c, k, x, ast, h => by
    unfold okE at h
    split at h
    · simp only [beq_iff_eq] at h
      subst h
      refine both ?_ x.K (by intro _; rfl) ?_ (by intro _ _ _ z; cases z)
      · simp only [evE]
        exact p_const pe_bl fun _ _ => .bl _
      · intro σ S
        simp only [evE, fin_bl]
    · cases h
  | .cnon, Z, κ, X, c, k, x, ast, h => by
    unfold okE at h
    split at h
    · refine both ?_ x.K (by intro _; rfl) ?_ (by intro _ _ _ z; cases z)
      · simp only [evE, fin_false]
        exact p_const pe_non fun _ _ => .non
      · intro σ S
        simp only [evE, fin_false]
    · cases h
  | .glb y, Z, κ, X, c, k, x, ast, h => by
    unfold okE at h
    split at h
    · simp only [Bool.and_eq_true, decide_eq_true_eq] at h
      obtain ⟨h1, h2⟩ := h
      subst h1
      obtain ⟨hg, hd⟩ := glB_gl x.sc h2
      refine both ⟨fun pins s σ H Q I q => ?_⟩ x.K (by intro _; rfl) ?_ (by intro _ _ _ z; cases z)
      · obtain ⟨ρ, σ', S, r, sr, q⟩ := q
        simp only [evE, fin_false] at q
        obtain ⟨d, hd2, q⟩ := Pst.orBad q
        obtain ⟨u, v, hm, rv, rd⟩ := x.fns.glob y d hd2
        exact ld_glob I hg (by rw [x.mg]; exact hm) ⟨v, H, I, rv, Pst.ok (rel := relD Z) q sr (rd H ρ).any⟩ hd
      · intro σ S
        simp only [evE, fin_false, fin_orBad]
    · cases h
  | .tup es, Z, κ, X, c, k, x, ast, h => by
    unfold okE at h
    split at h
    · refine both ?_ x.K (by intro _; rfl) ?_ (by intro _ _ _ z; cases z)
      · simp only [evE, fin_false]
        exact p_tup (sEs es x _ h).1
      · intro σ S
        simp only [evE, fin_false, fin_bind, fin_when]
    · cases h
  | .lst es, Z, κ, X, c, k, x, ast, h => by
    unfold okE at h
    split at h
    · refine both ?_ x.K (by intro _; rfl) ?_ (by intro _ _ _ z; cases z)
      · simp only [evE, fin_false]
        exact p_lst (sEs es x _ h).1
      · intro σ S
        simp only [evE, fin_false, fin_bind]
    · cases h
  | .bin o a b, Z, κ, X, c, k, x, ast, h => by
    unfold okE at h
    split at h
    · simp only [Bool.and_eq_true, decide_eq_true_eq] at h
      obtain ⟨⟨h0, h1⟩, h2⟩ := h
      subst h0
      refine both ?_ x.K (by intro _; rfl) ?_ (by intro _ _ _ z; cases z)
      · simp only [evE, fin_false]
        exact p_bin x.K o (sE a x _ h1).1 (sE b x _ h2).1
      · intro σ S
        simp only [evE, fin_false, fin_bind]
    · cases h
  | .neg a, Z, κ, X, c, k, x, ast, h => by
    unfold okE at h
    split at h
    · refine both ?_ x.K (by intro _; rfl) ?_ (by intro _ _ _ z; cases z)
      · simp only [evE, fin_false]
        exact p_neg (sE a x _ h).1
      · intro σ S
        simp only [evE, fin_false, fin_bind]
        refine congrArg toB (R.bind_congr _ fun d S => ?_)
        cases d <;> rfl
    · cases h
  | .cmp o a b, Z, κ, X, c, k, x, ast, h => by
    unfold okE at h
    split at h
    · simp only [Bool.and_eq_true, decide_eq_true_eq, Bool.not_eq_true'] at h
      obtain ⟨⟨⟨h0, hm⟩, h1⟩, h2⟩ := h
      subst h0
      refine ⟨?_, ?_, by intro _ _ _ z; cases z⟩
      · simp only [evE]
        exact p_cmp x.K (by have := x.un; omega) o hm (sE a x _ h1).1 (sE b x _ h2).1
      · simp only [evE]
        exact t_cmp x.K (by have := x.un; omega) o hm (sE a x _ h1).1 (sE b x _ h2).1
    · cases h
  | .cmp2 o p a b d, Z, κ, X, c, k, x, ast, h => by
    unfold okE at h
    split at h
    · simp only [Bool.and_eq_true, decide_eq_true_eq, Bool.not_eq_true'] at h
      obtain ⟨⟨⟨⟨⟨h0, h00⟩, hm⟩, h1⟩, h2⟩, h3⟩ := h
      subst h0 h00
      refine ⟨?_, ?_, by intro _ _ _ z; cases z⟩
      · simp only [evE]
        exact p_cmp2 x.K (by have := x.un; omega) o p hm (sE a x _ h1).1 (sE b x _ h2).1 (sE d x _ h3).1
      · simp only [evE]
        exact t_cmp2 x.K (by have := x.un; omega) o p hm (sE a x _ h1).1 (sE b x _ h2).1 (sE d x _ h3).1
    · cases h
  | .and a b, Z, κ, X, c, k, x, ast, h => by
    have ev : ∀ m, (fun σ S => evE κ σ m (.and a b) S) = fun σ S => (toB (evE κ σ m a S)).bind fun t S => match t with | true => evE κ σ m b S | false => .ok (.bl false) S := fun m => by
      funext σ S; simp only [evE] <;> rfl
    have ev2 : (fun σ S => toB (evE κ σ true (.and a b) S)) = fun σ S => (toB (evE κ σ true a S)).bind fun t S => match t with | true => toB (evE κ σ true b S) | false => .ok false S := by
      funext σ S
      simp only [evE, toB_bind]
      refine R.bind_congr _ fun t S => ?_
      cases t <;> rfl
    unfold okE at h
    split at h
    · simp only [Bool.and_eq_true] at h
      obtain ⟨a1, a2, _⟩ := sE a x _ h.1
      obtain ⟨b1, b2, _⟩ := sE b x _ h.2
      refine ⟨?_, ?_, fun _ _ _ _ => ?_⟩
      · rw [ev]; exact p_and a1 (pe_one b1)
      · rw [ev2]; exact (t_and a2 (pw_and1 b2)).pt
      · rw [ev2]; exact t_and a2 (pw_and1 b2)
    · simp only [Bool.and_eq_true] at h
      obtain ⟨a1, a2, _⟩ := sE a x _ h.1
      obtain ⟨b1, b2, b3⟩ := sE b x _ h.2
      refine ⟨?_, ?_, fun _ _ _ _ => ?_⟩
      · rw [ev]; exact p_and a1 b1
      · rw [ev2]; exact (t_and a2 (b3 _ _ _ rfl)).pt
      · rw [ev2]; exact t_and a2 (b3 _ _ _ rfl)
    · cases h
  | .or a b, Z, κ, X, c, k, x, ast, h => by
    have ev : ∀ m, (fun σ S => evE κ σ m (.or a b) S) = fun σ S => (toB (evE κ σ m a S)).bind fun t S => match t with | true => .ok (.bl true) S | false => evE κ σ m b S := fun m => by
      funext σ S; simp only [evE] <;> rfl
    have ev2 : (fun σ S => toB (evE κ σ true (.or a b) S)) = fun σ S => (toB (evE κ σ true a S)).bind fun t S => match t with | true => .ok true S | false => toB (evE κ σ true b S) := by
      funext σ S
      simp only [evE, toB_bind]
      refine R.bind_congr _ fun t S => ?_
      cases t <;> rfl
    unfold okE at h
    split at h
    · simp only [Bool.and_eq_true] at h
      obtain ⟨a1, a2, _⟩ := sE a x _ h.1
      obtain ⟨b1, b2, _⟩ := sE b x _ h.2
      refine ⟨?_, ?_, fun _ _ _ _ => ?_⟩
      · rw [ev]; exact p_or a1 (pe_one b1)
      · rw [ev2]; exact (t_or a2 (pw_or1 b2)).pt
      · rw [ev2]; exact t_or a2 (pw_or1 b2)
    · simp only [Bool.and_eq_true] at h
      obtain ⟨a1, a2, _⟩ := sE a x _ h.1
      obtain ⟨b1, b2, b3⟩ := sE b x _ h.2
      refine ⟨?_, ?_, fun _ _ _ _ => ?_⟩
      · rw [ev]; exact p_or a1 b1
      · rw [ev2]; exact (t_or a2 (b3 _ _ _ rfl)).pt
      · rw [ev2]; exact t_or a2 (b3 _ _ _ rfl)
    · cases h
  | .not a, Z, κ, X, c, k, x, ast, h => by
    unfold okE at h
    split at h
    · obtain ⟨a1, a2, _⟩ := sE a x _ h
      refine ⟨?_, ?_, by intro _ _ _ z; cases z⟩
      · simp only [evE]
        exact p_not a1
      · have e : (fun σ S => toB (evE κ σ true (.not a) S)) = fun σ S => (toB (evE κ σ true a S)).bind fun t S => .ok (!t) S := by
          funext σ S
          simp only [evE, toB_bind, toB_bl]
        rw [e]
        exact t_not a2
    · cases h
  | .ifx d a b, Z, κ, X, c, k, x, ast, h => by
    unfold okE at h
    split at h
    · simp only [Bool.and_eq_true] at h
      obtain ⟨d1, d2, _⟩ := sE d x _ h.1.1
      obtain ⟨a1, a2, _⟩ := sE a x _ h.1.2
      obtain ⟨b1, b2, _⟩ := sE b x _ h.2
      refine ⟨?_, ?_, by intro _ _ _ z; cases z⟩
      · have e : (fun σ S => evE κ σ false (.ifx d a b) S) = fun σ S => (toB (evE κ σ true d S)).bind fun t S => match t with | true => evE κ σ false a S | false => evE κ σ false b S := by
          funext σ S; simp only [evE] <;> rfl
        rw [e]
        exact p_ifx d2 a1 b1
      · have e : (fun σ S => toB (evE κ σ true (.ifx d a b) S)) = fun σ S => (toB (evE κ σ true d S)).bind fun t S => match t with | true => toB (evE κ σ true a S) | false => toB (evE κ σ true b S) := by
          funext σ S
          simp only [evE, toB_bind]
          refine R.bind_congr _ fun t S => ?_
          cases t <;> rfl
        rw [e]
        exact t_ifx d2 a2 b2
    · cases h
  | .call y es ks, Z, κ, X, c, k, x, ast, h => by
    unfold okE at h
    split at h
    · simp only [Bool.and_eq_true, decide_eq_true_eq] at h
      obtain ⟨⟨⟨⟨⟨⟨h1, h2⟩, h3⟩, h4⟩, h5⟩, h6⟩, hh⟩ := h
      rw [Bool.not_eq_true'] at hh
      subst h1
      obtain ⟨hg, hd⟩ := glB_gl x.sc h3
      obtain ⟨ns, hn, hk⟩ := sKs ks x _ h6
      refine both ?_ x.K (by intro _; rfl) ?_ (by intro _ _ _ z; cases z)
      · simp only [evE, fin_false]
        exact p_call x hh h2 hg hd h4 (sEs es x _ h5).1 (evEs_nil h5) hk hn
      · intro σ S
        simp only [evE, fin_false, fin_bind]
    · cases h
  | .callv i es ks, Z, κ, X, c, k, x, ast, h => by
    unfold okE at h
    split at h
    · simp only [Bool.and_eq_true, decide_eq_true_eq] at h
      obtain ⟨⟨⟨⟨⟨h1, h3⟩, h4⟩, h5⟩, h6⟩, hh⟩ := h
      rw [Bool.not_eq_true'] at hh
      obtain ⟨hv, hd, hcd⟩ := visB_vis h3
      obtain ⟨ns, hn, hk⟩ := sKs ks x _ h6
      refine both ?_ x.K (by intro _; rfl) ?_ (by intro _ _ _ z; cases z)
      · refine p_callv x hh (by rw [x.N]; exact h1) (by rw [x.sc]; exact hv) hd hcd h4 (sEs es x _ h5).1 (evEs_nil h5) hk hn _ (fun σ S y e => ?_) (fun σ S j σ' e => ?_) (fun σ S e1 e2 => ?_)
        · simp only [evE, e, fin_false]
        · simp only [evE, e]
          cases ks with
          | nil =>
            right
            unfold okKs at h6
            exact ⟨by simpa using h6, by first | rfl | simp only [fin_false]⟩
          | cons y e r => left; rfl
        · simp only [evE]
      · intro σ S
        simp only [evE]
        cases σ[i]? with
        | none => rfl
        | some d =>
          cases d
          case fn y => simp only [fin_false, fin_bind]
          case clo j σ' => cases ks <;> simp only [fin_false, fin_bind, fin_bad]
          all_goals simp only [fin_bad]
    · cases h
  | .bi b es, Z, κ, X, c, k, x, ast, h => by
    unfold okE at h
    split at h
    · simp only [Bool.and_eq_true, decide_eq_true_eq] at h
      obtain ⟨⟨⟨⟨⟨⟨⟨h1, h2⟩, h3⟩, h4⟩, h5⟩, h6⟩, h7⟩, hh⟩ := h
      subst h2
      obtain ⟨hg, hd⟩ := glB_gl x.sc h3
      refine both ?_ x.K (by intro _; rfl) ?_ (by intro _ _ _ z; cases z)
      · simp only [evE, fin_false]
        exact p_bi b (callr_bi x b h1 hh) hg (x.bs _ h4) h5 h6 (sEs es x _ h7).1
      · intro σ S
        simp only [evE, fin_false, fin_bind]
    · cases h
  | .isi a ts, Z, κ, X, c, k, x, ast, h => by
    unfold okE at h
    split at h
    · split at h
      · simp only [Bool.and_eq_true, decide_eq_true_eq] at h
        obtain ⟨⟨⟨⟨⟨⟨⟨⟨h1, h2⟩, h3⟩, h4⟩, h5⟩, h6⟩, h7⟩, h8⟩, h9⟩ := h
        subst h2 h3
        obtain ⟨hg, hd⟩ := glB_gl x.sc h4
        obtain ⟨hg2, hd2⟩ := glB_gl x.sc h5
        obtain ⟨f1, f2, f3, f4⟩ := isiT_facts h1
        refine both ?_ x.K (by intro _; rfl) ?_ (by intro _ _ _ z; cases z)
        · simp only [evE]
          exact p_isi x.K f1 f2 f3 f4 hg (x.bs _ h6) hg2 (x.bs _ h7) h8 (sE a x _ h9).1
        · intro σ S
          simp only [evE, fin_bind, fin_orBad, fin_when, fin_bl]
      · cases h
    · cases h
  | .meth m o es, Z, κ, X, c, k, x, ast, h => by
    unfold okE at h
    split at h
    · simp only [Bool.and_eq_true, decide_eq_true_eq] at h
      obtain ⟨⟨⟨⟨⟨h1, h2⟩, h3⟩, h4⟩, h5⟩, h6⟩ := h
      subst h2
      obtain ⟨id, f1, f2, f3⟩ := meth_facts (Z := Z) x.K (by have := x.un; omega) h1
      refine both ?_ x.K (by intro _; rfl) ?_ (by intro _ _ _ z; cases z)
      · simp only [evE, fin_false]
        exact p_meth f1 f2 f3 h3 (sE o x _ h5).1 (sEs es x _ h6).1 (by rfl) h4
      · intro σ S
        simp only [evE, fin_false, fin_bind, fin_when]
    · cases h
  | .isx i w, Z, κ, X, c, k, x, ast, h => by
    unfold okE at h
    split at h
    · simp only [Bool.and_eq_true, decide_eq_true_eq] at h
      obtain ⟨⟨⟨⟨⟨⟨h1, h2⟩, h3⟩, h4⟩, h5⟩, h6⟩, h7⟩ := h
      subst h1 h2
      obtain ⟨hg, _⟩ := glB_gl x.sc h3
      obtain ⟨hg2, hd2⟩ := glB_gl x.sc h4
      obtain ⟨hv, hd, hcd⟩ := visB_vis h7
      have e0 : ∀ m, (fun σ S => evE κ σ m (.isx i w) S) = fun (σ : List D) S => match σ[i]? with
          | some (.exn cn _) => orBad (κ.isx cn w) fun b => .ok (.bl b) S
          | _ => .bad := fun m => by
        funext σ S
        simp only [evE] <;> rfl
      refine both ?_ x.K (by intro _; rfl) ?_ (by intro _ _ _ z; cases z)
      · rw [e0]
        exact p_isx x (by rw [x.N]; exact h6) (by rw [x.sc]; exact hv) hd hcd hg (x.bs _ h5) hg2 hd2
      · intro σ S
        have e1 := congrFun (congrFun (e0 true) σ) S
        have e2 := congrFun (congrFun (e0 false) σ) S
        rw [e1, e2]
        cases σ[i]? with
        | none => rfl
        | some d => cases d <;> simp
    · cases h
  | .fld o f, Z, κ, X, c, k, x, ast, h => by
    unfold okE at h
    split at h
    · simp only [Bool.and_eq_true, decide_eq_true_eq] at h
      obtain ⟨h1, h2⟩ := h
      subst h1
      have e0 : (fun σ S => evE κ σ false (.fld o f) S) = fun σ S => (evE κ σ false o S).bind fun v S => match v with
          | .exn cn l => orBad (κ.efld cn l f) fun d => .ok d S
          | _ => .bad := by
        funext σ S
        simp only [evE, fin_false] <;> rfl
      refine both ?_ x.K (by intro _; rfl) ?_ (by intro _ _ _ z; cases z)
      · rw [e0]
        exact p_fld x (sE o x _ h2).1 (by rfl)
      · intro σ S
        simp only [evE, fin_false, fin_bind]
        refine congrArg toB (R.bind_congr _ fun d S => ?_)
        cases d <;> simp
    · cases h
  | .sub a b, Z, κ, X, c, k, x, ast, h => by
    unfold okE at h
    split at h
    · simp only [Bool.and_eq_true] at h
      refine both ?_ x.K (by intro _; rfl) ?_ (by intro _ _ _ z; cases z)
      · simp only [evE, fin_false]
        exact p_sub x.K (plainIx_of h.1.1) (sE a x _ h.1.2).1 (sE b x _ h.2).1
      · intro σ S
        simp only [evE, fin_false, fin_bind]
    · cases h
  | .sl a lo hi, Z, κ, X, c, k, x, ast, h => by
    unfold okE at h
    split at h
    · simp only [Bool.and_eq_true] at h
      refine both ?_ x.K (by intro _; rfl) ?_ (by intro _ _ _ z; cases z)
      · simp only [evE, fin_false]
        exact p_sl x.K (sE a x _ h.1.1).1 (sEo lo x _ h.1.2) (sEo hi x _ h.2)
      · intro σ S
        simp only [evE, fin_false, fin_bind]
    · cases h
  | .slr a, Z, κ, X, c, k, x, ast, h => by
    unfold okE at h
    split at h
    · simp only [Bool.and_eq_true, decide_eq_true_eq] at h
      obtain ⟨h1, h2⟩ := h
      subst h1
      refine both ?_ x.K (by intro _; rfl) ?_ (by intro _ _ _ z; cases z)
      · simp only [evE, fin_false]
        exact p_slr x.K (sE a x _ h2).1
      · intro σ S
        simp only [evE, fin_false, fin_bind]
    · cases h
  | .lc d p it t own, Z, κ, X, c, k, x, ast, h => by
    unfold okE at h
    split at h
    · rename_i elt tg iter ifs as scope pos
      simp only [Bool.and_eq_true, decide_eq_true_eq] at h
      obtain ⟨⟨⟨⟨⟨⟨⟨⟨h1, h2⟩, h3⟩, h4⟩, h5⟩, h6⟩, h7⟩, h8⟩, hh⟩ := h
      rw [Bool.not_eq_true'] at hh
      subst h1
      have ho : (ownOf c own).map (·.2) = own := ownOf_snd c own
      refine both ?_ x.K (by intro _; rfl) ?_ (by intro _ _ _ z; cases z)
      · simp only [evE, fin_false]
        have := p_lc (own := ownOf c own) (p := p) (fi := fun σ S => evIt κ σ it S) (fc := fun σ S => evC κ σ t S) (fe := fun σ S => evE κ σ false d S) (pos := pos) (x.calm hh) x.nd (sIt it x tg iter h3) (by rw [x.N, x.sc]; exact blkOk_by h4)
          (fun s H C cl fp => by rw [ho]; exact sPw (x.blk hh s H scope C cl fp) own p tg h6 h5) (fun s H C cl fp => sIfs t (x.blk hh s H scope C cl fp) ifs h7) (fun s H C cl fp => (sE d (x.blk hh s H scope C cl fp) elt h8).1) (fsi_no h2 _)
        rw [ho] at this
        exact this
      · intro σ S
        simp only [evE, fin_false, fin_bind]
    · cases h
  | .lrng a, Z, κ, X, c, k, x, ast, h => by
    unfold okE at h
    split at h
    · simp only [Bool.and_eq_true, decide_eq_true_eq] at h
      obtain ⟨⟨⟨⟨⟨⟨⟨⟨h1, h2⟩, h3⟩, h4⟩, h5⟩, h6⟩, h7⟩, h8⟩, hh⟩ := h
      rw [Bool.not_eq_true'] at hh
      subst h1 h2
      refine both ?_ x.K (by intro _; rfl) ?_ (by intro _ _ _ z; cases z)
      · simp only [evE, fin_false]
        exact p_lrng (x.calm hh) (glB_gl x.sc h3).1 (x.bs _ h5) (glB_gl x.sc h4).1 (x.bs _ h6) h7 (sE a x _ h8).1
      · intro σ S
        simp only [evE, fin_false, fin_bind]
        refine congrArg toB (R.bind_congr _ fun d S => ?_)
        cases d <;> first | rfl | (simp only [fin_when])
    · cases h
  | .calll y es j, Z, κ, X, c, k, x, ast, h => by
    unfold okE at h
    split at h
    · simp only [Bool.and_eq_true, decide_eq_true_eq] at h
      obtain ⟨⟨⟨⟨h1, h2⟩, h3⟩, h4⟩, h5⟩ := h
      subst h2
      split at h5
      · rename_i xs pos' ys params body scope lpos hi
        simp only [Bool.and_eq_true] at h5
        obtain ⟨⟨⟨⟨h6, h7⟩, h8⟩, h9⟩, h10⟩ := h5
        obtain ⟨hg, hd⟩ := glB_gl x.sc h4
        have hx := initOf_app hi
        subst hx
        rw [x.okl h1] at h10
        refine both ?_ x.K (by intro _; rfl) ?_ (by intro _ _ _ z; cases z)
        · simp only [evE, fin_false]
          refine p_calll x h1 h3 hg hd h6 ((sEs es x _ h8).2 h6) h10 ?_ fun y hy e => ?_
          · unfold plainArgs at h7
            simp only [Bool.and_eq_true, List.isEmpty_iff] at h7
            obtain ⟨⟨⟨⟨⟨k1, k2⟩, k3⟩, k4⟩, k5⟩, k6⟩ := h7
            cases params
            dsimp only at k5 k6
            subst k5 k6
            rfl
          · have z := List.all_eq_true.mp h9 y hy
            rw [x.sc]
            simp only [Bool.or_eq_true, Bool.not_eq_true', decide_eq_true_eq, decide_eq_false_iff_not] at z
            rcases z with (z | z) | z
            · exact absurd e z
            · exact .inl z
            · exact .inr z
        · intro σ S
          simp only [evE, fin_false, fin_bind]
      · cases h5
    · cases h
theorem sIfs : ∀ (f : Eo) {Z : Se} {κ : Kap} {X : Cx} {c : Cs} {k : Nat}, SX Z κ X c k → ∀ l : List Expr, okIfs c f l = true → PTs X l (tvB Z fun σ S => evC κ σ f S)
  | .no, Z, κ, X, c, k, x, l, h => by
    unfold okIfs at h
    cases l with
    | nil => exact PTs_none
    | cons _ _ => cases h
  | .yes e, Z, κ, X, c, k, x, l, h => by
    unfold okIfs at h
    split at h
    · simp only [evC]
      exact pts_one (sE e x _ h).2.1
    · cases h
theorem sEo : ∀ (f : Eo) {Z : Se} {κ : Kap} {X : Cx} {c : Cs} {k : Nat}, SX Z κ X c k → ∀ o : Option Expr, okEo c f o = true → PO X o (tvO Z fun σ S => evEo κ σ f S)
  | .no, Z, κ, X, c, k, x, o, h => by
    unfold okEo at h
    cases o with
    | none => simp only [evEo]; exact o_no
    | some _ => cases h
  | .yes e, Z, κ, X, c, k, x, o, h => by
    unfold okEo at h
    split at h
    · simp only [evEo]
      exact o_yes (sE e x _ h).1
    · cases h
theorem sEs : ∀ (f : Es) {Z : Se} {κ : Kap} {X : Cx} {c : Cs} {k : Nat}, SX Z κ X c k → ∀ l : List Expr, okEs c f l = true → PA X l (tvL Z fun σ S => evEs κ σ f S) ∧ (l.all plainE = true → PAL X l (tvL Z fun σ S => evEs κ σ f S))
  | .nil, Z, κ, X, c, k, x, l, h => by
    unfold okEs at h
    cases l with
    | nil => simp only [evEs]; exact ⟨a_nil, fun _ => l_nil⟩
    | cons _ _ => cases h
  | .cons e r, Z, κ, X, c, k, x, l, h => by
    unfold okEs at h
    split at h
    · simp only [Bool.and_eq_true] at h
      obtain ⟨⟨h1, h2⟩, h3⟩ := h
      obtain ⟨r1, r2⟩ := sEs r x _ h3
      obtain ⟨e1, _⟩ := sE e x _ h2
      simp only [evEs]
      exact ⟨a_cons h1 e1 r1, fun hp => l_cons h1 e1 (r2 (by rw [List.all_cons, Bool.and_eq_true] at hp; exact hp.2))⟩
    · cases h
  | .star e r, Z, κ, X, c, k, x, l, h => by
    unfold okEs at h
    split at h
    · simp only [Bool.and_eq_true] at h
      obtain ⟨h2, h3⟩ := h
      obtain ⟨r1, r2⟩ := sEs r x _ h3
      obtain ⟨e1, _⟩ := sE e x _ h2
      simp only [evEs]
      exact ⟨a_star x.K e1 r1, fun hp => by rw [List.all_cons, Bool.and_eq_true] at hp; exact absurd hp.1 (by simp [plainE])⟩
    · cases h
theorem sKs : ∀ (f : Ks) {Z : Se} {κ : Kap} {X : Cx} {c : Cs} {k : Nat}, SX Z κ X c k → ∀ l : List Keyword, okKs c f l = true → ∃ ns, kwNames l = some ns ∧ PK X l (tvK Z ns fun σ S => evKs κ σ f S)
  | .nil, Z, κ, X, c, k, x, l, h => by
    unfold okKs at h
    cases l with
    | nil => simp only [evKs]; exact ⟨[], rfl, k_nil⟩
    | cons _ _ => cases h
  | .cons y e r, Z, κ, X, c, k, x, l, h => by
    unfold okKs at h
    split at h
    · simp only [Bool.and_eq_true, decide_eq_true_eq] at h
      obtain ⟨⟨h1, h2⟩, h3⟩ := h
      subst h1
      obtain ⟨ns, hn, r1⟩ := sKs r x _ h3
      obtain ⟨e1, _⟩ := sE e x _ h2
      simp only [evKs]
      exact ⟨y :: ns, by simp only [kwNames, hn]; rfl, k_cons e1 r1⟩
    · cases h
theorem sIt : ∀ (f : It) {Z : Se} {κ : Kap} {X : Cx} {c : Cs} {k : Nat}, SX Z κ X c k → ∀ tg iter : Expr, okIt c f tg iter = true → PI X tg iter (tvI Z fun σ S => evIt κ σ f S)
  | .seq e, Z, κ, X, c, k, x, tg, iter, h => by
    unfold okIt at h
    simp only [evIt]
    exact i_seq x.K (sE e x _ h).1
  | .bi b es, Z, κ, X, c, k, x, tg, iter, h => by
    unfold okIt at h
    split at h
    · simp only [Bool.and_eq_true, decide_eq_true_eq] at h
      obtain ⟨⟨⟨⟨⟨h1, h2⟩, h3⟩, h4⟩, h5⟩, h6⟩ := h
      subst h1
      obtain ⟨hg, hd⟩ := glB_gl x.sc h2
      have hbs := x.bs _ h3
      obtain ⟨r1, _⟩ := sEs es x _ h5
      simp only [evIt]
      split at h6
      · rename_i a _
        have hp : plainE a = true := by simpa using h4
        have e : (fun σ S => (evEs κ σ es S).bind fun l S => orBad (srcB .range l S) fun s => .ok s S) = fun σ S => (evEs κ σ es S).bind fun l S => match l with | [_] => orBad (srcB .range l S) fun s => .ok s S | _ => .bad := by
          funext σ S
          refine R.bind_congr_ok _ fun l S' e => ?_
          obtain ⟨d, rfl⟩ := len1 (evEs_len h5 h4 e)
          rfl
        rw [e]
        exact i_rng1 hg hbs hp r1
      · rename_i a b _
        rw [List.all_cons, Bool.and_eq_true] at h4
        have hp : plainE a = true := h4.1
        have hp2 : plainE b = true := by simpa using h4.2
        have e : (fun σ S => (evEs κ σ es S).bind fun l S => orBad (srcB .range l S) fun s => .ok s S) = fun σ S => (evEs κ σ es S).bind fun l S => match l with | [_, _] => orBad (srcB .range l S) fun s => .ok s S | _ => .bad := by
          funext σ S
          refine R.bind_congr_ok _ fun l S' e => ?_
          obtain ⟨d, d2, rfl⟩ := len2 (evEs_len h5 (by rw [List.all_cons, Bool.and_eq_true]; exact h4) e)
          rfl
        rw [e]
        exact i_rng2 hg hbs hp hp2 r1
      · rename_i a b d _
        rw [List.all_cons, List.all_cons, Bool.and_eq_true, Bool.and_eq_true] at h4
        have hp : plainE a = true := h4.1
        have hp2 : plainE b = true := h4.2.1
        have hp3 : plainE d = true := by simpa using h4.2.2
        have e : (fun σ S => (evEs κ σ es S).bind fun l S => orBad (srcB .range l S) fun s => .ok s S) = fun σ S => (evEs κ σ es S).bind fun l S => match l with | [_, _, _] => orBad (srcB .range l S) fun s => .ok s S | _ => .bad := by
          funext σ S
          refine R.bind_congr_ok _ fun l S' e => ?_
          obtain ⟨d, d2, d3, rfl⟩ := len3 (evEs_len h5 (by rw [List.all_cons, List.all_cons, Bool.and_eq_true, Bool.and_eq_true]; exact h4) e)
          rfl
        rw [e]
        exact i_rng3 hg hbs hp hp2 hp3 r1
      · rename_i a b _
        rw [List.all_cons, Bool.and_eq_true] at h4
        have hp : plainE a = true := h4.1
        have hp2 : plainE b = true := by simpa using h4.2
        have e : (fun σ S => (evEs κ σ es S).bind fun l S => orBad (srcB .zip l S) fun s => .ok s S) = fun σ S => (evEs κ σ es S).bind fun l S => match l with | [_, _] => orBad (srcB .zip l S) fun s => .ok s S | _ => .bad := by
          funext σ S
          refine R.bind_congr_ok _ fun l S' e => ?_
          obtain ⟨d, d2, rfl⟩ := len2 (evEs_len h5 (by rw [List.all_cons, Bool.and_eq_true]; exact h4) e)
          rfl
        rw [e]
        unfold isTupB at h6
        split at h6
        · exact i_zip x.K hg hbs hp hp2 r1
        · cases h6
      · rename_i a _
        have hp : plainE a = true := by simpa using h4
        have e : (fun σ S => (evEs κ σ es S).bind fun l S => orBad (srcB .enumerate l S) fun s => .ok s S) = fun σ S => (evEs κ σ es S).bind fun l S => match l with | [_] => orBad (srcB .enumerate l S) fun s => .ok s S | _ => .bad := by
          funext σ S
          refine R.bind_congr_ok _ fun l S' e => ?_
          obtain ⟨d, rfl⟩ := len1 (evEs_len h5 h4 e)
          rfl
        rw [e]
        unfold isTupB at h6
        split at h6
        · exact i_enum x.K hg hbs hp r1
        · cases h6
      · cases h6
    · cases h
end
end Ev
set_option Elab.async false
set_option linter.all false
set_option maxRecDepth 100000
set_option maxHeartbeats 4000000
/-! Ev17: every statement does what the big step function says. -/
namespace Ev
open PySem PySem.Spec PyProof.Rows L2

section
variable {Z : Se} {X : Cx} {κ : Kap} {c : Cs} {k : Nat}
mutual
theorem sT (x : SX Z κ X c k) : ∀ (t : Tg) (tg : Expr), okT c t tg = true → PG X tg (tvT Z (Tg.put κ t))
  | .v i, tg, h => by
    unfold okT at h
    split at h
    · simp only [Bool.and_eq_true, decide_eq_true_eq] at h
      obtain ⟨h1, h2⟩ := locB_loc h.2
      have e : Tg.put κ (.v i) = fun d σ S => .nx (σ.set i d) S := by funext d σ S; simp only [Tg.put]
      rw [e]
      exact t_name x.nd (by rw [x.N]; exact h.1) (by rw [x.sc]; exact h1) (h2.imp (x.fn _) (by rw [x.sc]; exact id))
    · cases h
  | .ix o i, tg, h => by
    unfold okT at h
    split at h
    · rename_i a b pos
      simp only [Bool.and_eq_true] at h
      have e : Tg.put κ (.ix o i) = fun d σ S => (evE κ σ false o S).fl σ fun x S => (evE κ σ false i S).fl σ fun y S => match x, y with
        | .ref n, .int k => match lstOf S n with
          | some l => match ixD l.length k with
            | some j => if D.flat d then .nx σ (S.set n (.lst (l.set j d))) else .bad
            | none => .bad
          | none => .bad
        | _, _ => .bad := by funext d σ S; simp only [Tg.put] <;> rfl
      rw [e]
      refine t_ix (sE o x _ h.1.2).1 (sE i x _ h.2).1 fun v => ?_
      cases b <;> first | rfl | (exact absurd h.1.1 (by simp [plainIxB]))
    · cases h
  | .tp l, tg, h => by
    unfold okT at h
    split at h
    · rw [Bool.and_eq_true, Bool.not_eq_true'] at h
      obtain ⟨hh, h⟩ := h
      obtain ⟨h1, h2, h3⟩ := sTs x l _ h
      have e : Tg.put κ (.tp l) = fun d σ S => match d with | .tup ds => (if ds.length = l.length then Tg.puts κ l ds σ S else .bad) | _ => .bad := by funext d σ S; cases d <;> simp only [Tg.put]
      rw [e]
      refine t_tp (g := fun ds σ S => if ds.length = l.length then Tg.puts κ l ds σ S else .bad) (n := l.length) x.K (x.calm hh) ?_ (fun ds σ S => ?_) h2 h3
      · refine imp_PGs h1 fun v vσ H Q q => ?_
        obtain ⟨ρ, d, σ, S, D, s, r, ro, e, k⟩ := q
        refine ⟨ρ, d, σ, S, D, s, r, ro, e, ?_⟩
        dsimp only at k
        split at k
        · exact k
        · exact k.elim
      · split
        · right; assumption
        · left; rfl
    · cases h
theorem sTs (x : SX Z κ X c k) : ∀ (l : List Tg) (es : List Expr), okTs c l es = true → PGs X es (tvTs Z (Tg.puts κ l)) ∧ (assignEach es X.env).length = l.length ∧ (assignEach es X.env).findIdx? (·.1) = none
  | [], es, h => by
    unfold okTs at h
    cases es with
    | nil =>
      have e : Tg.puts κ [] = fun d σ S => match d with | [] => .nx σ S | _ => .bad := by funext d σ S; cases d <;> simp [Tg.puts]
      rw [e]
      exact ⟨t_nil, rfl, rfl⟩
    | cons _ _ => cases h
  | t :: ts, es, h => by
    unfold okTs at h
    split at h
    · simp only [Bool.and_eq_true] at h
      obtain ⟨h1, h2, h3⟩ := sTs x ts _ h.2
      have e : Tg.puts κ (t :: ts) = fun ds σ S => match ds with
        | d :: ds => (match Tg.put κ t d σ S with | .nx σ S => Tg.puts κ ts ds σ S | r => r)
        | [] => .bad := by
          funext ds σ S
          cases ds with
          | nil => simp [Tg.puts]
          | cons d r =>
            simp only [Tg.puts] <;> (cases Tg.put κ t d σ S <;> rfl)
      rw [e, assignEach_plain h.1.1]
      refine ⟨t_cons (sT x t _ h.1.2) h1 (by rw [assignEach_plain h.1.1]; rfl), by simp [h2], ?_⟩
      rw [List.findIdx?_cons]
      simp [h3]
    · cases h
end
theorem sw_not {tg v : Expr} {env : Env} (h : (isTupB tg && isTupB v) = false) (hl : ∀ ts p, tg ≠ .List ts p) : swappedStores [tg] v env = pure none := by
  cases tg <;> first | (exact absurd rfl (hl _ _)) | (cases v <;> first | rfl | (simp [isTupB] at h))
theorem okT_list {t : Tg} {ts : List Expr} {p : Pos} (h : okT c t (.List ts p) = true) : False := by
  cases t <;> (unfold okT at h; cases h)
theorem sw_fold {ts vs : List Expr} {k k2 : Nat} {p p2 : Pos} {env : Env} (h : vs.all (foldedForSure 8) = true) : swappedStores [.Tuple ts k p] (.Tuple vs k2 p2) env = pure none := by
  unfold swappedStores
  simp only [h]
  simp
theorem sw_cell {x y : Str} {px py pt pt2 : Pos} {kt k2 : Nat} {vs : List Expr} {env : Env} (h : ¬ (env.kindOf x = some .local ∧ env.kindOf y = some .local)) :
    swappedStores [.Tuple [.Name x px, .Name y py] kt pt] (.Tuple vs k2 pt2) env = pure none := by
  unfold swappedStores
  dsimp only
  split
  · rfl
  · split
    · rfl
    · by_cases hx : env.kindOf x = some .local <;> by_cases hy : env.kindOf y = some .local
      · exact absurd ⟨hx, hy⟩ h
      all_goals (simp [hx, hy, Expr.pos] <;> (repeat' split) <;> first | rfl | (intro h2; exact absurd (Nat.le_trans (Nat.le_of_eq h2.symm) (List.length_filterMap_le _ _)) (by simp)) | trace_state)
theorem assign_map {tg : Expr} (h : plainE tg = true) (env : Env) : (assignEach [tg] env).map (·.2) = [assign tg env] := by
  rw [assignEach_plain h]; rfl
theorem locN_of {i : Nat} {y : Str} (x : SX Z κ X c k) (h : locN c i y = true) : X.N[i]? = some y ∧ X.env.scope.names.lookup y = some .local := by
  unfold locN at h
  simp only [Bool.and_eq_true, decide_eq_true_eq] at h
  exact ⟨by rw [x.N]; exact h.1, by rw [x.sc]; exact h.2⟩
theorem okE_lc {e : E} {elt : Expr} {gens : List Comprehension} {scope : Scope} {p : Pos} (h : okE c e (.ListComp elt gens scope p) = true) : e = .bad ∨ ∃ d pt it t own, e = .lc d pt it t own := by
  cases e <;> first | (left; rfl) | (right; exact ⟨_, _, _, _, _, rfl⟩) | (unfold okE at h; cases h)
theorem s_asg0 (x : SX Z κ X c k) {t : Tg} {e : E} {tg v : Expr} {pos : Pos} (h1 : okE c e v = true) (h2 : okT c t tg = true) (hp : plainE tg = true) (hs : swapsWithSole [tg] v pos.line X.env = pure false) (hw : swappedStores [tg] v X.env = pure none) :
    PS X (.Assign [tg] v pos) (tvS Z fun σ S => (evE κ σ false e S).fl σ fun d S => Tg.put κ t d σ S) :=
  s_asg (sE e x v h1).1 (sT x t tg h2) hs hw (assign_map hp _)
theorem fl_bad {α : Type} {σ : List D} (f : α → Store → Fl) : (R.bad : R α).fl σ f = .bad := rfl
theorem sAsg (x : SX Z κ X c k) (hk : X.env.blockKind = .function) {t : Tg} {e : E} {tg v : Expr} {pos : Pos} (h : okAsg c t e tg v pos.line = true) :
    PS X (.Assign [tg] v pos) (tvS Z fun σ S => (evE κ σ false e S).fl σ fun d S => Tg.put κ t d σ S) := by
  unfold okAsg at h
  rw [Bool.and_eq_true] at h
  obtain ⟨h0, h⟩ := h
  split at h
  · -- name = [..]
    rename_i y px elt gens scope p
    have e0 : swapsWith (.ListComp elt gens scope p) (some (.Name y px)) pos.line X.env = pure (X.env.blockKind == .function && X.env.kindOf y == some .local && px.line == p.line && !(scope.names.any fun (n, k) => n == y && (k == .local || k == .cell))) := by rfl
    have ek : X.env.kindOf y = c.sc.names.lookup y := by
      show X.env.scope.names.lookup y = _
      rw [x.sc]
    split at h
    case isFalse hc =>
      refine s_asg0 x h0 h (by rfl) ?_ (by rfl)
      show swapsWith (.ListComp elt gens scope p) (some (.Name y px)) pos.line X.env = pure false
      rw [e0, ek]
      refine congrArg pure ?_
      simp only [Bool.and_eq_true, decide_eq_true_eq, Bool.not_eq_true'] at hc
      cases hz : (X.env.blockKind == .function && c.sc.names.lookup y == some .local && px.line == p.line && !(scope.names.any fun (n, k) => n == y && (k == .local || k == .cell))) with
      | false => rfl
      | true =>
        simp only [Bool.and_eq_true, beq_iff_eq, Bool.not_eq_true'] at hz
        exact absurd ⟨⟨hz.1.1.2, hz.1.2⟩, hz.2⟩ hc
    rename_i hcond
    simp only [Bool.and_eq_true, decide_eq_true_eq, Bool.not_eq_true'] at hcond
    obtain ⟨⟨_, h2⟩, h3⟩ := hcond
    split at h
    · rename_i i
      have h1 := h
      obtain ⟨n1, n2⟩ := locN_of x h1
      rcases okE_lc h0 with rfl | ⟨d, pt, it, tt, own, rfl⟩
      · have : (fun σ S => (evE κ σ false .bad S).fl σ fun d S => Tg.put κ (.v i) d σ S) = fun _ _ => .bad := by funext σ S; simp only [evE, R.bad_fl]
        rw [this]
        exact s_bad
      · unfold okE at h0
        split at h0
        · rename_i elt2 tg iter ifs as scope2 pos2 heq
          cases heq
          simp only [Bool.and_eq_true, decide_eq_true_eq] at h0
          obtain ⟨⟨⟨⟨⟨⟨⟨⟨k1, k2⟩, k3⟩, k4⟩, k5⟩, k6⟩, k7⟩, k8⟩, hh⟩ := h0
          rw [Bool.not_eq_true'] at hh
          subst k1
          have ho : (ownOf c own).map (·.2) = own := ownOf_snd c own
          have sw : swapsWith (.ListComp elt [⟨tg, iter, ifs, 0⟩] scope p) (some (.Name y px)) pos.line X.env = pure true := by
            have hk' : X.env.kindOf y = some .local := n2
            have e : swapsWith (.ListComp elt [⟨tg, iter, ifs, 0⟩] scope p) (some (.Name y px)) pos.line X.env = pure (X.env.blockKind == .function && X.env.kindOf y == some .local && px.line == p.line && !(scope.names.any fun (n, k) => n == y && (k == .local || k == .cell))) := by rfl
            rw [e, hk, hk', h2, h3]
            simp
          have z := s_setLc (own := ownOf c own) (p := pt) (pos' := p) (fi := fun σ S => evIt κ σ it S) (fc := fun σ S => evC κ σ tt S) (fe := fun σ S => evE κ σ false d S) (x.calm hh) x.nd n1 n2 sw (sIt it x tg iter k3) (by rw [x.N, x.sc]; exact blkOk_by k4)
            (fun s H C cl fp => by rw [ho]; exact sPw (x.blk hh s H scope C cl fp) own pt tg k6 k5) (fun s H C cl fp => sIfs tt (x.blk hh s H scope C cl fp) ifs k7) (fun s H C cl fp => (sE d (x.blk hh s H scope C cl fp) elt k8).1) (fsi_no k2 _)
          rw [ho] at z
          simp only [evE, fin_false, Tg.put]
          exact z
        · cases h0
    · cases h
  · -- a, b = ..
    rename_i y px y2 py k3 p3 a b k4 p4
    split at h
    · rename_i i j es
      split at h
      · rename_i hf
        exact s_asg0 x h0 h (by rfl) (by rfl) (sw_fold hf)
      · rename_i hf
        split at h
        · rename_i hloc
          refine s_asg0 x h0 h (by rfl) (by rfl) (sw_cell fun hh => ?_)
          have e1 : c.sc.names.lookup y = some .local := by rw [← x.sc]; exact hh.1
          have e2 : c.sc.names.lookup y2 = some .local := by rw [← x.sc]; exact hh.2
          simp [e1, e2] at hloc
        simp only [Bool.and_eq_true, decide_eq_true_eq, Bool.not_eq_true', decide_eq_false_iff_not] at h
        obtain ⟨⟨⟨⟨⟨⟨⟨⟨h1, h2⟩, h3⟩, h4⟩, h5⟩, h6⟩, h7⟩, h8⟩, hh⟩ := h
        obtain ⟨n1, n2⟩ := locN_of x h1
        obtain ⟨m1, m2⟩ := locN_of x h2
        unfold okE at h0
        have z := s_par (Z := Z) (pos := pos) (px := px) (py := py) (pt := p3) (pt2 := p4) (kt := k3) (k2 := k4) (x.calm hh) x.nd n1 m1 h3 h4 n2 m2 (sEs es x [a, b] h0).1 hk h5 h6 h7 (by simpa using hf) h8
        refine imp_PS z fun D vσ H q => ?_
        obtain ⟨ρ, σ, S, r, s, q⟩ := q
        refine ⟨ρ, σ, S, r, s, ?_⟩
        simp only [evE, fin_false] at q
        dsimp only
        cases e : evEs κ σ es S with
        | bad => rw [e] at q; exact q.elim
        | ex cn l S1 => rw [e] at q; exact q
        | ok l S1 =>
          rw [e] at q
          simp only [R.ok_bind] at q
          simp only [R.ok_fl]
          cases hz : sz l.length with
          | false => rw [hz] at q; exact q.elim
          | true =>
            rw [hz] at q
            simp only [R.when_true, R.ok_fl, Tg.put] at q
            split at q
            · rename_i hl
              obtain ⟨d1, d2, rfl⟩ := len2 (by simpa using hl)
              simp only [Tg.puts, Tg.put] at q
              exact q
            · exact q.elim
    · cases h
  · rename_i y px y2 py y3 pz k3 p3 a b d k4 p4
    split at h
    · rename_i i j m es
      split at h
      · rename_i hf
        exact s_asg0 x h0 h (by rfl) (by rfl) (sw_fold hf)
      · rename_i hf
        simp only [Bool.and_eq_true, decide_eq_true_eq, Bool.not_eq_true', decide_eq_false_iff_not] at h
        obtain ⟨⟨⟨⟨⟨⟨⟨⟨⟨⟨⟨⟨⟨⟨⟨h1, h2⟩, h3⟩, h4⟩, h5⟩, h6⟩, h7⟩, h8⟩, h9⟩, h10⟩, h11⟩, h12⟩, h13⟩, h14⟩, h15⟩, hh⟩ := h
        obtain ⟨n1, n2⟩ := locN_of x h1
        obtain ⟨m1, m2⟩ := locN_of x h2
        obtain ⟨o1, o2⟩ := locN_of x h3
        unfold okE at h0
        have z := s_par3 (Z := Z) (pos := pos) (px := px) (py := py) (pz := pz) (pt := p3) (pt2 := p4) (kt := k3) (k2 := k4) (x.calm hh) x.nd n1 m1 o1 h4 h5 h6 h7 h8 h9 n2 m2 o2 (sEs es x [a, b, d] h0).1 hk h10 h11 h12 h13 h14 (by simpa using hf) h15
        refine imp_PS z fun D vσ H q => ?_
        obtain ⟨ρ, σ, S, r, s, q⟩ := q
        refine ⟨ρ, σ, S, r, s, ?_⟩
        simp only [evE, fin_false] at q
        dsimp only
        cases e : evEs κ σ es S with
        | bad => rw [e] at q; exact q.elim
        | ex cn l S1 => rw [e] at q; exact q
        | ok l S1 =>
          rw [e] at q
          simp only [R.ok_bind] at q
          simp only [R.ok_fl]
          cases hz : sz l.length with
          | false => rw [hz] at q; exact q.elim
          | true =>
            rw [hz] at q
            simp only [R.when_true, R.ok_fl, Tg.put] at q
            split at q
            · rename_i hl
              have hl3 : l.length = 3 := by simpa using hl
              match l, hl3 with
              | [d1, d2, d3], _ =>
                simp only [Tg.puts, Tg.put] at q
                exact q
            · exact q.elim
    · cases h
  · simp only [Bool.and_eq_true, Bool.not_eq_true'] at h
    obtain ⟨⟨⟨h1, h2⟩, h3⟩, h4⟩ := h
    exact s_asg0 x h0 h4 h3 (swaps_no h1 _ _ _) (sw_not h2 fun ts p e => by subst e; exact okT_list h4)
theorem PS_fl_congr {st : Stmt} {f g : List D → Store → Fl} (h : PS X st (tvS Z f)) (e : ∀ σ S, g σ S = f σ S) : PS X st (tvS Z g) := by
  have : g = f := by funext σ S; exact e σ S
  rw [this]; exact h
/-- a class of errors of the context -/
theorem es_cls (x : SX Z κ X c k) {y : String} {m : Nat} (h : (y, m) ∈ c.es) : ∃ p C, κ.exc y = some p ∧ p.2.length = m ∧ Z.G.mg (Str.ofString y) = some (.ref C) ∧ ClsE X.prog Z.G.K Z.G.mg C p.2 ∧ Z.fl y = some p.2 := by
  obtain ⟨p, h1, h2⟩ := x.es _ h
  obtain ⟨C, h3, h4⟩ := x.fns.exc.cls y p h1
  exact ⟨p, C, h1, h2, h3, h4, by rw [x.fns.exc.fl, h1]; rfl⟩
theorem sRaise (x : SX Z κ X c k) (ec : String → Option (List String)) (hec : ∀ y, ec y = (κ.exc y).map (·.2)) (y : String) (es : Es) (st : Stmt) (h : okS c (.raise y es) st = true) : PS X st (tvS Z fun σ S => evS κ ec (.raise y es) σ S) := by
  unfold okS at h
  split at h
  · rename_i n np xs pos pos'
    simp only [Bool.and_eq_true, Bool.not_eq_true', decide_eq_true_eq] at h
    obtain ⟨⟨⟨⟨⟨hh, h1⟩, h2⟩, h3⟩, h4⟩, h5⟩ := h
    subst h1
    obtain ⟨hg, hd⟩ := glB_gl x.sc h2
    obtain ⟨p, C, k1, k2, k3, k4, k5⟩ := es_cls x h3
    have ey : ec y = some p.2 := by rw [hec, k1]; rfl
    cases xs with
    | nil =>
      have e0 : p.2 = [] := List.eq_nil_of_length_eq_zero k2
      rw [e0] at k4 k5 ey
      refine PS_fl_congr (s_raise0 x hh k3 k4 k5 hg hd) fun σ S => ?_
      rw [okEs_nil h4]
      simp [evS, evEs, ey, D.flats]
    | cons a r =>
      cases r with
      | cons _ _ => cases h5
      | nil =>
        obtain ⟨f, e0⟩ := len1 k2
        rw [e0] at k4 k5 ey
        refine PS_fl_congr (s_raise1 x hh k3 k4 k5 hg hd (sEs es x [a] h4).1 h5) fun σ S => ?_
        simp [evS, ey]
  · rename_i n np pos
    simp only [Bool.and_eq_true, Bool.not_eq_true', decide_eq_true_eq] at h
    obtain ⟨⟨⟨⟨hh, h1⟩, h2⟩, h3⟩, h4⟩ := h
    subst h1
    obtain ⟨hg, hd⟩ := glB_gl x.sc h2
    obtain ⟨p, C, k1, k2, k3, k4, k5⟩ := es_cls x h3
    have ey : ec y = some p.2 := by rw [hec, k1]; rfl
    have e0 : p.2 = [] := List.eq_nil_of_length_eq_zero k2
    rw [e0] at k4 k5 ey
    refine PS_fl_congr (s_raiseC x hh k3 k4 k5 hg hd) fun σ S => ?_
    rw [okEs_nil h4]
    simp [evS, evEs, ey, D.flats]
  · cases h
end
mutual
theorem sS : ∀ (f : Sm) {Z : Se} {X : Cx} {κ : Kap} {c : Cs} {k : Nat} (x : SX Z κ X c k) (hk : X.env.blockKind = .function) (ec : String → Option (List String)) (hec : ∀ y, ec y = (κ.exc y).map (·.2)) (st : Stmt), okS c f st = true → PS X st (tvS Z fun σ S => evS κ ec f σ S)
  | .bad, Z, X, κ, c, k, x, hk, ec, hec, st, h => by
    simp only [evS]
    exact s_bad
  | .asg t e, Z, X, κ, c, k, x, hk, ec, hec, st, h => by
    unfold okS at h
    split at h
    · simp only [evS]
      exact sAsg x hk h
    · cases h
  | .expr e, Z, X, κ, c, k, x, hk, ec, hec, st, h => by
    unfold okS at h
    split at h
    · simp only [Bool.and_eq_true] at h
      simp only [evS]
      exact s_expr h.1 (sE e x _ h.2).1
    · cases h
  | .ret e, Z, X, κ, c, k, x, hk, ec, hec, st, h => by
    unfold okS at h
    split at h
    · simp only [evS]
      exact s_ret (sE e x _ h).1
    · cases h
  | .retn, Z, X, κ, c, k, x, hk, ec, hec, st, h => by
    unfold okS at h
    split at h
    · simp only [evS]
      exact s_retn
    · cases h
  | .pass, Z, X, κ, c, k, x, hk, ec, hec, st, h => by
    unfold okS at h
    split at h
    · simp only [evS]
      exact s_pass
    · cases h
  | .brk, Z, X, κ, c, k, x, hk, ec, hec, st, h => by
    unfold okS at h
    split at h
    · simp only [evS]
      exact s_brk
    · cases h
  | .cnt, Z, X, κ, c, k, x, hk, ec, hec, st, h => by
    unfold okS at h
    split at h
    · simp only [evS]
      exact s_cnt
    · cases h
  | .ifs d a b, Z, X, κ, c, k, x, hk, ec, hec, st, h => by
    unfold okS at h
    split at h
    · simp only [Bool.and_eq_true] at h
      have e : (fun σ S => evS κ ec (.ifs d a b) σ S) = fun σ S => (toB (evE κ σ true d S)).fl σ fun t S => match t with | true => evSs κ ec a σ S | false => evSs κ ec b σ S := by
        funext σ S; simp only [evS] <;> rfl
      rw [e]
      exact s_if (sE d x _ h.1.1).2.1 (sSs a x hk ec hec _ h.1.2) (sSs b x hk ec hec _ h.2)
    · cases h
  | .for_ p it b, Z, X, κ, c, k, x, hk, ec, hec, st, h => by
    unfold okS at h
    split at h
    · simp only [Bool.and_eq_true] at h
      obtain ⟨⟨⟨⟨h1, h2⟩, h3⟩, h4⟩, hh⟩ := h
      rw [Bool.not_eq_true'] at hh
      simp only [evS]
      exact s_for x.own (x.calm hh) (sIt it x _ _ h2) (sP x p _ h3) (sSs b x hk ec hec _ h4) (fsi_no h1 _)
    · cases h
  | .while_ d b, Z, X, κ, c, k, x, hk, ec, hec, st, h => by
    unfold okS at h
    split at h
    · simp only [Bool.and_eq_true] at h
      simp only [evS]
      exact s_while (ft := fun σ S => evE κ σ true d S) x.own (sE d x _ h.1).2.1 (sSs b x hk ec hec _ h.2)
    · cases h
  | .raise y es, Z, X, κ, c, k, x, hk, ec, hec, st, h => sRaise x ec hec y es st h
  | .tr b y i hd, Z, X, κ, c, k, x, hk, ec, hec, st, h => by
    unfold okS at h
    split at h
    · rename_i body n np nm h0 hs hpos pos
      simp only [Bool.and_eq_true, Bool.not_eq_true', decide_eq_true_eq, Option.isNone_iff_eq_none] at h
      obtain ⟨⟨⟨⟨⟨⟨⟨hh, hbl⟩, h1⟩, h2⟩, h3⟩, h4⟩, h5⟩, h6⟩ := h
      subst h1
      obtain ⟨hg, hd'⟩ := glB_gl x.sc h2
      obtain ⟨cv, hcv⟩ : ∃ cv, ClsV Z.G.mg y cv := by
        rw [Bool.or_eq_true] at h3
        rcases h3 with h3 | h3
        · obtain ⟨q, hq, e⟩ := List.any_eq_true.mp h3
          obtain ⟨q1, q2⟩ := q
          have e : q1 = y := by simpa using e
          subst e
          obtain ⟨p, C, _, _, k3, _⟩ := es_cls x hq
          exact ⟨_, .inl ⟨k3, C, rfl⟩⟩
        · rw [Bool.and_eq_true, beq_iff_eq, decide_eq_true_eq] at h3
          exact ⟨_, .inr ⟨h3.1, by rw [← x.mg]; exact x.bs _ h3.2, rfl⟩⟩
      have body_ok : ∀ (W : WX) (X' : Cx), X'.env = X.env → SX { Z with W := W } κ X' c k → PSs X' body (tvS { Z with W := W } fun σ S => evSs κ ec b σ S) := fun W X' e x' => sSs b x' (by rw [e]; exact hk) ec hec body h4
      have suite_ok : ∀ (j : ExI) (X' : Cx), X'.env = X.env → SX (Z.suite X j) κ X' c.suite k → PSs X' (h0 :: hs) (tvS (Z.suite X j) fun σ S => evSs κ ec hd σ S) := fun j X' e x' => sSs hd x' (by rw [e]; exact hk) ec hec (h0 :: hs) h5
      have ev : ∀ σ S, evS κ ec (.tr b y i hd) σ S = tryF κ y i (fun σ S => evSs κ ec hd σ S) (evSs κ ec b σ S) := fun σ S => by
        simp only [evS]
        unfold tryF
        cases evSs κ ec b σ S <;> rfl
      cases i with
      | none =>
        cases nm with
        | some _ => cases h6
        | none => exact PS_fl_congr (s_try_only x hh hbl hcv hg hd' body_ok suite_ok) ev
      | some j =>
        cases nm with
        | none => cases h6
        | some m =>
          simp only [Bool.and_eq_true, decide_eq_true_eq] at h6
          exact PS_fl_congr (s_try_as x hh hbl (by rw [x.N]; exact h6.1) (by show X.env.scope.names.lookup m = _; rw [x.sc]; exact h6.2) hcv hg hd' body_ok suite_ok) ev
    · cases h
theorem sSs : ∀ (f : Ss) {Z : Se} {X : Cx} {κ : Kap} {c : Cs} {k : Nat} (x : SX Z κ X c k) (hk : X.env.blockKind = .function) (ec : String → Option (List String)) (hec : ∀ y, ec y = (κ.exc y).map (·.2)) (l : List Stmt), okSs c f l = true → PSs X l (tvS Z fun σ S => evSs κ ec f σ S)
  | .nil, Z, X, κ, c, k, x, hk, ec, hec, l, h => by
    unfold okSs at h
    cases l with
    | nil => simp only [evSs]; exact ss_nil
    | cons _ _ => cases h
  | .cons s r, Z, X, κ, c, k, x, hk, ec, hec, l, h => by
    unfold okSs at h
    split at h
    · simp only [Bool.and_eq_true] at h
      have e : (fun σ S => evSs κ ec (.cons s r) σ S) = fun σ S => match evS κ ec s σ S with | .nx σ S => evSs κ ec r σ S | f => f := by
        funext σ S; simp only [evSs] <;> (cases evS κ ec s σ S <;> rfl)
      rw [e]
      exact ss_cons (sS s x hk ec hec _ h.1) (sSs r x hk ec hec _ h.2)
    · cases h
end
end Ev
set_option Elab.async false
set_option linter.all false
set_option maxRecDepth 100000
set_option maxHeartbeats 4000000
/-! Ev18: what a call leaves; the defs' promises. -/
namespace Ev
open PySem PySem.Spec PyProof.Rows L2

section
variable {G : GC} {H : Hp} {ρ : List Addr}
mutual
theorem Rep.under_of {d : D} {v : V} : Rep G none H ρ d v → D.under ρ.length d = true
  | .non => rfl
  | .bl b => rfl
  | .int i => rfl
  | .str s => rfl
  | .tup t r => by simpa [D.under] using Reps.under_of r
  | .rl t r => by simpa [D.under] using Reps.under_of r
  | .ref h => by simpa [D.under] using (List.getElem?_eq_some_iff.mp h).1
  | .fn h k => rfl
theorem Reps.under_of {l : List D} {vs : List V} : Reps G none H ρ l vs → D.unders ρ.length l = true
  | .nil => rfl
  | .cons h r => by simp [D.unders, Rep.under_of h, Reps.under_of r]
end
end
section
variable {G : GC} {H H' : Hp} {ρ ρ' : List Addr} {S S' : Store} {d : D} {v : V} {Q : VK} {fl : String → Option (List String)} {W : WX}
theorem old_under (s : SRep G H ρ S) (ho : oldOk S S' = true) {n : Nat} {l : List D} (hn : n < S.length) (e : S'[n]? = some (.lst l)) : D.unders S.length l = true := by
  unfold oldOk at ho
  have z := List.all_eq_true.mp ho n (List.mem_range.mpr hn)
  rw [e, List.getElem?_eq_getElem hn] at z
  simp only [Bool.or_eq_true] at z
  rcases z with z | z
  · have z := Cell.eqb_eq _ _ z
    have hp : n < ρ.length := by rw [s.len]; exact hn
    obtain ⟨vs, _, r⟩ := s.cell n l ρ[n] (by rw [List.getElem?_eq_getElem hn, z]) (List.getElem?_eq_getElem hp)
    have := r.under_of
    rw [s.len] at this
    exact this
  · simpa [Cell.under] using z
theorem take_srep (s : SRep G H ρ S) (px : PX ρ ρ') (s' : SRep G H' ρ' S') (hl : S.length ≤ S'.length) (ho : oldOk S S' = true) (ρ2 : List Addr) (hρ : ∀ (n : Nat) (a : Addr), n < S.length → ρ'[n]? = some a → ρ2[n]? = some a) :
    ∀ (n : Nat) (l : List D) (a : Addr), n < S.length → S'[n]? = some (.lst l) → ρ'[n]? = some a → ∃ vs, H' a = some (.lst vs) ∧ Reps G none H' ρ2 l vs := fun n l a hn e q => by
  obtain ⟨vs, h1, h2⟩ := s'.cell n l a e q
  exact ⟨vs, h1, h2.under hρ (old_under s ho hn e)⟩
theorem gc_ok (s : SRep G H ρ S) (ex : HX H H') (px : PX ρ ρ') (s' : SRep G H' ρ' S') (r : Rep G none H' ρ' d v) (h : PostG G fl W [] (relR G) H ρ Q (gc S d S')) : Q v H' := by
  unfold gc at h
  split at h
  · exact h v H' ρ' ex px s' r
  · rename_i hl
    have hl : S.length ≤ S'.length := by omega
    split at h
    · rename_i ho
      have hk : ∀ (n : Nat) (a : Addr), n < S.length → ρ'[n]? = some a → (ρ'.take S.length)[n]? = some a := fun n a hn e => by rw [List.getElem?_take_of_lt hn]; exact e
      have lenT : (ρ'.take S.length).length = S.length := by rw [List.length_take, s'.len]; omega
      split at h
      · rename_i hu
        refine h v H' (ρ'.take S.length) ex (fun n a e => hk n a (by rw [← s.len]; exact (List.getElem?_eq_some_iff.mp e).1) (px n a e)) ?_ (r.under hk hu)
        refine ⟨by rw [lenT, List.length_take]; omega, s'.nd.sublist (List.take_sublist _ _), fun n l a e q => ?_, s'.tabs⟩
        have hn : n < S.length := by rw [← lenT]; exact (List.getElem?_eq_some_iff.mp q).1
        rw [List.getElem?_take_of_lt hn] at e q
        exact take_srep s px s' hl ho _ hk n l a hn e q
      · rename_i hu
        have r0 := r
        cases r with
        | @ref k a hka =>
          dsimp only at h
          cases hc : S'[k]? with
          | none => rw [hc] at h; exact h (.ref a) H' ρ' ex px s' (.ref hka)
          | some c =>
            rw [hc] at h
            dsimp only at h
            split at h
            · rename_i hcu
              obtain ⟨l⟩ := c
              have hkS : ¬ k < S.length := by simpa [D.under] using hu
              have hk2 : ∀ (n : Nat) (b : Addr), n < S.length → ρ'[n]? = some b → (ρ'.take S.length ++ [a])[n]? = some b := fun n b hn e => by rw [List.getElem?_append_left (by rw [lenT]; exact hn)]; exact hk n b hn e
              have hlast : (ρ'.take S.length ++ [a])[S.length]? = some a := by rw [List.getElem?_append_right (by rw [lenT]; exact Nat.le_refl _), lenT]; simp
              refine h (.ref a) H' (ρ'.take S.length ++ [a]) ex (fun n b e => hk2 n b (by rw [← s.len]; exact (List.getElem?_eq_some_iff.mp e).1) (px n b e)) ?_ (.ref hlast)
              refine ⟨by simp only [List.length_append, lenT, List.length_take, List.length_cons, List.length_nil]; omega, ?_, fun n l2 b e q => ?_, s'.tabs⟩
              · rw [List.nodup_append]
                refine ⟨s'.nd.sublist (List.take_sublist _ _), by simp, fun x hx y hy => ?_⟩
                simp at hy; subst hy
                rintro rfl
                obtain ⟨n, hn⟩ := List.getElem?_of_mem hx
                have hn1 : n < S.length := by rw [← lenT]; exact (List.getElem?_eq_some_iff.mp hn).1
                rw [List.getElem?_take_of_lt hn1] at hn
                have i1 := List.getElem?_eq_some_iff.mp hn
                have i2 := List.getElem?_eq_some_iff.mp hka
                have := (List.getElem_inj s'.nd (h₀ := i1.1) (h₁ := i2.1)).mp (by rw [i1.2, i2.2])
                omega
              · by_cases hn : n < S.length
                · rw [List.getElem?_append_left (by rw [List.length_take]; omega)] at e
                  rw [List.getElem?_append_left (by rw [lenT]; exact hn)] at q
                  rw [List.getElem?_take_of_lt hn] at e q
                  exact take_srep s px s' hl ho _ hk2 n l2 b hn e q
                · have hn2 : n = S.length := by
                    have := (List.getElem?_eq_some_iff.mp q).1
                    simp only [List.length_append, lenT, List.length_cons, List.length_nil] at this
                    omega
                  subst hn2
                  rw [hlast] at q
                  cases q
                  rw [List.getElem?_append_right (by rw [List.length_take]; omega)] at e
                  have : S.length - (S'.take S.length).length = 0 := by rw [List.length_take]; omega
                  rw [this] at e
                  simp at e
                  subst e
                  obtain ⟨vs, h1, h2⟩ := s'.cell k _ a hc hka
                  exact ⟨vs, h1, h2.under hk2 (by simpa [Cell.under] using hcu)⟩
            · exact h (.ref a) H' ρ' ex px s' (.ref hka)
        | _ => exact h _ H' ρ' ex px s' r0
    · exact h v H' ρ' ex px s' r
end
/-! ### the defs -/
/-- what is known ahead of a def's text -/
structure DefA where
  params : Arguments
  body : List Stmt
  scope : Scope
  N : List Str
  lam : Bool
def csOf (fs : List String) (bs : List Str) (es : List (String × Nat)) (okl : Nat → LamA → Bool) (x : String) (d : DefA) : Cs :=
  { N := d.N, sc := d.scope, fs := fs, bs := bs, blk := none, qual := Str.ofString x ++ ".<locals>.", lam := d.lam, okl := okl, es := es, hot := false }
def plainPB (p : Arguments) : Bool := p.posonlyargs.isEmpty && p.kwonlyargs.isEmpty && p.vararg.isNone && p.kwarg.isNone
def okFn (fs : List String) (bs : List Str) (es : List (String × Nat)) (okl : Nat → LamA → Bool) (x : String) (d : DefA) (fn : Fn) : Bool :=
  decide (d.scope.kind = .function) && !d.scope.isCoroutine && !d.scope.isGenerator && decide d.N.Nodup && decide (d.N.take fn.ps.length = fn.ps) && fn.ps.all (fun y => decide (d.scope.names.lookup y = some .local) || decide (d.scope.names.lookup y = some .cell)) &&
    d.scope.names.all (fun y => !decide (y.2 = .free)) && plainPB d.params && decide (d.params.args.map (·.arg) = fn.ps) && decide (fn.n = d.N.length) && okSs (csOf fs bs es okl x d) fn.body d.body
def noBlk : Scope := ⟨.function, [], false, false, []⟩
def csLam (fs : List String) (bs : List Str) (L : LamA) : Cs :=
  { N := L.N, sc := L.scope, fs := fs, bs := bs, blk := some noBlk, qual := "", lam := false, okl := fun _ _ => false, es := [], hot := false }
def lamOk (fs : List String) (bs : List Str) (lm : Lm) (L : LamA) : Bool :=
  decide (L.scope.kind = .function) && !L.scope.isCoroutine && !L.scope.isGenerator && decide L.N.Nodup && plainArgs L.params && decide (lm.ps.map (fun i => L.N[i]?) = (L.params.args.map (·.arg)).map some) && decide (L.params.args.map (·.arg)).Nodup &&
    (L.params.args.map (·.arg)).all (fun y => decide (L.scope.names.lookup y = some .local)) && L.scope.names.all (fun y => !decide (y.2 = .cell) && (!decide (y.2 = .local) || decide (y.1 ∈ L.params.args.map (·.arg)))) && okE (csLam fs bs L) lm.body L.body
def oklOf (fs : List String) (bs : List Str) (lams : Nat → Option Lm) (j : Nat) (L : LamA) : Bool := match lams j with
  | some lm => lamOk fs bs lm L
  | none => false
/-- the module behind it -/
structure World1 (G : GC) (P : Program) (w : World) (base : Heap) (pr : Prog) (fs : List String) (bs : List Str) (es : List (String × Nat)) (tab : String → Option DefA) : Prop where
  fn : ∀ x fn, pr.fns x = some fn → ∃ (d : DefA) (f : Addr) (oc : Value) (od : Option Addr) (dV kV doc pm : Value) (an : Option Addr) (cdv ct : Value) (osl : Array (Option Value)) (dl : List Value) (dvs : List V),
    tab x = some d ∧ okFn fs bs es (oklOf fs bs pr.lams) x d fn = true ∧ G.mg (Str.ofString x) = some (.ref f) ∧ PySem.W.keepIn G.K (.ref f) = true ∧
    G.K.lookup f = some ⟨oc, od, .func (PySem.W.fnOf (Str.ofString x) (Str.ofString x) d.params d.body d.scope dV kV doc pm an cdv ct), osl⟩ ∧ PySem.W.codeIn G.K cdv (Str.ofString x) = true ∧ DflK G.K dV dl ∧ Vals dvs dl ∧ (∀ H ρ, Reps G none H ρ fn.dfl dvs) ∧
    (d.lam = true → ∃ a Pt, cdv = .ref a ∧ LamX.TabB base G.mg a Pt ∧ (Pt, (Str.ofString x ++ ".<locals>.") ++ "<lambda>") ∈ G.T ∧ ∀ p ∈ G.T, p.1 = Pt → p.2 = (Str.ofString x ++ ".<locals>.") ++ "<lambda>")
  hfs : ∀ x ∈ fs, ∃ f, G.mg (Str.ofString x) = some (.ref f) ∧ PySem.W.keepIn G.K (.ref f) = true
  hbs : ∀ b ∈ bs, G.mg b = none
  glob : ∀ x d, pr.glob x = some d → ∃ u v, G.mg (Str.ofString x) = some u ∧ RelV v u ∧ ∀ H ρ, Rep G none H ρ d v
  lam : ∀ j L, G.lamA j L = oklOf fs bs pr.lams j L
  es : ∀ q ∈ es, ∃ p, pr.exc q.1 = some p ∧ p.2.length = q.2
  exc : ∀ cn p, pr.exc cn = some p → ∃ C, G.mg (Str.ofString cn) = some (.ref C) ∧ ClsE P G.K G.mg C p.2
  isx : ∀ (κ : Kap), κ.exc = pr.exc → ∀ cn y b C, κ.isx cn y = some b → G.mg (Str.ofString cn) = some (.ref C) → ∃ cv, ClsV G.mg y cv ∧ PySem.W.kitOne G.K (.ref C) cv = some b ∧ PySem.W.exmOne G.K (.ref C) cv = some b
section
variable {G : GC} {P : Program} {w : World} {base : Heap} {pr : Prog} {fs : List String} {bs : List Str} {es : List (String × Nat)} {tab : String → Option DefA}
theorem World1.okl (W1 : World1 G P w base pr fs bs es tab) : oklOf fs bs pr.lams = G.lamA := by
  funext j L
  exact (W1.lam j L).symm
theorem kap_exc (pr : Prog) (n : Nat) : (kap pr n).exc = pr.exc := by cases n <;> rfl
theorem World1.excOk (W1 : World1 G P w base pr fs bs es tab) (n : Nat) : ExcOk G (fun c => (pr.exc c).map (·.2)) P (kap pr n) where
  fl := fun cn => by rw [kap_exc]
  cls := fun cn p h => W1.exc cn p (by rw [kap_exc] at h; exact h)
  isx := fun cn y b C h m => W1.isx _ (kap_exc pr n) cn y b C h m
theorem plainP_of {p : Arguments} {ps : List Str} (h : plainPB p = true) (e : p.args.map (·.arg) = ps) : PlainP p ps := by
  unfold plainPB at h
  simp only [Bool.and_eq_true, List.isEmpty_iff, Option.isNone_iff_eq_none] at h
  exact ⟨h.1.1.1, h.1.1.2, h.1.2, h.2, e⟩
theorem fnScope_of {x : String} {okl : Nat → LamA → Bool} {d : DefA} {fn : Fn} (h : okFn fs bs es okl x d fn = true) : FnScope d.N fn.ps d.scope ∧ PlainP d.params fn.ps ∧ fn.n = d.N.length ∧ okSs (csOf fs bs es okl x d) fn.body d.body = true := by
  unfold okFn at h
  simp only [Bool.and_eq_true, decide_eq_true_eq, Bool.not_eq_true'] at h
  obtain ⟨⟨⟨⟨⟨⟨⟨⟨⟨⟨h1, h2⟩, h3⟩, h4⟩, h5⟩, h6⟩, h7⟩, h8⟩, h9⟩, h10⟩, h11⟩ := h
  refine ⟨⟨h1, h2, h3, h4, h5, fun y hy => ?_, fun y hy => ?_⟩, plainP_of h8 h9, h10, h11⟩
  · have := List.all_eq_true.mp h6 y hy
    simpa using this
  · have := List.all_eq_true.mp h7 y hy
    simpa using this
end
end Ev
set_option Elab.async false
set_option linter.all false
set_option maxRecDepth 100000
set_option maxHeartbeats 4000000
/-! Ev19: every def keeps its promise, n deep. -/
namespace Ev
open PySem PySem.Spec PyProof.Rows L2

section
variable {G : GC} {cc : Option CC} {H : Hp} {ρ : List Addr}
abbrev Tr (G : GC) (cc : Option CC) (H : Hp) (ρ : List Addr) := { t : D × V × Value // Rep G cc H ρ t.1 t.2.1 ∧ RelV t.2.1 t.2.2 }
theorem tr_of : ∀ {l : List D} {vs : List V} {us : List Value}, Reps G cc H ρ l vs → Vals vs us → ∃ ts : List (Tr G cc H ρ), ts.map (·.1.1) = l ∧ ts.map (·.1.2.1) = vs ∧ ts.map (·.1.2.2) = us
  | [], [], us, _, r => by
    cases r
    exact ⟨[], rfl, rfl, rfl⟩
  | d :: l, v :: vs, us, h, r => by
    cases h with
    | cons h1 h2 => cases r with
      | @cons _ u _ us r1 r2 =>
        obtain ⟨ts, e1, e2, e3⟩ := tr_of h2 r2
        exact ⟨⟨(d, v, u), h1, r1⟩ :: ts, by simp [e1], by simp [e2], by simp [e3]⟩
  | [], _ :: _, _, h, _ => by cases h
  | _ :: _, [], _, h, _ => by cases h
theorem tr_reps : ∀ ts : List (Tr G cc H ρ), Reps G cc H ρ (ts.map (·.1.1)) (ts.map (·.1.2.1)) ∧ Vals (ts.map (·.1.2.1)) (ts.map (·.1.2.2))
  | [] => ⟨.nil, .nil⟩
  | t :: ts => ⟨.cons t.2.1 (tr_reps ts).1, .cons t.2.2 (tr_reps ts).2⟩
theorem zip_fst {α β : Type} : ∀ kw : List (α × β), (kw.map (·.1)).zip (kw.map (·.2)) = kw
  | [] => rfl
  | (a, b) :: r => by simp [zip_fst r]
theorem bind_rel {ps : List Str} {dfl l σ0 : List D} {kw : List (Str × D)} {dvs vs kvs : List V} {dl us kus : List Value} (h : bindG ps dfl l kw = some σ0) (d1 : Reps G cc H ρ dfl dvs) (d2 : Vals dvs dl) (l1 : Reps G cc H ρ l vs) (l2 : Vals vs us)
    (k1 : Reps G cc H ρ (kw.map (·.2)) kvs) (k2 : Vals kvs kus) : ∃ bvs bs, bindG ps dl us ((kw.map (·.1)).zip kus) = some bs ∧ Vals bvs bs ∧ Reps G cc H ρ σ0 bvs := by
  obtain ⟨td, a1, a2, a3⟩ := tr_of d1 d2
  obtain ⟨tl, b1, b2, b3⟩ := tr_of l1 l2
  obtain ⟨tk, c1, c2, c3⟩ := tr_of k1 k2
  have e1 : bindG ps (td.map (·.1.1)) (tl.map (·.1.1)) (((kw.map (·.1)).zip tk).map fun p => (p.1, p.2.1.1)) = some σ0 := by
    rw [a1, b1, ← zip_mapR (fun t : Tr G cc H ρ => t.1.1), c1, zip_fst]
    exact h
  rw [bindG_map] at e1
  cases e2 : bindG ps td tl ((kw.map (·.1)).zip tk) with
  | none => rw [e2] at e1; cases e1
  | some tb =>
    rw [e2] at e1
    have e1 : tb.map (·.1.1) = σ0 := Option.some.inj e1
    have e3 := bindG_map (fun t : Tr G cc H ρ => t.1.2.2) ps td tl ((kw.map (·.1)).zip tk)
    rw [e2, a3, b3, ← zip_mapR (fun t : Tr G cc H ρ => t.1.2.2), c3] at e3
    have e3 : bindG ps dl us ((kw.map (·.1)).zip kus) = some (tb.map fun t : Tr G cc H ρ => t.1.2.2) := e3
    refine ⟨tb.map (fun t : Tr G cc H ρ => t.1.2.1), _, e3, (tr_reps tb).2, ?_⟩
    rw [← e1]
    exact (tr_reps tb).1
end
theorem lookup_zip {α : Type} : ∀ {ps : List Str} {us : List α} {m : Nat} {y : Str} {u : α}, ps.Nodup → ps[m]? = some y → us[m]? = some u → (ps.zip us).lookup y = some u
  | [], _, _, _, _, _, h, _ => by simp at h
  | _ :: _, [], _, _, _, _, _, h => by simp at h
  | p :: ps, v :: us, 0, y, u, nd, h1, h2 => by
    simp at h1 h2
    subst h1 h2
    simp [List.lookup_cons]
  | p :: ps, v :: us, m + 1, y, u, nd, h1, h2 => by
    rw [List.zip_cons_cons, List.lookup_cons]
    have hy : y ∈ ps := List.mem_of_getElem? (by simpa using h1)
    have : (y == p) = false := beq_eq_false_iff_ne.mpr fun e => (List.nodup_cons.mp nd).1 (by rw [← e]; exact hy)
    rw [this]
    exact lookup_zip (List.nodup_cons.mp nd).2 (by simpa using h1) (by simpa using h2)
theorem lookup_rev {α : Type} {ps : List Str} {us : List α} {m : Nat} {y : Str} {u : α} (nd : ps.Nodup) (h1 : ps[m]? = some y) (h2 : us[m]? = some u) : (ps.zip us).reverse.lookup y = some u := by
  have hm : (y, u) ∈ (ps.zip us).reverse := by
    rw [List.mem_reverse]
    exact PySem.mem_of_lookup (lookup_zip nd h1 h2)
  obtain ⟨v, hv⟩ := mem_lookup hm
  have hv2 : (y, v) ∈ ps.zip us := by
    rw [← List.mem_reverse]
    exact PySem.mem_of_lookup hv
  obtain ⟨k, hk⟩ := List.getElem?_of_mem hv2
  rw [List.getElem?_zip_eq_some] at hk
  have hkm : k = m := nodup_ix nd hk.1 h1
  subst hkm
  rw [h2] at hk
  rw [hv]
  exact hk.2.symm
theorem optAll_all {α : Type} {ps : List Str} {f : Str → Option α} : ∀ {us : List α}, us.length = ps.length → (∀ (m : Nat) (y : Str) (u : α), ps[m]? = some y → us[m]? = some u → f y = some u) → optAll (ps.map f) = some us := by
  induction ps with
  | nil => intro us h _; cases us with
    | nil => rfl
    | cons _ _ => simp at h
  | cons p ps ih =>
    intro us h hf
    cases us with
    | nil => simp at h
    | cons u us =>
      rw [List.map_cons, hf 0 p u (by simp) (by simp)]
      simp only [optAll]
      rw [ih (us := us) (by simpa using h) fun m y v e1 e2 => hf (m + 1) y v (by simpa using e1) (by simpa using e2)]
      rfl
theorem bindG_all {α : Type} {ps : List Str} {us : List α} (nd : ps.Nodup) (h : us.length = ps.length) : bindG ps [] us [] = some us := by
  unfold bindG
  have key : ∀ (m : Nat) (y : Str) (u : α), ps[m]? = some y → us[m]? = some u → (ps.zip us).lookup y = some u := fun m y u h1 h2 => lookup_zip nd h1 h2
  rw [if_pos]
  · simp only [List.append_nil, List.length_nil, Nat.sub_zero, List.drop_length, List.zip_nil_right, fillD]
    exact optAll_all h key
  · simp only [List.append_nil, List.length_nil, Nat.sub_zero, List.take_length, kwOk, Bool.and_true, Bool.and_eq_true, decide_eq_true_eq, Nat.zero_le, and_true, List.all_eq_true]
    refine ⟨by omega, fun y hy => ?_⟩
    obtain ⟨m, hm⟩ := List.getElem?_of_mem hy
    have hl := (List.getElem?_eq_some_iff.mp hm).1
    rw [key m y us[m] hm (List.getElem?_eq_getElem (by omega))]
    rfl
def putV (vσ : L2.St) : List Nat → List V → L2.St
  | i :: is, v :: vs => putV (vσ.set i (some v)) is vs
  | _, _ => vσ
theorem putV_len : ∀ (is : List Nat) (vs : List V) (vσ : L2.St), (putV vσ is vs).length = vσ.length
  | [], _, _ => by simp [putV]
  | _ :: _, [], _ => by simp [putV]
  | i :: is, v :: vs, vσ => by simp [putV, putV_len is vs]
theorem putV_out : ∀ (is : List Nat) (vs : List V) (vσ : L2.St) {j : Nat}, j ∉ is → (putV vσ is vs)[j]? = vσ[j]?
  | [], _, _, _, _ => by simp [putV]
  | _ :: _, [], _, _, _ => by simp [putV]
  | i :: is, v :: vs, vσ, j, h => by
    simp only [List.mem_cons, not_or] at h
    rw [putV, putV_out is vs _ h.2, List.getElem?_set_ne (Ne.symm h.1)]
theorem putV_in : ∀ (is : List Nat) (vs : List V) (vσ : L2.St) {m i : Nat} {v : V}, is.Nodup → is[m]? = some i → vs[m]? = some v → i < vσ.length → (putV vσ is vs)[i]? = some (some v)
  | [], _, _, _, _, _, _, h, _, _ => by simp at h
  | _ :: _, [], _, _, _, _, _, _, h, _ => by simp at h
  | i :: is, v :: vs, vσ, 0, j, w, nd, h1, h2, hl => by
    simp at h1 h2
    subst h1 h2
    rw [putV, putV_out is vs _ (List.nodup_cons.mp nd).1, List.getElem?_set_self hl]
  | i :: is, v :: vs, vσ, m + 1, j, w, nd, h1, h2, hl => by
    rw [putV]
    exact putV_in is vs _ (List.nodup_cons.mp nd).2 (by simpa using h1) (by simpa using h2) (by simpa using hl)
theorem putAt_rep {G : GC} {H : Hp} {ρ : List Addr} : ∀ {is : List Nat} {l : List D} {vs : List V} {σ σ' : List D} {vσ : L2.St}, putAt σ is l = some σ' → Reps G none H ρ l vs → Repo G none H ρ σ vσ → Repo G none H ρ σ' (putV vσ is vs) ∧ is.length = vs.length
  | [], [], vs, σ, σ', vσ, h, r, s => by
    cases r
    simp only [putAt] at h
    cases h
    exact ⟨by simpa [putV] using s, rfl⟩
  | [], _ :: _, _, _, _, _, h, _, _ => by simp [putAt] at h
  | _ :: _, [], _, _, _, _, h, _, _ => by simp [putAt] at h
  | i :: is, d :: l, vs, σ, σ', vσ, h, r, s => by
    cases r with
    | @cons _ v _ vs r1 r2 =>
      simp only [putAt] at h
      obtain ⟨h1, h2⟩ := putAt_rep h r2 (s.set r1 i)
      exact ⟨by simpa [putV] using h1, by simp [h2]⟩
end Ev
set_option Elab.async false
set_option linter.all false
set_option maxRecDepth 100000
set_option maxHeartbeats 4000000
/-! Ev20: the induction over the depth of calls. -/
namespace Ev
open PySem PySem.Spec PyProof.Rows L2

theorem nd_ix {N : List Str} : ∀ {is : List Nat} {ps : List Str}, is.map (fun i => N[i]?) = ps.map some → ps.Nodup → is.Nodup
  | [], _, _, _ => .nil
  | i :: is, [], h, _ => by cases h
  | i :: is, p :: ps, h, nd => by
    rw [List.map_cons, List.map_cons] at h
    injection h with h1 h2
    rw [List.nodup_cons] at nd ⊢
    refine ⟨fun hi => nd.1 ?_, nd_ix h2 nd.2⟩
    have : (fun i => N[i]?) i ∈ is.map (fun i => N[i]?) := List.mem_map.mpr ⟨i, hi, rfl⟩
    rw [h2] at this
    obtain ⟨z, hz, e⟩ := List.mem_map.mp this
    have e : some z = N[i]? := e
    rw [h1] at e
    cases e
    exact hz
section
variable {G : GC} {P : Program} {w : World} {base : Heap} {pr : Prog} {fs : List String} {bs : List Str} {tab : String → Option DefA}
/-- the context of a lambda's body -/
def lamC (P : Program) (w : World) (K : PySem.W.Frag) (mg : Str → Option Value) (base : Heap) (L : LamA) (cells : List (Str × Addr)) (A : Around) (outer : List Env) (s : Shared) (H : Hp) (E : XK) (f c' : Addr) : Cx where
  prog := P
  w := w
  K := K
  mg := mg
  base := base
  A := A.deeper (PySem.W.envX L.qual L.scope s.heap.objs.size f (.ref c') cells)
  N := L.N
  s_0 := s
  H_0 := H
  env := PySem.W.envX L.qual L.scope s.heap.objs.size f (.ref c') cells
  outer := outer
  stack := PySem.W.envX L.qual L.scope s.heap.objs.size f (.ref c') cells :: outer
  ex := []
  fn := fun _ => false
  calm := true
  pn := []
  xe := fun e s' => wpAny (model P w) (A.deeper (PySem.W.envX L.qual L.scope s.heap.objs.size f (.ref c') cells)) (leaving (PySem.W.envX L.qual L.scope s.heap.objs.size f (.ref c') cells) e) (fun _ s'' => L2.CX P w outer H s E e s'') (fun e' s'' => L2.CX P w outer H s E e' s'') s'
structure LamFacts (fs : List String) (bs : List Str) (lm : Lm) (L : LamA) : Prop where
  kind : L.scope.kind = .function
  co : L.scope.isCoroutine = false
  gen : L.scope.isGenerator = false
  nd : L.N.Nodup
  pa : plainArgs L.params = true
  ix : lm.ps.map (fun i => L.N[i]?) = (L.params.args.map (·.arg)).map some
  pn : (L.params.args.map (·.arg)).Nodup
  loc : ∀ y ∈ L.params.args.map (·.arg), L.scope.names.lookup y = some .local
  cell : ∀ y ∈ L.scope.names, y.2 ≠ .cell
  own : ∀ y ∈ L.scope.names, y.2 = .local → y.1 ∈ L.params.args.map (·.arg)
  body : okE (csLam fs bs L) lm.body L.body = true
theorem lamFacts {lm : Lm} {L : LamA} (h : lamOk fs bs lm L = true) : LamFacts fs bs lm L := by
  unfold lamOk at h
  simp only [Bool.and_eq_true, decide_eq_true_eq, Bool.not_eq_true'] at h
  obtain ⟨⟨⟨⟨⟨⟨⟨⟨⟨h1, h2⟩, h3⟩, h4⟩, h5⟩, h6⟩, h7⟩, h8⟩, h9⟩, h10⟩ := h
  refine ⟨h1, h2, h3, h4, h5, h6, h7, fun y hy => ?_, fun y hy => ?_, fun y hy e => ?_, h10⟩
  · simpa using List.all_eq_true.mp h8 y hy
  · have := List.all_eq_true.mp h9 y hy
    simp only [Bool.and_eq_true, Bool.not_eq_true', decide_eq_false_iff_not] at this
    exact this.1
  · have := List.all_eq_true.mp h9 y hy
    simp only [Bool.and_eq_true, Bool.not_eq_true', decide_eq_false_iff_not, Bool.or_eq_true, decide_eq_true_eq] at this
    rcases this.2 with z | z
    · exact absurd e z
    · exact z
theorem plainPs_of {p : Arguments} (h : plainArgs p = true) : PlainP p (p.args.map (·.arg)) := by
  unfold plainArgs at h
  simp only [Bool.and_eq_true, List.isEmpty_iff, Option.isNone_iff_eq_none] at h
  exact ⟨h.1.1.1.1.1, h.1.1.1.1.2, h.1.1.1.2, h.1.1.2, rfl⟩
theorem lam_start {L : LamA} {lm : Lm} (F : LamFacts fs bs lm L) {cells : List (Str × Addr)} {A : Around} {outer : List Env} {s : Shared} {H : Hp} {E : XK} {f c' : Addr} {h₁ : Heap} {tk : Nat} {us : List Value} {vs : List V} {vσ : L2.St}
    (e0 : Env0 P w G.K G.mg base A outer s H) (hd : A.handled = none) (hns : h₁.Ns s.heap.objs.size fun y => ((L.params.args.map (·.arg)).zip us).reverse.lookup y) (kp : ∀ b o, s.heap.get? b = some o → h₁.get? b = some o)
    (r : Vals vs us) (hl : lm.ps.length = vs.length) (hlen : vσ.length = L.N.length)
    (inj : ∀ x y a, cells.lookup x = some a → cells.lookup y = some a → x = y) (cl : ∀ x a, cells.lookup x = some a → H a = none ∧ a ∉ frs outer ∧ ∃ w, s.heap.IsCell a w)
    (fr : ∀ y ∈ L.scope.names, y.2 = .free → ∃ a, cells.lookup y.1 = some a ∧ ∀ (i : Nat) (v : V), L.N[i]? = some y.1 → vσ[i]? = some (some v) → ∃ u, RelV v u ∧ s.heap.IsCell a (some u)) :
    Inv (lamC P w G.K G.mg base L cells A outer s H E f c') [] (putV vσ lm.ps vs) H { s with heap := h₁, toks := tk } := by
  have noA : ∀ b : Addr, b ∉ (lamC P w G.K G.mg base L cells A outer s H E f c').ex := fun b z => absurd (show b ∈ ([] : List Addr) from z) (by simp)
  have kc : ∀ {a : Addr} {w : Option Value}, s.heap.IsCell a w → h₁.IsCell a w := fun {a w} x => x.keeps kp
  have ndI : lm.ps.Nodup := nd_ix F.ix F.pn
  refine ⟨⟨e0.mod, F.kind, rfl, rfl, Nat.le_refl _, fun y z c e1 e2 => inj y z c e1 e2, fun y hy => ?_, fun y c z _ => ?_, fun _ => hd, Around.frames_deeper e0.frames, .inr ⟨rfl, rfl⟩, fun b z => absurd z (noA b), e0.bs, e0.bsz, fun b _ _ => noA b,
      fun b z => absurd z (noA b), e0.funs, e0.frf⟩,
    rfl, e0.bare, Un.kept kp, ⟨_, hns, fun i y v e1 e2 e3 => ?_⟩, fun y c e => ?_, e0.hok.fresh (Nat.le_refl _), fun y c e => (cl y c e).1, fun q hq => absurd (show q ∈ ([] : List (Addr × Obj)) ++ [] from hq) (by simp), e0.hok.kept kp, ?_⟩
  · have hy : L.scope.names.lookup y = some .cell ∨ L.scope.names.lookup y = some .free := hy
    rcases hy with hy | hy
    · exact absurd rfl (F.cell _ (PySem.mem_of_lookup hy))
    · obtain ⟨a, ha, _⟩ := fr _ (PySem.mem_of_lookup hy) rfl
      exact ⟨a, ha⟩
  · have z : false = true := z
    cases z
  · have e1 : L.N[i]? = some y := e1
    have e3 : Vis L.scope y := e3
    rcases e3 with k | k | k
    · -- a parameter
      have hp := F.own _ (PySem.mem_of_lookup k) rfl
      obtain ⟨m, hm⟩ := List.getElem?_of_mem hp
      have hm : (L.params.args.map (·.arg))[m]? = some y := hm
      have h1 : (lm.ps.map fun i => L.N[i]?)[m]? = some (some y) := by rw [F.ix, List.getElem?_map, hm]; rfl
      rw [List.getElem?_map] at h1
      cases hi : lm.ps[m]? with
      | none => rw [hi] at h1; cases h1
      | some i' =>
        rw [hi] at h1
        have h1 : L.N[i']? = some y := Option.some.inj h1
        have : i' = i := nodup_ix F.nd h1 e1
        subst this
        have hml : m < vs.length := by rw [← hl]; exact (List.getElem?_eq_some_iff.mp hi).1
        have hv := putV_in lm.ps vs vσ ndI hi (List.getElem?_eq_getElem hml) (by rw [hlen]; exact (List.getElem?_eq_some_iff.mp h1).1)
        rw [hv] at e2
        cases e2
        obtain ⟨u, hu, ru⟩ := r.get (List.getElem?_eq_getElem hml)
        exact ⟨u, ru, .inl ⟨k, lookup_rev F.pn hm hu⟩⟩
    · exact absurd rfl (F.cell _ (PySem.mem_of_lookup k))
    · obtain ⟨a, ha, hv⟩ := fr _ (PySem.mem_of_lookup k) rfl
      have hno : i ∉ lm.ps := fun hi => by
        obtain ⟨m, hm⟩ := List.getElem?_of_mem hi
        have h1 : (lm.ps.map fun i => L.N[i]?)[m]? = some (L.N[i]?) := by rw [List.getElem?_map, hm]; rfl
        rw [F.ix, List.getElem?_map, e1] at h1
        cases hq : (L.params.args.map (·.arg))[m]? with
        | none => rw [hq] at h1; cases h1
        | some z =>
          rw [hq] at h1
          have h1 : z = y := Option.some.inj (Option.some.inj h1)
          have := F.loc z (List.mem_of_getElem? hq)
          rw [h1, k] at this
          cases this
      rw [putV_out _ _ _ hno] at e2
      obtain ⟨u, ru, ic⟩ := hv i v e1 e2
      exact ⟨u, ru, .inr ⟨.inr k, a, ha, kc ic⟩⟩
  · obtain ⟨_, _, w', z⟩ := cl y c e
    exact ⟨w', kc z⟩
  · show (putV vσ lm.ps vs).length = L.N.length
    rw [putV_len, hlen]
end
end Ev
set_option Elab.async false
set_option linter.all false
set_option maxRecDepth 100000
set_option maxHeartbeats 4000000
/-! Ev21: n calls deep. -/
namespace Ev
open PySem PySem.Spec PyProof.Rows L2

section
variable {G : GC} {P : Program} {w : World} {base : Heap} {pr : Prog} {fs : List String} {bs : List Str} {es : List (String × Nat)} {tab : String → Option DefA} {fl : String → Option (List String)}
theorem repo_start {G : GC} {cc : Option CC} {H : Hp} {ρ : List Addr} {σ : List D} {bvs : List V} {N : List Str} {n : Nat} (r : Reps G cc H ρ σ bvs) (hn : n = N.length) : Repo G cc H ρ (σ ++ List.replicate (n - σ.length) .uns) (L2.start N bvs) := by
  unfold L2.start
  rw [hn, r.length]
  exact Repo.ofReps r _
theorem post_flat {H : Hp} {ρ : List Addr} {S : Store} {Q : VK} {E : XK} {f : Fl} {cc : Option CC}
    (s : SRep G H ρ S) (h : PostG G fl (fun c d _ H => E c d H) [] (relR G) H ρ Q (endD S f)) : PostF ⟨G, fl, cc, fun c d _ H => E c d H⟩ { nx := fun _ H' => Q .non H', rt := Q } H ρ f := by
  cases f with
  | nx σ S' => exact fun vσ H' ρ' e p s' r => gc_ok s e p s' .non h
  | rt d S' =>
    intro v H' ρ' e p s' r
    unfold endD at h
    dsimp only at h
    cases hf : D.flat d with
    | false => rw [hf] at h; exact h.elim
    | true =>
      rw [hf] at h
      exact gc_ok s e p s' (r.flat hf) h
  | ex c l σ S' => exact fun C dx vσ H' ρ' e p s' r x => h C dx H' ρ' e p s' x
  | bk _ _ => exact h.elim
  | ct _ _ => exact h.elim
  | bad => exact h.elim
/-- a def of the module runs: its arguments bound -/
theorem def_run (W1 : World1 G P w base pr fs bs es tab) {n : Nat} (ih : FnsOk G (fun c => (pr.exc c).map (·.2)) P w base n (kap pr n)) {x : String} {fn : Fn} {d : DefA} {f' : Addr} {oc : Value} {od : Option Addr} {dV kV doc pm : Value} {an : Option Addr} {cdv ct : Value} {osl : Array (Option Value)}
    (hok : okFn fs bs es (oklOf fs bs pr.lams) x d fn = true) (lk : G.K.lookup f' = some ⟨oc, od, .func (PySem.W.fnOf (Str.ofString x) (Str.ofString x) d.params d.body d.scope dV kV doc pm an cdv ct), osl⟩) (hcd : PySem.W.codeIn G.K cdv (Str.ofString x) = true)
    (hlam : d.lam = true → ∃ a Pt, cdv = .ref a ∧ LamX.TabB base G.mg a Pt ∧ (Pt, (Str.ofString x ++ ".<locals>.") ++ "<lambda>") ∈ G.T ∧ ∀ p ∈ G.T, p.1 = Pt → p.2 = (Str.ofString x ++ ".<locals>.") ++ "<lambda>")
    {A : Around} {outer : List Env} {s : Shared} {H : Hp} {args : Args} {bvs : List V} {bs' : List Value} {σ0 : List D} {ρ : List Addr} {S : Store} {Q : VK} {E : XK} (hr : Rm (n + 1) A) (e0 : Env0 P w G.K G.mg base A outer s H)
    (hbt : BindsTo s (PySem.W.fnOf (Str.ofString x) (Str.ofString x) d.params d.body d.scope dV kV doc pm an cdv ct) args (fn.ps.zip bs')) (hbv : Vals bvs bs') (hlen : bvs.length = fn.ps.length) (hσ : Reps G (some ⟨s.heap, H, frs outer, none⟩) H ρ σ0 bvs) (sr : SRep G H ρ S)
    (q : PostG G (fun c => (pr.exc c).map (·.2)) (fun c d _ H => E c d H) [] (relR G) H ρ Q (endD S (evSs (kap pr n) (fun c => (pr.exc c).map (·.2)) fn.body (σ0 ++ List.replicate (fn.n - σ0.length) .uns) S))) : codeAny (model P w) A (.call (.ref f') args) (CR (L2.CX P w) outer P w H s Q E) s := by
  obtain ⟨SC, PP, hn, hbody⟩ := fnScope_of hok
  refine LamX.run_ofS (CX := L2.CX P w) (N := d.N) (ps := fn.ps) (us := bs') (vs := bvs) lk hcd SC hr.room e0 hbt hbv hlen fun hr' => ?_
  let Z : Se := ⟨G, fun c => (pr.exc c).map (·.2), some ⟨s.heap, H, frs outer, none⟩, fun c d _ H => E c d H⟩
  have X1 : SX Z (kap pr n) (cxOf (L2.CX P w) P w G.K G.mg base d.N (Str.ofString x) d.scope f' cdv A outer s H E) (csOf fs bs es (oklOf fs bs pr.lams) x d) n :=
    { K := rfl, mg := rfl, N := rfl, sc := rfl, calm := fun _ => rfl, nd := SC.nd, room := fun _ => ⟨hr', hr.gd⟩, un := (by have := hr'.un; show (A.deeper _).units + 70 < _; omega), gd := hr.gd, fns := ih, tk := takes_of rfl rfl rfl rfl, fn := fun _ _ => rfl, bs := W1.hbs, fs := W1.hfs,
      hx := (fun cc i e1 e2 => by cases e1; cases e2), es := (fun q hq => by rw [kap_exc]; exact W1.es q hq), frm := (fun _ => ⟨rfl, rfl⟩),
      cc := fun _ cc e => by
        have e : some (⟨s.heap, H, frs outer, none⟩ : CC) = some cc := e
        cases e
        exact ⟨rfl, rfl⟩
      okl := fun _ => W1.okl, own := passes_of rfl,
      lam := fun e => by
        obtain ⟨a, Pt, e1, e2, e3, e4⟩ := hlam e
        exact ⟨rfl, rfl, rfl, ⟨_, rfl⟩, a, Pt, e2, e1, e3, e4⟩ }
  have hbk : (cxOf (L2.CX P w) P w G.K G.mg base d.N (Str.ofString x) d.scope f' cdv A outer s H E).env.blockKind = .function := by
    show (if d.scope.kind.isAnnotationScope then ScopeKind.function else d.scope.kind) = .function
    rw [SC.kind]; rfl
  exact ⟨_, sSs fn.body X1 hbk (fun c => (pr.exc c).map (·.2)) (fun y => by rw [kap_exc]) d.body hbody, ρ, _, S, repo_start hσ hn, sr, post_flat sr q⟩
theorem kap_ok (W1 : World1 G P w base pr fs bs es tab) : ∀ n : Nat, FnsOk G (fun c => (pr.exc c).map (·.2)) P w base n (kap pr n)
  | 0 => ⟨fun x f hf A outer s H us kus vs kvs l kw ρ S Q E hr e0 r rl kr krl sr q => q.elim, fun i f A outer s H us vs vσ σ l ρ S Q E hr e0 hc rs r rl sr q => q.elim, W1.glob, W1.excOk 0⟩
  | n + 1 => by
    have ih := kap_ok W1 n
    refine ⟨fun x f hf A outer s H us kus vs kvs l kw ρ S Q E hr e0 r rl kr krl sr q => ?_, fun i f A outer s H us vs vσ σ l ρ S Q E hr e0 hc rs r rl sr q => ?_, W1.glob, W1.excOk (n + 1)⟩
    · -- a def of the module
      have q : PostG G (fun c => (pr.exc c).map (·.2)) (fun c d _ H => E c d H) [] (relR G) H ρ Q (callD pr (kap pr n) x l kw S) := q
      unfold callD at q
      cases hfn : pr.fns x with
      | none => rw [hfn] at q; exact q.elim
      | some fn =>
        rw [hfn] at q
        dsimp only at q
        cases hb : bindA fn l kw with
        | none => rw [hb] at q; exact q.elim
        | some σ0 =>
          rw [hb] at q
          dsimp only at q
          obtain ⟨d, f', oc, od, dV, kV, doc, pm, an, cdv, ct, osl, dl, dvs, ht, hok, hm, hk, lk, hcd, hdl, hdv, hdr, hlam⟩ := W1.fn x fn hfn
          have ef : f' = f := by
            rw [hf] at hm
            cases hm; rfl
          subst ef
          obtain ⟨SC, PP, hn, hbody⟩ := fnScope_of hok
          obtain ⟨bvs, bs', hbs, hbv, hσ⟩ := bind_rel (cc := some ⟨s.heap, H, frs outer, none⟩) hb (Reps.any (hdr H ρ)) hdv rl r krl kr
          have KX : G.K.In s.heap := e0.mod.kin.keeps fun b o e => (e0.bs b o e).1
          have hlen : bvs.length = fn.ps.length := by rw [hbv.length]; exact bindG_len hbs
          exact def_run W1 ih hok lk hcd hlam hr e0 (binds_to KX PP hdl hbs) hbv hlen hσ sr q
    · -- a lambda
      have q : PostG G (fun c => (pr.exc c).map (·.2)) (fun c d _ H => E c d H) [] (relR G) H ρ Q (cloD pr (kap pr n) i σ l S) := q
      unfold cloD at q
      obtain ⟨L, cells, pm, c', ctv, ⟨h1, hlen⟩, h2, h3, h4, h5, h6, h7, h8⟩ := hc
      rw [W1.lam] at h1
      unfold oklOf at h1
      cases hl : pr.lams i with
      | none => rw [hl] at h1; cases h1
      | some lm =>
        rw [hl] at h1 q
        dsimp only at h1 q
        cases hfl : D.flats l with
        | false => rw [hfl] at q; exact q.elim
        | true =>
          rw [hfl, R.when_true] at q
          cases hp : putAt (noClo σ) lm.ps l with
          | none => rw [hp] at q; exact q.elim
          | some σ2 =>
            rw [hp] at q
            dsimp only at q
            have F := lamFacts h1
            obtain ⟨rσ, hpl⟩ := putAt_rep hp (rl.flat hfl) rs.noClo
            have hul : us.length = (L.params.args.map (·.arg)).length := by
              have := congrArg List.length F.ix
              rw [← r.length, ← hpl]
              simpa using this
            have KX : G.K.In s.heap := e0.mod.kin.keeps fun b o e => (e0.bs b o e).1
            have lim : s.heap.NoLimit := e0.mod.nolimit.keeps fun b o e => (e0.bs b o e).1
            obtain ⟨⟨oc, vs', t, hoc, hdc, hvc⟩, _, _⟩ := e0.hok c' _ h5
            refine PySem.W.kla_callFunE hr.room.depth h2 rfl F.co F.gen rfl ⟨c', oc, vs', t, rfl, hoc, hdc, hvc⟩ ?_
            refine binds_to (fd := PySem.W.kla_fn "<lambda>" L.qual L.params L.body L.scope cells pm (.ref c') ctv) (dl := []) KX (plainPs_of F.pa) (.inl ⟨rfl, rfl⟩) (bindG_all F.pn hul) _ _ _ _ ?_
            refine wpAny_newFunctionEnv F.cell (fun y hy => F.loc y.1 (List.of_mem_zip hy).1) (fun h₁ hns hsb => ⟨lim.fresh _ hsb, ?_⟩) F.kind
            show codeAny _ _ (.expr L.body (PySem.W.envX L.qual L.scope s.heap.objs.size f (.ref c') cells)) _ _
            have kp : ∀ b o, s.heap.get? b = some o → h₁.get? b = some o := fun b o e => hsb.extBut b o (Nat.ne_of_lt (Heap.lt_size e)) (Heap.get?_push_of_some _ e)
            have J := lam_start (P := P) (w := w) (E := E) (f := f) (c' := c') (tk := s.toks + ((L.params.args.map (·.arg)).zip us).length) F e0 hr.room.hd hns kp r hpl hlen h6 h7 h8
            let Z : Se := ⟨G, fun c => (pr.exc c).map (·.2), none, fun c d _ H => E c d H⟩
            have hr' : Rm n (A.deeper (PySem.W.envX L.qual L.scope s.heap.objs.size f (.ref c') cells)) := ⟨hr.room.deeper _, hr.gd⟩
            have X1 : SX Z (kap pr n) (lamC P w G.K G.mg base L cells A outer s H E f c') (csLam fs bs L) n :=
              { K := rfl, mg := rfl, N := rfl, sc := rfl, calm := fun _ => rfl, nd := F.nd, room := fun _ => hr', un := (by have := hr'.room.un; show (A.deeper _).units + 70 < _; omega), gd := hr.gd, fns := ih, tk := takes_of rfl rfl rfl rfl, fn := (fun y e => by cases e), bs := W1.hbs, fs := W1.hfs,
                hx := (fun cc i e1 e2 => by cases e1), es := (fun q hq => by cases hq), frm := (fun e => by cases e),
                cc := (fun _ cc e => by
                  have e : none = some cc := e
                  cases e)
                okl := (fun e => by cases e), own := passes_of rfl, lam := (fun e => by cases e) }
            refine PySem.W.kla_codeExpr (wpAny_mono ((sE lm.body X1 L.body F.body).1.run [] _ _ H Q J ⟨ρ, σ2, S, rσ, sr, ?_⟩) (fun v s' hq => ?_) fun e s' hq => hq)
            · show Pst Z (putV vσ lm.ps vs) (relD Z) H ρ Q (evE (kap pr n) σ2 false lm.body S)
              cases hev : evE (kap pr n) σ2 false lm.body S with
              | bad => rw [hev] at q; exact q.elim
              | ex cn l' S' =>
                rw [hev] at q
                exact fun C dx H' ρ' e p s' x => q C dx H' ρ' e p s' x
              | ok d S' =>
                rw [hev] at q
                dsimp only at q
                cases hf : D.flat d with
                | false => rw [hf] at q; exact q.elim
                | true =>
                  rw [hf] at q
                  exact fun v H' ρ' e p s' r => gc_ok sr e p s' (Rep.flat hf r) q
            · obtain ⟨w', H', J', rv, q'⟩ := hq
              exact ⟨w', H', J'.os, J'.bare, J'.base, J'.hok, rv, q'⟩
end
end Ev
set_option Elab.async false
set_option linter.all false
set_option maxRecDepth 100000
set_option maxHeartbeats 4000000
/-! Ev21b: own classes of errors as they stand behind the head. -/
namespace Ev
open PySem PySem.Spec PyProof.Rows L2 PySem.W
/-! ### what a fragment says, a greater one says -/
def FLe (K K' : Frag) : Prop := ∀ a o, K.lookup a = some o → K'.lookup a = some o
section
variable {K K' : Frag} (le : FLe K K')
include le
theorem nsIn_le {N : Addr} {x : Str} {r : Option Value} (h : nsIn K N x = some r) : nsIn K' N x = some r := by
  unfold nsIn at h ⊢
  cases e : K.lookup N with
  | none => rw [e] at h; cases h
  | some o => rw [e] at h; rw [le _ _ e]; exact h
theorem ownIn_le {x : Str} {v : Value} {r : Option Value} (h : ownIn K x v = some r) : ownIn K' x v = some r := by
  unfold ownIn at h ⊢
  cases v with
  | ref a =>
    dsimp only at h ⊢
    cases e : K.lookup a with
    | none => rw [e] at h; cases h
    | some o =>
      rw [e] at h
      rw [le _ _ e]
      obtain ⟨oc, od, dt, sl⟩ := o
      cases dt <;> first | exact nsIn_le le h | cases h
  | _ => exact h
theorem alongIn_le {x : Str} : ∀ {l : List Value} {r : Option Value}, alongIn K x l = some r → alongIn K' x l = some r
  | [], r, h => h
  | c :: l, r, h => by
    unfold alongIn at h ⊢
    cases e : ownIn K x c with
    | none => rw [e] at h; cases h
    | some o =>
      rw [e] at h
      rw [ownIn_le le e]
      cases o with
      | some v => exact h
      | none => exact alongIn_le h
theorem findIn_le {t : Value} {x : Str} {r : Option Value} (h : findIn K t x = some r) : findIn K' t x = some r := by
  unfold findIn at h ⊢
  cases t with
  | ref a =>
    dsimp only at h ⊢
    cases e : K.lookup a with
    | none => rw [e] at h; cases h
    | some o =>
      rw [e] at h
      rw [le _ _ e]
      obtain ⟨oc, od, dt, sl⟩ := o
      cases dt <;> first | exact alongIn_le le h | cases h
  | _ => exact h
theorem clsIn_le {C : Addr} {cd : ClassData} (h : clsIn K C = some cd) : clsIn K' C = some cd := by
  unfold clsIn at h ⊢
  cases e : K.lookup C with
  | none => rw [e] at h; cases h
  | some o => rw [e] at h; rw [le _ _ e]; exact h
theorem mroIn_le {C : Addr} {b : Value} {r : Bool} (h : mroIn K C b = some r) : mroIn K' C b = some r := by
  unfold mroIn at h ⊢
  obtain ⟨cd, e, q⟩ := Option.bind_eq_some_iff.mp h
  rw [clsIn_le le e]; exact q
theorem subIn_le {t b : Value} {r : Bool} (h : subIn K t b = some r) : subIn K' t b = some r := by
  unfold subIn at h ⊢
  cases t with
  | ref C => exact mroIn_le le h
  | _ => exact h
theorem typeIn_le {v t : Value} (h : typeIn K v = some t) : typeIn K' v = some t := by
  unfold typeIn at h ⊢
  cases v with
  | ref a =>
    obtain ⟨o, e, q⟩ := Option.map_eq_some_iff.mp h
    exact Option.map_eq_some_iff.mpr ⟨o, le _ _ e, q⟩
  | _ => exact h
theorem specialIn_le {v : Value} {x : Str} {r : Option Value} (h : specialIn K v x = some r) : specialIn K' v x = some r := by
  unfold specialIn at h ⊢
  obtain ⟨t, e, q⟩ := Option.bind_eq_some_iff.mp h
  rw [typeIn_le le e]; exact findIn_le le q
theorem hasDictIn_le {C : Addr} (h : hasDictIn K C = true) : hasDictIn K' C = true := by
  unfold hasDictIn at h ⊢
  obtain ⟨cd, e, q⟩ := any_some h
  rw [clsIn_le le e]; exact q
theorem keepIn_le {f : Value} (h : keepIn K f = true) : keepIn K' f = true := by
  unfold keepIn at h ⊢
  cases f with
  | ref a =>
    dsimp only at h ⊢
    cases e : K.lookup a with
    | none => rw [e] at h; cases h
    | some o =>
      rw [e] at h
      rw [le _ _ e]
      obtain ⟨oc, od, dt, sl⟩ := o
      cases dt <;> first | rfl | (dsimp only at h ⊢; rw [beq_iff_eq] at h ⊢; exact specialIn_le le h) | cases h
  | _ => exact h
theorem nsOkIn_le {N : Addr} (h : nsOkIn K N = true) : nsOkIn K' N = true := by
  unfold nsOkIn at h ⊢
  cases e : K.lookup N with
  | none => rw [e] at h; cases h
  | some o => rw [e] at h; rw [le _ _ e]; exact h
theorem tailIn_le {bm : List Value} : ∀ {l : List Value}, tailIn K bm l = true → tailIn K' bm l = true
  | [], h => h
  | v :: r, h => by
    unfold tailIn at h ⊢
    rw [Bool.or_eq_true] at h ⊢
    rcases h with h | h
    · exact .inl h
    · right
      cases v with
      | ref A =>
        dsimp only at h ⊢
        cases e : K.lookup A with
        | none => rw [e] at h; cases h
        | some o =>
          rw [e] at h
          rw [le _ _ e]
          obtain ⟨oc, od, dt, sl⟩ := o
          cases dt <;> first | (simp only [Bool.and_eq_true, beq_iff_eq] at h ⊢; exact ⟨⟨nsOkIn_le le h.1.1, nsIn_le le h.1.2⟩, tailIn_le h.2⟩) | cases h
      | _ => cases h
theorem excIn_le {C : Addr} {bm : List Value} {n : String} (h : excIn K C bm n = true) : excIn K' C bm n = true := by
  unfold excIn at h ⊢
  cases e : K.lookup C with
  | none => rw [e] at h; cases h
  | some o =>
    rw [e] at h
    rw [le _ _ e]
    split at h
    · rename_i dd cd sl ho
      cases ho
      split at h
      · rename_i C' bm' k0 k1 k2 k3 n' k5 hm hs
        simp only [Bool.and_eq_true, beq_iff_eq] at h ⊢
        exact ⟨⟨⟨h.1.1.1, tailIn_le le h.1.1.2⟩, nsOkIn_le le h.1.2⟩, nsIn_le le h.2⟩
      · cases h
    · cases h
theorem excInitIn_le {C : Addr} {bm : List Value} {n : String} (h : excInitIn K C bm n = true) : excInitIn K' C bm n = true := by
  unfold excInitIn at h ⊢
  cases e : K.lookup C with
  | none => rw [e] at h; cases h
  | some o => rw [e] at h; rw [le _ _ e]; exact h
theorem superIn_le {C D : Addr} {x : Str} {r : Option Value} (h : ks_superIn K C D x = some r) : ks_superIn K' C D x = some r := by
  unfold ks_superIn at h ⊢
  obtain ⟨cd, e, q⟩ := Option.bind_eq_some_iff.mp h
  rw [clsIn_le le e]; exact alongIn_le le q
theorem codeIn_le {cd : Value} {q : Str} (h : codeIn K cd q = true) : codeIn K' cd q = true := by
  unfold codeIn at h ⊢
  cases cd with
  | ref c =>
    dsimp only at h ⊢
    cases e : K.lookup c with
    | none => rw [e] at h; cases h
    | some o => rw [e] at h; rw [le _ _ e]; exact h
  | _ => exact h
end
/-! ### the text of __init__ -/
def paramsB (f : Str) (p : Arguments) : Bool := match p with
  | ⟨[], [⟨s, none, _⟩, ⟨g, none, _⟩], none, [], [], none, []⟩ => decide (s = "self") && decide (g = f)
  | _ => false
def bodyB (f : Str) (b : List Stmt) : Bool := match b with
  | [.Expr (.Call (.Attribute (.Call (.Name s _) [] [] _) i q3) [.Name f1 _] [] q5) _, .Assign [.Attribute (.Name se _) f2 _] (.Name f3 _) _] =>
    decide (s = "super") && decide (i = "__init__") && decide (f1 = f) && decide (se = "self") && decide (f2 = f) && decide (f3 = f) && (q3.endLine == q5.line)
  | _ => false
theorem paramsB_ok {f : Str} {p : Arguments} (h : paramsB f p = true) : ∃ p1 p2, p = xiA f p1 p2 := by
  unfold paramsB at h
  split at h
  · simp only [Bool.and_eq_true, decide_eq_true_eq] at h
    obtain ⟨rfl, rfl⟩ := h
    exact ⟨_, _, rfl⟩
  · cases h
theorem bodyB_ok {f : Str} {b : List Stmt} (h : bodyB f b = true) : ∃ q1 q2 q3 q4 q5 q6 q7 q8 q9 q10, b = xiB f q1 q2 q3 q4 q5 q6 q7 q8 q9 q10 ∧ (q3.endLine == q5.line) = true := by
  unfold bodyB at h
  split at h
  · simp only [Bool.and_eq_true, decide_eq_true_eq] at h
    obtain ⟨⟨⟨⟨⟨⟨rfl, rfl⟩, rfl⟩, rfl⟩, rfl⟩, rfl⟩, h⟩ := h
    exact ⟨_, _, _, _, _, _, _, _, _, _, rfl, h⟩
  · cases h
def initAt (K : Frag) (C : Addr) : Addr := match findIn K (.ref C) "__init__" with
  | some (some (.ref f)) => f
  | _ => 0
/-- its cell, its code -/
def initCC (K : Frag) (f : Addr) : Addr × Addr := match K.lookup f with
  | some ⟨_, _, .func fd, _⟩ => (match fd.closure, fd.code with
    | [(_, cc)], .ref cda => (cc, cda)
    | _, _ => (0, 0))
  | _ => (0, 0)
def fnB (K : Frag) (f : Str) (fI : Addr) : Bool := match K.lookup fI with
  | some ⟨_, _, .func ⟨nm, ql, ps, .stmts bd, sc, gl, [(x, _)], .none, .none, _, _, _, .ref cda, _, bn⟩, _⟩ =>
    decide (nm = "__init__") && paramsB f ps && bodyB f bd && decide (sc = xiS f) && decide (gl = mainGlobals) && decide (x = "__class__") && decide (bn = builtinsNs) && codeIn K (.ref cda) ql
  | _ => false
def clsB (K : Frag) (C : Addr) : Bool := match K.lookup C with
  | some ⟨.type "type", _, .cls cd, sl⟩ => (match cd.mro, sl.toList with
    | .ref C' :: bm, [_, _, _, _, some (.builtin n), _] => C' == C && n == "ValueError.__new__" && !cd.hasDel && cd.hasDict && PySem.HandSPX.refsVE bm
    | _, _ => false)
  | _ => false
def fileB (K : Frag) (file : Str) (cda : Addr) : Bool := match K.lookup cda with
  | some ⟨_, _, .fields vs, _⟩ => (match (vs[2]? : Option Value) with
    | some (.str f _) => file == f
    | _ => false)
  | _ => false
def cellB (K : Frag) (C cc : Addr) : Bool := match K.lookup cc with
  | some ⟨_, _, .cell (some (.ref D)), _⟩ => decide (D = C)
  | _ => false
def oiB (K : Frag) (file : Str) (f : Str) (C : Addr) : Bool :=
  fldB f && excInitIn K C PySem.HandSPX.veTail "ValueError.__new__" && clsB K C && decide (findIn K (.ref C) "__setattr__" = some (some (.builtin "object.__setattr__"))) && decide (findIn K (.ref C) f = some none) &&
  decide (findIn K (.ref C) "__init__" = some (some (.ref (initAt K C)))) && decide (typeIn K (.ref (initAt K C)) = some (.type "function")) && decide (ks_superIn K C C "__init__" = some (some (.builtin "ValueError.__init__"))) && decide (subIn K (.ref C) (.type "ValueError") = some true) &&
  decide (mroIn K C (.ref C) = some true) && decide (nsIn K cStatics "thirdparty.any" = some none) && keepIn K (.ref C) && fnB K f (initAt K C) && cellB K C (initCC K (initAt K C)).1 && fileB K file (initCC K (initAt K C)).2
theorem clsB_ok {K : Frag} {C : Addr} (h : clsB K C = true) : ∃ nm q N bs bm sn sub ab col dd k0 k1 k2 k3 k5, K.lookup C = some (excClassObj nm q C N bs bm true sn sub ab col dd k0 k1 k2 k3 k5 "ValueError.__new__") ∧ PySem.HandSPX.refsVE bm = true := by
  unfold clsB at h
  split at h
  · rename_i dd cd sl ho
    split at h
    · rename_i C' bm k0 k1 k2 k3 n k5 hm hs
      simp only [Bool.and_eq_true, beq_iff_eq, Bool.not_eq_true'] at h
      obtain ⟨⟨⟨⟨rfl, rfl⟩, hdel⟩, hdi⟩, hr⟩ := h
      obtain ⟨nm, bs, mro, ns, qn, hd, sn, sub, ab, col, del⟩ := cd
      dsimp only at hm hdel hdi
      subst hm hdel hdi
      have hsl : sl = #[k0, k1, k2, k3, some (.builtin "ValueError.__new__"), k5] := by
        obtain ⟨l⟩ := sl
        exact congrArg Array.mk hs
      subst hsl
      exact ⟨nm, qn, ns, bs, bm, sn, sub, ab, col, dd, k0, k1, k2, k3, k5, ho, hr⟩
    · cases h
  · cases h
theorem fnB_ok {K : Frag} {f : Str} {fI : Addr} (h : fnB K f fI = true) : ∃ (qual : Str) (oc : Value) (od : Option Addr) (doc pm : Value) (an : Option Addr) (ct : Value) (osl : Array (Option Value)) (p1 p2 q1 q2 q3 q4 q5 q6 q7 q8 q9 q10 : Pos),
    K.lookup fI = some ⟨oc, od, .func (ksFn "__init__" qual (xiA f p1 p2) (xiB f q1 q2 q3 q4 q5 q6 q7 q8 q9 q10) (xiS f) .none .none doc pm an (.ref (initCC K fI).2) ct (initCC K fI).1), osl⟩ ∧ codeIn K (.ref (initCC K fI).2) qual = true ∧ (q3.endLine == q5.line) = true := by
  unfold fnB at h
  split at h
  · rename_i oc od nm ql ps bd sc gl x cc doc pm an cda ct bn osl ho
    simp only [Bool.and_eq_true, decide_eq_true_eq] at h
    obtain ⟨⟨⟨⟨⟨⟨⟨rfl, h2⟩, h3⟩, rfl⟩, rfl⟩, rfl⟩, rfl⟩, h8⟩ := h
    obtain ⟨p1, p2, rfl⟩ := paramsB_ok h2
    obtain ⟨q1, q2, q3, q4, q5, q6, q7, q8, q9, q10, rfl, hl⟩ := bodyB_ok h3
    have e : initCC K fI = (cc, cda) := by unfold initCC; rw [ho]
    rw [e]
    exact ⟨ql, oc, od, doc, pm, an, ct, osl, p1, p2, q1, q2, q3, q4, q5, q6, q7, q8, q9, q10, ho, h8, hl⟩
  · cases h
theorem oiB_ok {K K' : Frag} {file f : Str} {C : Addr} {P : Program} {mg : Str → Option Value} (le : FLe K K') (h : oiB K file f C = true) (hfile : P.main.file = file) (htop : (P.main.scope.names.lookup ("super" : Str)).isSome = false) (hsup : mg "super" = none) : ∃ fI cc cda, OwnI P K' mg f C fI cc cda := by
  unfold oiB at h
  simp only [Bool.and_eq_true, decide_eq_true_eq] at h
  obtain ⟨⟨⟨⟨⟨⟨⟨⟨⟨⟨⟨⟨⟨⟨h1, h2⟩, h3⟩, h4⟩, h5⟩, h6⟩, h7⟩, h8⟩, h9⟩, h10⟩, h11⟩, h12⟩, h13⟩, h14⟩, h15⟩ := h
  obtain ⟨nm, q, N, bs, bm, sn, sub, ab, col, dd, k0, k1, k2, k3, k5, c1, c2⟩ := clsB_ok h3
  obtain ⟨qual, oc, od, doc, pm, an, ct, osl, p1, p2, q1, q2, q3, q4, q5, q6, q7, q8, q9, q10, f1, f2, f3⟩ := fnB_ok h13
  refine ⟨initAt K C, _, _, h1, excInitIn_le le h2, ⟨nm, q, N, bs, bm, sn, sub, ab, col, dd, k0, k1, k2, k3, k5, le _ _ c1, c2⟩, findIn_le le h4, findIn_le le h5, findIn_le le h6, typeIn_le le h7, superIn_le le h8, subIn_le le h9, mroIn_le le h10, nsIn_le le h11, keepIn_le le h12, hsup, htop, ?_, ?_,
    qual, oc, od, doc, pm, an, ct, osl, p1, p2, q1, q2, q3, q4, q5, q6, q7, q8, q9, q10, le _ _ f1, codeIn_le le f2, f3⟩
  · unfold cellB at h14
    split at h14
    · rename_i cl cld D csl ho
      have e : D = C := by simpa using h14
      subst e
      exact ⟨_, _, _, le _ _ ho⟩
    · cases h14
  · unfold fileB at h15
    split at h15
    · rename_i ccl cdd vs ccs ho
      split at h15
      · rename_i fl tf hv
        exact ⟨_, _, vs, _, fl, tf, le _ _ ho, hv, by rw [hfile]; exact h15⟩
      · cases h15
    · cases h15
/-! ### a class -/
def exB (K : Frag) (C : Addr) : Bool :=
  decide (findIn K (.ref C) "__getattribute__" = some (some (.builtin "BaseException.__getattribute__"))) && decide (findIn K (.ref C) "__getattr__" = some none) && decide (subIn K (.ref C) (.type "BaseException") = some true) && hasDictIn K C &&
  decide (findIn K (.ref C) "__class__" = some (some (.builtin "object.__class__"))) && decide (mroIn K C (.type "object") = some true)
theorem obj_get (K : Frag) : specialIn K (.builtin "object.__class__") "__get__" = some (some (.builtin "getset_descriptor.__get__")) := by kernel_rfl
theorem obj_takes (K : Frag) : takesIn K (.builtin "object.__class__") = some true := by kernel_rfl
theorem exB_ok {K K' : Frag} {C : Addr} (le : FLe K K') (h : exB K C = true) : ExcC K' C := by
  unfold exB at h
  simp only [Bool.and_eq_true, decide_eq_true_eq] at h
  obtain ⟨⟨⟨⟨⟨h1, h2⟩, h3⟩, h4⟩, h5⟩, h6⟩ := h
  exact ⟨findIn_le le h1, findIn_le le h2, subIn_le le h3, hasDictIn_le le h4, findIn_le le h5, obj_get _, obj_takes _, mroIn_le le h6⟩
structure EC where
  cn : String
  fs : List String
  sup : List String
def ecB (K : Frag) (file : Str) (C : Addr) (ec : EC) : Bool :=
  exB K C && decide (typeIn K (.ref C) = some (.type "type")) && decide (mroIn K C (.ref C) = some true) && keepIn K (.ref C) && ec.fs.all (fun f => decide (findIn K (.ref C) (Str.ofString f) = some none)) &&
  (match ec.fs with
    | [] => excIn K C PySem.HandSPX.veTail "ValueError.__new__"
    | [f] => oiB K file (Str.ofString f) C
    | _ => false)
theorem ecB_ok {K K' : Frag} {file : Str} {C : Addr} {ec : EC} {P : Program} {mg : Str → Option Value} (le : FLe K K') (h : ecB K file C ec = true) (hfile : P.main.file = file) (htop : (P.main.scope.names.lookup ("super" : Str)).isSome = false) (hsup : mg "super" = none) : ClsE P K' mg C ec.fs := by
  unfold ecB at h
  simp only [Bool.and_eq_true, decide_eq_true_eq] at h
  obtain ⟨⟨⟨⟨⟨h1, h2⟩, h3⟩, h4⟩, h5⟩, h6⟩ := h
  have E := exB_ok le h1
  refine ⟨E.hs, typeIn_le le h2, mroIn_le le h3, keepIn_le le h4, E, fun f hf => ?_, fun e => ?_, fun f r e => ?_⟩
  · have := List.all_eq_true.mp h5 f hf
    exact findIn_le le (by simpa using this)
  · rw [e] at h6
    exact excIn_le le h6
  · rw [e] at h6
    cases r with
    | nil => exact ⟨rfl, oiB_ok le h6 hfile htop hsup⟩
    | cons _ _ => cases h6
/-! ### the fragments -/
def clsA (g : Addr → Option Obj) : Value → List Addr
  | .ref a => (match g a with
    | some ⟨_, _, .cls cd, _⟩ => [a, cd.ns]
    | _ => [])
  | _ => []
def mroA (g : Addr → Option Obj) (C : Addr) : List Addr := match g C with
  | some ⟨_, _, .cls cd, _⟩ => cd.mro.flatMap (clsA g)
  | _ => []
def initL (g : Addr → Option Obj) (f : Addr) : List Addr := match g f with
  | some ⟨_, _, .func fd, _⟩ => f :: (match fd.code with
    | .ref c => c :: fd.closure.map (·.2)
    | _ => [])
  | _ => []
def frX (g : Addr → Option Obj) (C : Addr) : Frag := He.frT g (cStatics :: (mroA g C ++ initL g (initAt (He.frT g (mroA g C)) C)))
def adrG (o : Obj) (cn : String) : Addr := match nsIn [(mainGlobals, o)] mainGlobals (Str.ofString cn) with
  | some (some (.ref C)) => C
  | _ => 0
def withAdr (o : Obj) : List EC → (List (EC × Addr) → Bool) → Bool
  | [], k => k []
  | e :: r, k => HandSHeadRun.frNat (adrG o e.cn) fun a => withAdr o r fun l => k ((e, a) :: l)
theorem withAdr_eq (o : Obj) : ∀ (l : List EC) (k : List (EC × Addr) → Bool), withAdr o l k = k (l.map fun e => (e, adrG o e.cn))
  | [], k => rfl
  | e :: r, k => by
    unfold withAdr
    rw [HandSHeadRun.frNat_eq, withAdr_eq o r]
    rfl
def pairB (g : Addr → Option Obj) (p : EC × Addr) (q : EC × Addr) : Bool := decide (mroIn (He.frT g [p.2]) p.2 (.ref q.2) = some (decide (q.1.cn ∈ p.1.sup)))
def oneB (g : Addr → Option Obj) (o : Obj) (file : Str) (l : List (EC × Addr)) (p : EC × Addr) : Bool :=
  decide (nsIn [(mainGlobals, o)] mainGlobals (Str.ofString p.1.cn) = some (some (.ref p.2))) && ecB (frX g p.2) file p.2 p.1 && l.all (pairB g p) && decide (subIn (He.frT g [p.2]) (.ref p.2) (.type "ValueError") = some (decide ("ValueError" ∈ p.1.sup)))
def obsE (g : Addr → Option Obj) (o : Obj) (file : Str) (ecs : List EC) : Bool := withAdr o ecs fun l => l.all (oneB g o file l)
theorem obsE_ok {g : Addr → Option Obj} {o : Obj} {file : Str} {ecs : List EC} (h : obsE g o file ecs = true) {e : EC} (he : e ∈ ecs) : nsIn [(mainGlobals, o)] mainGlobals (Str.ofString e.cn) = some (some (.ref (adrG o e.cn))) ∧ ecB (frX g (adrG o e.cn)) file (adrG o e.cn) e = true ∧
    (∀ e2 ∈ ecs, mroIn (He.frT g [adrG o e.cn]) (adrG o e.cn) (.ref (adrG o e2.cn)) = some (decide (e2.cn ∈ e.sup))) ∧ subIn (He.frT g [adrG o e.cn]) (.ref (adrG o e.cn)) (.type "ValueError") = some (decide ("ValueError" ∈ e.sup)) := by
  unfold obsE at h
  rw [withAdr_eq] at h
  have h1 := List.all_eq_true.mp h (e, adrG o e.cn) (List.mem_map.mpr ⟨e, he, rfl⟩)
  unfold oneB at h1
  simp only [Bool.and_eq_true, decide_eq_true_eq] at h1
  obtain ⟨⟨⟨h1, h2⟩, h3⟩, h4⟩ := h1
  refine ⟨h1, h2, fun e2 h5 => ?_, h4⟩
  have := List.all_eq_true.mp h3 (e2, adrG o e2.cn) (List.mem_map.mpr ⟨e2, h5, rfl⟩)
  unfold pairB at this
  simpa using this
end Ev
set_option Elab.async false
set_option linter.all false
set_option maxRecDepth 100000
set_option maxHeartbeats 4000000
/-! Ev22: what the head has to show. -/
namespace Ev
open PySem PySem.Spec PyProof.Rows L2

structure FI where
  x : String
  d : DefA
  fn : Fn
def FI.val (i : FI) : He.FnW := some (Str.ofString i.x, Str.ofString i.x, i.d.params, .stmts i.d.body, i.d.scope, mainGlobals, [], builtinsNs)
/-- a constant -/
def dB : D → Value → Bool
  | .non, .none => true
  | .bl a, .bool b => a == b
  | .int i, .int j _ => decide (i = j)
  | .str x, .str y _ => decide (x = y)
  | _, _ => false
def conG (g : Addr → Option Obj) : Nat → D → Value → Bool
  | 0, _, _ => false
  | n + 1, d, u => match d, u with
    | .tup l, .ref a => (match g a with
      | some ⟨.type c, _, .seq its _, _⟩ => decide (c = "tuple") && decide (its.size ≤ sizeLine) && decide (l.length = its.toList.length) && (l.zip its.toList).all fun p => conG g n p.1 p.2
      | _ => false)
    | d, u => dB d u
def dflG (g : Addr → Option Obj) (dV : Value) (l : List D) : Bool := match dV with
  | .none => l.isEmpty
  | .ref T => (match g T with
    | some ⟨_, _, .seq its _, _⟩ => !l.isEmpty && decide (l.length = its.toList.length) && (l.zip its.toList).all fun p => conG g 3 p.1 p.2
    | _ => false)
  | _ => false
def tabG (co : Obj) : Addr := match co with
  | ⟨_, _, .fields vs, _⟩ => (match vs.getD 11 .none with
    | .ref P => P
    | _ => 0)
  | _ => 0
def codG (g : Addr → Option Obj) (cd : Value) (i : FI) : Bool := match cd with
  | .ref c => (match g c with
    | some co => !He.emptyTab co && PySem.W.codeIn [(c, co)] (.ref c) (Str.ofString i.x) && (!i.d.lam || (PySem.W.codeHdIn [(c, co)] c (tabG co) && (match g (tabG co) with
      | some po => He.emptyTab po
      | none => false)))
    | none => false)
  | _ => false
def fiO (g : Addr → Option Obj) (o : Obj) (i : FI) : Bool × He.FnW := match PySem.W.nsIn [(mainGlobals, o)] mainGlobals (Str.ofString i.x) with
  | some (some (.ref f)) => (match g f with
    | some ⟨_, _, .func fd, _⟩ => (codG g fd.code i && dflG g fd.defaults i.fn.dfl, some (fd.name, fd.qualname, fd.params, fd.body, fd.scope, fd.globals, fd.closure, fd.builtins))
    | _ => (false, none))
  | _ => (false, none)
/-- the table of a def's code object -/
def ptO (g : Addr → Option Obj) (o : Obj) (i : FI) : Addr × Addr := match PySem.W.nsIn [(mainGlobals, o)] mainGlobals (Str.ofString i.x) with
  | some (some (.ref f)) => (match g f with
    | some ⟨_, _, .func fd, _⟩ => (match fd.code with
      | .ref c => (match g c with
        | some co => (c, tabG co)
        | none => (0, 0))
      | _ => (0, 0))
    | _ => (0, 0))
  | _ => (0, 0)
def obsV (fi : List FI) (gl : List (String × D)) (bs : List Str) (file : Str) (ecs : List EC) (g : Addr → Option Obj) : He.AlD := match g mainGlobals with
  | some o => (!He.emptyTab o && (fi.all fun i => (fiO g o i).1) && (gl.all fun p => match PySem.W.nsIn [(mainGlobals, o)] mainGlobals (Str.ofString p.1) with
      | some (some u) => conG g 3 p.2 u
      | _ => false) && (bs.all fun b => He.eqO (PySem.W.nsIn [(mainGlobals, o)] mainGlobals b) (some none)) && decide (((fi.filter (·.d.lam)).map fun i => (ptO g o i).2).Nodup) && obsE g o file ecs, fi.map fun i => (fiO g o i).2)
  | none => (false, [])
def valV (fi : List FI) : He.AlD := (true, fi.map FI.val)
def hookV (fi : List FI) (gl : List (String × D)) (bs : List Str) (file : Str) (ecs : List EC) : PySem.W.Hook where
  α := He.AlD
  obs := fun s => obsV fi gl bs file ecs s.heap.get?
  val := fun _ => valV fi
  says := fun _ h => ∃ (g : Addr → Option Obj) (n : Nat), (∀ a o, g a = some o → h.get? a = some o ∧ a < n) ∧ obsV fi gl bs file ecs g = valV fi
  of := fun w s e => ⟨s.heap.get?, s.heap.objs.size, fun a o q => ⟨q, Heap.lt_size q⟩, e⟩
  keeps := fun _ _ _ ⟨g, n, hg, c⟩ k => ⟨g, n, fun a o e => ⟨k _ _ (hg a o e).1, (hg a o e).2⟩, c⟩
theorem obsV_eq {fi : List FI} {gl : List (String × D)} {bs : List Str} {file : Str} {ecs : List EC} {g : Addr → Option Obj} {s : Shared} (h : ∀ a, g a = s.heap.get? a) : obsV fi gl bs file ecs g = (hookV fi gl bs file ecs).obs s := by
  have e : g = s.heap.get? := funext h
  rw [e] <;> rfl
/-- all that stands there but the empty tables -/
def allK (g : Addr → Option Obj) (n : Nat) : PySem.W.Frag := He.frT g (List.range n)
section
variable {g : Addr → Option Obj} {n : Nat} {h : Heap}
theorem allK_in (hg : ∀ a o, g a = some o → h.get? a = some o ∧ a < n) : (allK g n).In h := fun a o e => (hg a o (He.frT_mem e).1).1
theorem allK_at (hg : ∀ a o, g a = some o → h.get? a = some o ∧ a < n) {a : Addr} {o : Obj} (e : g a = some o) (ht : He.emptyTab o = false) : (allK g n).lookup a = some o := by
  have hm : (a, o) ∈ allK g n := by
    refine List.mem_filter.mpr ⟨?_, by simp [ht]⟩
    refine List.mem_filterMap.mpr ⟨a, List.mem_range.mpr (hg a o e).2, ?_⟩
    rw [e]; rfl
  have hm2 : ∃ o', (allK g n).lookup a = some o' := by
    generalize allK g n = K at hm
    induction K with
    | nil => cases hm
    | cons q r ih =>
      obtain ⟨b, u⟩ := q
      rw [List.lookup_cons]
      cases hb : a == b with
      | true => exact ⟨u, rfl⟩
      | false =>
        rcases List.mem_cons.mp hm with z | z
        · cases z
          simp at hb
        · exact ih z
  obtain ⟨o', h2⟩ := hm2
  have := (He.frT_mem h2).1
  rw [e] at this
  cases this
  exact h2
theorem dB_ok {d : D} {u : Value} {G : GC} (e : dB d u = true) : ∃ v, RelV v u ∧ ∀ H ρ, Rep G none H ρ d v := by
  cases d with
  | non => cases u with
    | none => exact ⟨.non, rfl, fun _ _ => .non⟩
    | _ => cases e
  | bl a => cases u with
    | bool b =>
      have e : a = b := by simpa [dB] using e
      subst e
      exact ⟨.bl a, rfl, fun _ _ => .bl a⟩
    | _ => cases e
  | int a => cases u with
    | int b t =>
      have e : a = b := by simpa [dB] using e
      subst e
      exact ⟨.int a, ⟨t, rfl⟩, fun _ _ => .int a⟩
    | _ => cases e
  | str a => cases u with
    | str b t =>
      have e : a = b := by simpa [dB] using e
      subst e
      exact ⟨.str a, ⟨t, rfl⟩, fun _ _ => .str a⟩
    | _ => cases e
  | _ => cases e
theorem all_zip {G : GC} {f : D → Value → Bool} (hf : ∀ d u, f d u = true → ∃ v, RelV v u ∧ ∀ H ρ, Rep G none H ρ d v) : ∀ {l : List D} {us : List Value}, l.length = us.length → (l.zip us).all (fun p => f p.1 p.2) = true → ∃ vs, Vals vs us ∧ ∀ H ρ, Reps G none H ρ l vs
  | [], [], _, _ => ⟨[], .nil, fun _ _ => .nil⟩
  | [], _ :: _, h, _ => by cases h
  | _ :: _, [], h, _ => by cases h
  | d :: l, u :: us, h, e => by
    rw [List.zip_cons_cons, List.all_cons, Bool.and_eq_true] at e
    obtain ⟨v, r1, r2⟩ := hf d u e.1
    obtain ⟨vs, q1, q2⟩ := all_zip hf (by simpa using h) e.2
    exact ⟨v :: vs, .cons r1 q1, fun H ρ => .cons (r2 H ρ) (q2 H ρ)⟩
theorem conG_ok {G : GC} (hK : G.K = allK g n) (hg : ∀ a o, g a = some o → h.get? a = some o ∧ a < n) : ∀ (k : Nat) (d : D) (u : Value), conG g k d u = true → ∃ v, RelV v u ∧ ∀ H ρ, Rep G none H ρ d v
  | 0, _, _, e => by cases e
  | k + 1, d, u, e => by
    unfold conG at e
    split at e
    · rename_i l a
      split at e
      · rename_i c od its m sl hga
        simp only [Bool.and_eq_true, decide_eq_true_eq] at e
        obtain ⟨⟨⟨e1, e2⟩, e3⟩, e4⟩ := e
        subst e1
        obtain ⟨vs, q1, q2⟩ := all_zip (fun d u => conG_ok hK hg k d u) e3 e4
        exact ⟨.ref a, rfl, fun H ρ => .tup (.inr ⟨_, its, m, by rw [hK]; exact allK_at hg hga rfl, rfl, rfl, e2, q1⟩) (q2 H ρ)⟩
      · cases e
    · exact dB_ok e
theorem noTab {oc : Value} {od : Option Addr} {dt : Data} {sl : Array (Option Value)} (h : ∀ vs, dt ≠ .fields vs) : He.emptyTab ⟨oc, od, dt, sl⟩ = false := by
  cases oc <;> first | rfl | skip
  cases od <;> first | rfl | skip
  cases dt <;> first | rfl | exact absurd rfl (h _)
theorem dflG_ok {G : GC} (hK : G.K = allK g n) (hg : ∀ a o, g a = some o → h.get? a = some o ∧ a < n) {dV : Value} {l : List D} (e : dflG g dV l = true) : ∃ dl dvs, DflK G.K dV dl ∧ Vals dvs dl ∧ ∀ H ρ, Reps G none H ρ l dvs := by
  unfold dflG at e
  split at e
  · have : l = [] := by simpa using e
    subst this
    exact ⟨[], [], .inl ⟨rfl, rfl⟩, .nil, fun _ _ => .nil⟩
  · split at e
    · rename_i T _ oc od its m sl hga
      simp only [Bool.and_eq_true, decide_eq_true_eq] at e
      obtain ⟨vs, q1, q2⟩ := all_zip (fun d u => conG_ok hK hg 3 d u) e.1.2 e.2
      exact ⟨its.toList, vs, .inr ⟨T, _, m, rfl, by rw [hK]; exact allK_at hg hga (noTab fun _ z => nomatch z), by simp⟩, q1, q2⟩
    · cases e
  · cases e
theorem look1 {a : Addr} {o : Obj} : ([(a, o)] : PySem.W.Frag).lookup a = some o := by simp [List.lookup]
theorem dflG_nil {dV : Value} (e : dflG g dV [] = true) : dV = .none := by
  unfold dflG at e
  split at e
  · rfl
  · split at e
    · simp at e
    · cases e
  · cases e
theorem fi_ok {o : Obj} {i : FI} (e1 : (fiO g o i).1 = true) (e2 : (fiO g o i).2 = i.val) :
    ∃ (f : Addr) (oc : Value) (od : Option Addr) (dV kV doc pm : Value) (an : Option Addr) (cdv ct : Value) (osl : Array (Option Value)),
      PySem.W.nsIn [(mainGlobals, o)] mainGlobals (Str.ofString i.x) = some (some (.ref f)) ∧ g f = some ⟨oc, od, .func (PySem.W.fnOf (Str.ofString i.x) (Str.ofString i.x) i.d.params i.d.body i.d.scope dV kV doc pm an cdv ct), osl⟩ ∧
      codG g cdv i = true ∧ dflG g dV i.fn.dfl = true := by
  unfold fiO at e1 e2
  split at e1
  · rename_i f hns
    rw [hns] at e2
    dsimp only at e2
    split at e1
    · rename_i oc od fd osl hf
      rw [hf] at e2
      dsimp only at e1 e2
      rw [Bool.and_eq_true] at e1
      obtain ⟨n1, n2, n3, n4, n5, n6, n7, n8, n9, n10, n11, n12, n13, n14, n15⟩ := fd
      unfold FI.val at e2
      simp only [Option.some.injEq, Prod.mk.injEq] at e2
      obtain ⟨h1, h2, h3, h4, h5, h6, h7, h8⟩ := e2
      subst h1 h2 h3 h4 h5 h6 h7 h8
      exact ⟨f, oc, od, n8, n9, n10, n11, n12, n13, n14, osl, hns, hf, e1.1, e1.2⟩
    · cases e1
  · cases e1
theorem cod_ok {cdv : Value} {i : FI} (e : codG g cdv i = true) : ∃ c co, cdv = .ref c ∧ g c = some co ∧ He.emptyTab co = false ∧ PySem.W.codeIn [(c, co)] (.ref c) (Str.ofString i.x) = true ∧
    (i.d.lam = true → PySem.W.codeHdIn [(c, co)] c (tabG co) = true ∧ ∃ po, g (tabG co) = some po ∧ He.emptyTab po = true) := by
  unfold codG at e
  split at e
  · rename_i c
    split at e
    · rename_i co hc
      simp only [Bool.and_eq_true, Bool.not_eq_true', Bool.or_eq_true] at e
      refine ⟨c, co, rfl, hc, e.1.1, e.1.2, fun hl => ?_⟩
      rcases e.2 with z | z
      · rw [hl] at z; cases z
      · refine ⟨z.1, ?_⟩
        have z2 := z.2
        split at z2
        · rename_i po hp
          exact ⟨po, hp, z2⟩
        · cases z2
    · cases e
  · cases e
theorem obs_ok {fi : List FI} {gl : List (String × D)} {bs : List Str} {file : Str} {ecs : List EC} (e : obsV fi gl bs file ecs g = valV fi) : ∃ o, g mainGlobals = some o ∧ He.emptyTab o = false ∧ (∀ i ∈ fi, (fiO g o i).1 = true ∧ (fiO g o i).2 = i.val) ∧
    (∀ p ∈ gl, ∃ u, PySem.W.nsIn [(mainGlobals, o)] mainGlobals (Str.ofString p.1) = some (some u) ∧ conG g 3 p.2 u = true) ∧ (∀ b ∈ bs, PySem.W.nsIn [(mainGlobals, o)] mainGlobals b = some none) ∧ ((fi.filter (·.d.lam)).map fun i => (ptO g o i).2).Nodup ∧ obsE g o file ecs = true := by
  unfold obsV valV at e
  split at e
  · rename_i o ho
    rw [Prod.mk.injEq] at e
    obtain ⟨e1, e2⟩ := e
    simp only [Bool.and_eq_true, Bool.not_eq_true', List.all_eq_true, decide_eq_true_eq] at e1
    obtain ⟨⟨⟨⟨⟨a1, a2⟩, a3⟩, a4⟩, a5⟩, a6⟩ := e1
    refine ⟨o, ho, a1, fun i hi => ⟨a2 i hi, ?_⟩, fun p hp => ?_, fun b hb => He.eqO_ok (a4 b hb), a5, a6⟩
    · exact List.map_inj_left.mp e2 i hi
    · have := a3 p hp
      split at this
      · rename_i u hu
        exact ⟨u, hu, this⟩
      · cases this
  · cases congrArg Prod.fst e
end
end Ev
set_option Elab.async false
set_option linter.all false
set_option maxRecDepth 100000
set_option maxHeartbeats 4000000
/-! Ev23: the end of a law. -/
namespace Ev
open PySem PySem.Spec PyProof.Rows L2

def progOf (fi : List FI) (gl : List (String × D)) (ecs : List EC) (lams : Nat → Option Lm) : Prog :=
  { fns := fun x => (fi.find? fun i => i.x == x).map (·.fn), glob := fun x => match gl.find? fun p => p.1 == x with
      | some p => some p.2
      | none => if (fi.find? fun i => i.x == x).isSome then some (.fn x) else none,
    exc := fun x => (ecs.find? fun e => e.cn == x).map fun e => (e.sup, e.fs), lams := lams }
def esOf (ecs : List EC) : List (String × Nat) := ecs.map fun e => (e.cn, e.fs.length)
def okAll (fi : List FI) (bs : List Str) (ecs : List EC) (lams : Nat → Option Lm) : Bool := (ecs.all fun e => (ecs.find? fun f => f.cn == e.cn).isSome && decide ((ecs.find? fun f => f.cn == e.cn).map (·.fs.length) = some e.fs.length)) && fi.all fun i => okFn (fi.map (·.x)) bs (esOf ecs) (oklOf (fi.map (·.x)) bs lams) i.x i.d i.fn
def lamQ (i : FI) : Str := (Str.ofString i.x ++ ".<locals>.") ++ "<lambda>"
section
variable {fi : List FI} {gl : List (String × D)} {bs : List Str} {file : Str} {ecs : List EC} {lams : Nat → Option Lm} {g : Addr → Option Obj} {n : Nat} {h : Heap} {o : Obj}
theorem pt_ok {i : FI} {f c : Addr} {co : Obj} {oc : Value} {od : Option Addr} {fd : FuncData} {osl : Array (Option Value)} (h1 : PySem.W.nsIn [(mainGlobals, o)] mainGlobals (Str.ofString i.x) = some (some (.ref f))) (h2 : g f = some ⟨oc, od, .func fd, osl⟩) (h3 : fd.code = .ref c) (h4 : g c = some co) : ptO g o i = (c, tabG co) := by
  unfold ptO
  rw [h1]
  dsimp only
  rw [h2]
  dsimp only
  rw [h3]
  dsimp only
  rw [h4]
theorem nodup_map {α β : Type} {f : α → β} : ∀ {l : List α}, (l.map f).Nodup → ∀ a ∈ l, ∀ b ∈ l, f a = f b → a = b
  | [], _, a, ha, _, _, _ => by cases ha
  | x :: l, nd, a, ha, b, hb, e => by
    rw [List.map_cons, List.nodup_cons] at nd
    rcases List.mem_cons.mp ha with h1 | h1 <;> rcases List.mem_cons.mp hb with h2 | h2
    · rw [h1, h2]
    · exact absurd (List.mem_map.mpr ⟨b, h2, by rw [← e, h1]⟩) nd.1
    · exact absurd (List.mem_map.mpr ⟨a, h1, by rw [e, h2]⟩) nd.1
    · exact nodup_map nd.2 a h1 b h2 e
theorem codeIn1 {K : PySem.W.Frag} {c : Addr} {co : Obj} {q : Str} (hk : K.lookup c = some co) (h : PySem.W.codeIn [(c, co)] (.ref c) q = true) : PySem.W.codeIn K (.ref c) q = true := by
  unfold PySem.W.codeIn at h ⊢
  dsimp only at h ⊢
  rw [look1] at h
  rw [hk]
  exact h
theorem codeHd1 {K : PySem.W.Frag} {c P : Addr} {co : Obj} (hk : K.lookup c = some co) (h : PySem.W.codeHdIn [(c, co)] c P = true) : PySem.W.codeHdIn K c P = true := by
  unfold PySem.W.codeHdIn at h ⊢
  rw [look1] at h
  rw [hk]
  exact h
theorem one_in {a : Addr} {o : Obj} (hh : h.get? a = some o) : PySem.W.Frag.In [(a, o)] h := fun b u e => by
  simp only [List.lookup_cons, List.lookup_nil] at e
  split at e
  · rename_i q
    cases e
    rw [beq_iff_eq.mp q]
    exact hh
  · cases e
def gcOf (fi : List FI) (bs : List Str) (lams : Nat → Option Lm) (g : Addr → Option Obj) (n : Nat) (o : Obj) (mg : Str → Option Value) : GC :=
  ⟨allK g n, mg, (fi.filter (·.d.lam)).map fun i => ((ptO g o i).2, lamQ i), oklOf (fi.map (·.x)) bs lams⟩
theorem find_of {x : String} {fn : Fn} (h : (progOf fi gl ecs lams).fns x = some fn) : ∃ i ∈ fi, i.x = x ∧ i.fn = fn ∧ (fi.find? fun i => i.x == x) = some i := by
  have h : (fi.find? fun i => i.x == x).map (·.fn) = some fn := h
  cases e : fi.find? fun i => i.x == x with
  | none => rw [e] at h; cases h
  | some i =>
    rw [e] at h
    have h1 := List.find?_some e
    exact ⟨i, List.mem_of_find?_eq_some e, by simpa using h1, Option.some.inj h, rfl⟩
/-- one def, as the layer wants it -/
theorem def_facts (hg : ∀ a o, g a = some o → h.get? a = some o ∧ a < n) (ho : obsV fi gl bs file ecs g = valV fi) (hm : g mainGlobals = some o) {mg : Str → Option Value} (G : h.Ns mainGlobals mg) {i : FI} (hi : i ∈ fi) :
    ∃ (f : Addr) (oc : Value) (od : Option Addr) (dV kV doc pm : Value) (an : Option Addr) (c : Addr) (ct : Value) (osl : Array (Option Value)) (co : Obj), mg (Str.ofString i.x) = some (.ref f) ∧ PySem.W.keepIn (allK g n) (.ref f) = true ∧
      (allK g n).lookup f = some ⟨oc, od, .func (PySem.W.fnOf (Str.ofString i.x) (Str.ofString i.x) i.d.params i.d.body i.d.scope dV kV doc pm an (.ref c) ct), osl⟩ ∧ PySem.W.codeIn (allK g n) (.ref c) (Str.ofString i.x) = true ∧ dflG g dV i.fn.dfl = true ∧
      (i.d.lam = true → ptO g o i = (c, tabG co) ∧ PySem.W.codeHdIn (allK g n) c (tabG co) = true ∧ ∃ po, g (tabG co) = some po ∧ He.emptyTab po = true) := by
  obtain ⟨o', hm', _, hfi, _⟩ := obs_ok ho
  rw [hm] at hm'
  cases hm'
  obtain ⟨e1, e2⟩ := hfi i hi
  obtain ⟨f, oc, od, dV, kV, doc, pm, an, cdv, ct, osl, h1, h2, h3, h4⟩ := fi_ok e1 e2
  obtain ⟨c, co, rfl, hc, ht, hcd, hl⟩ := cod_ok h3
  have lf := allK_at hg h2 (noTab fun _ z => nomatch z)
  have lc := allK_at hg hc ht
  refine ⟨f, oc, od, dV, kV, doc, pm, an, c, ct, osl, co, PySem.W.mg_of (one_in (hg _ _ hm).1) G h1, ?_, lf, codeIn1 lc hcd, h4, fun e => ?_⟩
  · unfold PySem.W.keepIn
    dsimp only
    rw [lf]
  · obtain ⟨k1, k2⟩ := hl e
    exact ⟨pt_ok h1 h2 rfl hc, codeHd1 lc k1, k2⟩
theorem frT_le (hg : ∀ a o, g a = some o → h.get? a = some o ∧ a < n) {as : List Addr} : FLe (He.frT g as) (allK g n) := fun a o e => by
  obtain ⟨h1, h2⟩ := He.frT_mem e
  exact allK_at hg h1 h2
theorem frX_le (hg : ∀ a o, g a = some o → h.get? a = some o ∧ a < n) {C : Addr} : FLe (frX g C) (allK g n) := frT_le hg
theorem bs_none (hg : ∀ a o, g a = some o → h.get? a = some o ∧ a < n) (ho : obsV fi gl bs file ecs g = valV fi) (hm : g mainGlobals = some o) {mg : Str → Option Value} (G : h.Ns mainGlobals mg) {b : Str} (hb : b ∈ bs) : mg b = none := by
  obtain ⟨o', hm', _, _, _, h5, _⟩ := obs_ok ho
  rw [hm] at hm'
  cases hm'
  exact PySem.W.mg_none_of (one_in (hg _ _ hm).1) G (h5 b hb)
theorem ec_of {cn : String} {p : List String × List String} (h : (progOf fi gl ecs lams).exc cn = some p) : ∃ e ∈ ecs, e.cn = cn ∧ p = (e.sup, e.fs) := by
  have h : (ecs.find? fun e => e.cn == cn).map (fun e => (e.sup, e.fs)) = some p := h
  obtain ⟨e, h1, h2⟩ := Option.map_eq_some_iff.mp h
  exact ⟨e, List.mem_of_find?_eq_some h1, by simpa using List.find?_some h1, h2.symm⟩
theorem world_of {P : Program} {w : World} {base : Heap} (hg : ∀ a o, g a = some o → h.get? a = some o ∧ a < n) (ho : obsV fi gl bs file ecs g = valV fi) (hm : g mainGlobals = some o) {mg : Str → Option Value} (G : h.Ns mainGlobals mg)
    (hfile : P.main.file = file) (htop : (P.main.scope.names.lookup ("super" : Str)).isSome = false) (hsup : ("super" : Str) ∈ bs) (hval : ("ValueError" : Str) ∈ bs) (hok : okAll fi bs ecs lams = true) (hT : ∀ i ∈ fi, i.d.lam = true → LamX.TabB base mg (ptO g o i).1 (ptO g o i).2) :
    World1 (gcOf fi bs lams g n o mg) P w base (progOf fi gl ecs lams) (fi.map (·.x)) bs (esOf ecs) (fun x => (fi.find? fun i => i.x == x).map (·.d)) where
  fn := fun x fn hx => by
    obtain ⟨i, hi, rfl, rfl, hf⟩ := find_of hx
    obtain ⟨f, oc, od, dV, kV, doc, pm, an, c, ct, osl, co, k1, k2, k3, k4, k5, k6⟩ := def_facts hg ho hm G hi
    obtain ⟨dl, dvs, d1, d2, d3⟩ := dflG_ok (G := gcOf fi bs lams g n o mg) rfl hg k5
    refine ⟨i.d, f, oc, od, dV, kV, doc, pm, an, .ref c, ct, osl, dl, dvs, by rw [hf]; rfl, List.all_eq_true.mp (Bool.and_eq_true_iff.mp hok).2 i hi, k1, k2, k3, k4, d1, d2, d3, fun hl => ?_⟩
    obtain ⟨q1, q2, q3⟩ := k6 hl
    have t := hT i hi hl
    rw [q1] at t
    refine ⟨c, tabG co, rfl, t, List.mem_map.mpr ⟨i, List.mem_filter.mpr ⟨hi, hl⟩, by rw [q1]; rfl⟩, fun p hp e => ?_⟩
    obtain ⟨j, hj, e2⟩ := List.mem_map.mp hp
    obtain ⟨o', hm', _, _, _, _, nd, _⟩ := obs_ok ho
    rw [hm] at hm'
    cases hm'
    have hij : j = i := nodup_map nd j hj i (List.mem_filter.mpr ⟨hi, hl⟩) (by
      show (ptO g o j).2 = (ptO g o i).2
      rw [q1, ← e, ← e2])
    rw [← e2, hij]
    rfl
  hfs := fun x hx => by
    obtain ⟨i, hi, rfl⟩ := List.mem_map.mp hx
    obtain ⟨f, oc, od, dV, kV, doc, pm, an, c, ct, osl, co, k1, k2, _⟩ := def_facts hg ho hm G hi
    exact ⟨f, k1, k2⟩
  hbs := fun b hb => by
    obtain ⟨o', hm', _, _, _, h5, _⟩ := obs_ok ho
    rw [hm] at hm'
    cases hm'
    exact PySem.W.mg_none_of (one_in (hg _ _ hm).1) G (h5 b hb)
  glob := fun x d hx => by
    have hx : (match gl.find? fun p => p.1 == x with
      | some p => some p.2
      | none => if (fi.find? fun i => i.x == x).isSome then some (.fn x) else none) = some d := hx
    cases e : gl.find? fun p => p.1 == x with
    | none =>
      rw [e] at hx
      dsimp only at hx
      cases e2 : fi.find? fun i => i.x == x with
      | none => rw [e2] at hx; cases hx
      | some i =>
        rw [e2] at hx
        have hx : some (D.fn x) = some d := hx
        cases hx
        have hxi : i.x = x := by simpa using List.find?_some e2
        obtain ⟨f, oc, od, dV, kV, doc, pm, an, c, ct, osl, co, k1, k2, _⟩ := def_facts hg ho hm G (List.mem_of_find?_eq_some e2)
        rw [hxi] at k1
        exact ⟨.ref f, .ref f, k1, rfl, fun H ρ => .fn k1 k2⟩
    | some p =>
      rw [e] at hx
      have hd : p.2 = d := Option.some.inj hx
      have hpx : p.1 = x := by simpa using List.find?_some e
      obtain ⟨o', hm', _, _, h4, _⟩ := obs_ok ho
      rw [hm] at hm'
      cases hm'
      obtain ⟨u, hu, hc⟩ := h4 p (List.mem_of_find?_eq_some e)
      obtain ⟨v, r1, r2⟩ := conG_ok (G := gcOf fi bs lams g n o mg) rfl hg 3 p.2 u hc
      rw [← hpx, ← hd]
      exact ⟨u, v, PySem.W.mg_of (one_in (hg _ _ hm).1) G hu, r1, r2⟩
  lam := fun j L => rfl
  es := fun q hq => by
    obtain ⟨e, he, rfl⟩ := List.mem_map.mp hq
    have := List.all_eq_true.mp (Bool.and_eq_true_iff.mp hok).1 e he
    simp only [Bool.and_eq_true, decide_eq_true_eq] at this
    obtain ⟨_, h2⟩ := this
    cases hf : ecs.find? fun f => f.cn == e.cn with
    | none => rw [hf] at h2; cases h2
    | some f =>
      rw [hf] at h2
      exact ⟨(f.sup, f.fs), by show (ecs.find? fun f => f.cn == e.cn).map _ = _; rw [hf]; rfl, Option.some.inj h2⟩
  exc := fun cn p hp => by
    obtain ⟨e, he, rfl, rfl⟩ := ec_of hp
    obtain ⟨o', hm', _, _, _, _, _, hE⟩ := obs_ok ho
    rw [hm] at hm'
    cases hm'
    obtain ⟨h1, h2, _⟩ := obsE_ok hE he
    exact ⟨_, PySem.W.mg_of (one_in (hg _ _ hm).1) G h1, ecB_ok (frX_le hg) h2 hfile htop (bs_none hg ho hm G hsup)⟩
  isx := fun κ hκ cn y b C hb hC => by
    unfold Kap.isx at hb
    rw [hκ] at hb
    cases hp : (progOf fi gl ecs lams).exc cn with
    | none => rw [hp] at hb; cases hb
    | some p =>
      rw [hp] at hb
      obtain ⟨e, he, rfl, hpe⟩ := ec_of hp
      obtain ⟨o', hm', _, _, _, _, _, hE⟩ := obs_ok ho
      rw [hm] at hm'
      cases hm'
      obtain ⟨h1, h2, h3, h4⟩ := obsE_ok hE he
      have m1 : mg (Str.ofString e.cn) = some (.ref (adrG o e.cn)) := PySem.W.mg_of (one_in (hg _ _ hm).1) G h1
      have hC : mg (Str.ofString e.cn) = some (.ref C) := hC
      rw [m1] at hC
      cases hC
      have T := ecB_ok (P := P) (mg := mg) (frX_le hg) h2 hfile htop (bs_none hg ho hm G hsup)
      dsimp only at hb
      split at hb
      · rename_i hy
        have hb : decide (y ∈ p.1) = b := Option.some.inj hb
        rw [hpe] at hb
        rw [Bool.or_eq_true] at hy
        by_cases hyc : ((progOf fi gl ecs lams).exc y).isSome = true
        · obtain ⟨p2, hp2⟩ := Option.isSome_iff_exists.mp hyc
          obtain ⟨e2, he2, rfl, _⟩ := ec_of hp2
          obtain ⟨g1, g2, _⟩ := obsE_ok hE he2
          have m2 : mg (Str.ofString e2.cn) = some (.ref (adrG o e2.cn)) := PySem.W.mg_of (one_in (hg _ _ hm).1) G g1
          have T2 := ecB_ok (P := P) (mg := mg) (frX_le hg) g2 hfile htop (bs_none hg ho hm G hsup)
          have hsub : PySem.W.subIn (allK g n) (.ref (adrG o e.cn)) (.ref (adrG o e2.cn)) = some b := by
            rw [← hb]; exact mroIn_le (frT_le hg) (h3 e2 he2)
          have hk : PySem.W.kitCls (allK g n) (.ref (adrG o e.cn)) (.ref (adrG o e2.cn)) = some b := by
            show (if ((PySem.W.clsIn (allK g n) (adrG o e2.cn)).isSome && PySem.W.typeIn (allK g n) (.ref (adrG o e2.cn)) == some (.type "type")) = true then PySem.W.subIn (allK g n) (.ref (adrG o e.cn)) (.ref (adrG o e2.cn)) else none) = some b
            have c2 : (PySem.W.clsIn (allK g n) (adrG o e2.cn)).isSome = true := by
              obtain ⟨cd, hc, _⟩ := PySem.W.any_some T2.is.hd
              rw [hc]; rfl
            rw [if_pos (by rw [c2, T2.tyC]; simp)]
            exact hsub
          refine ⟨_, .inl ⟨m2, _, rfl⟩, ?_, ?_⟩
          · show (if (Value.ref (adrG o e.cn) == Value.ref (adrG o e2.cn)) = true then some true else PySem.W.kitCls (allK g n) (.ref (adrG o e.cn)) (.ref (adrG o e2.cn))) = some b
            split
            · rename_i hq
              have hq : adrG o e.cn = adrG o e2.cn := Value.ref.inj (beq_iff_eq.mp hq)
              have := T.own
              rw [← hq] at hsub
              have hsub : PySem.W.mroIn (allK g n) (adrG o e.cn) (.ref (adrG o e.cn)) = some b := hsub
              rw [show PySem.W.mroIn (allK g n) (adrG o e.cn) (.ref (adrG o e.cn)) = some true from T.own] at hsub
              exact hsub
            · exact hk
          · show (if (PySem.W.subIn (allK g n) (.ref (adrG o e2.cn)) (.type "BaseException") == some true) = true then PySem.W.kitCls (allK g n) (.ref (adrG o e.cn)) (.ref (adrG o e2.cn)) else none) = some b
            rw [if_pos (by rw [show PySem.W.subIn (allK g n) (.ref (adrG o e2.cn)) (.type "BaseException") = some true from T2.exC]; rfl)]
            exact hk
        · have hyv : y = "ValueError" := by
            rcases hy with hy | hy
            · exact absurd hy hyc
            · simpa using hy
          subst hyv
          have hsub : PySem.W.subIn (allK g n) (.ref (adrG o e.cn)) (.type "ValueError") = some b := by
            rw [← hb]; exact subIn_le (frT_le hg) h4
          have hk : PySem.W.kitCls (allK g n) (.ref (adrG o e.cn)) (.type "ValueError") = some b := by
            show (if PySem.W.kitMeta "ValueError" = true then PySem.W.subIn (allK g n) (.ref (adrG o e.cn)) (.type "ValueError") else none) = some b
            rw [if_pos (by kernel_rfl)]
            exact hsub
          refine ⟨_, .inr ⟨rfl, bs_none hg ho hm G hval, rfl⟩, ?_, ?_⟩
          · show (if (Value.ref (adrG o e.cn) == Value.type "ValueError") = true then some true else PySem.W.kitCls (allK g n) (.ref (adrG o e.cn)) (.type "ValueError")) = some b
            rw [if_neg (by intro z; cases (beq_iff_eq.mp z))]
            exact hk
          · show (if (PySem.W.subIn (allK g n) (.type "ValueError") (.type "BaseException") == some true) = true then PySem.W.kitCls (allK g n) (.ref (adrG o e.cn)) (.type "ValueError") else none) = some b
            rw [if_pos (by kernel_rfl)]
            exact hk
      · cases hb
end
end Ev
set_option Elab.async false
set_option linter.all false
set_option maxRecDepth 100000
set_option maxHeartbeats 4000000
/-! Ev24: the end of a law. -/
namespace Ev
open PySem PySem.Spec PyProof.Rows L2

/-- the script as it is read -/
def scr (ns : List Int) : D := .rl (ns.map .int)
theorem reps_ints {G : GC} {H : Hp} {ρ : List Addr} {c : Option CC} : ∀ ns : List Int, Reps G c H ρ (ns.map .int) (ns.map V.int)
  | [] => .nil
  | n :: r => .cons (.int n) (reps_ints r)
/-- what is tracked when the law starts: its tables, its script -/
def H0 (K : PySem.W.Frag) (ts : List Addr) (a : Addr) (o : Obj) (xs : List V) : Hp := fun b =>
  if b ∈ ts then some (.tbl #[]) else if b = a ∧ K.lookup a = none then some (.frz o (.lst xs)) else none
structure Starts (P : Program) (w : World) (K : PySem.W.Frag) (mg : Str → Option Value) (cs : List (Addr × Addr)) (s₁ : Shared) (a : Addr) (xs : List V) (H : Hp) (base : Heap) : Prop where
  e0 : Env0 P w K mg base callerA [] s₁ H
  tb : ∀ p ∈ cs, H p.2 = some (.tbl #[])
  tab : ∀ p ∈ cs, LamX.TabB base mg p.1 p.2
  sq : SqR K H a xs
  fin : ∀ (H' : Hp) (s' : Shared), Un [] [] H H' s₁.heap s'.heap → HOk P w H' s'.heap → OldK s₁.heap s'.heap
theorem starts {P : Program} {w : World} {K : PySem.W.Frag} {mg mb : Str → Option Value} {cs : List (Addr × Addr)} {s₁ : Shared} {a : Addr} {vs : List Value} {ns : List Int}
    (KX : K.In s₁.heap) (G1 : s₁.heap.Ns mainGlobals mg) (G2 : s₁.heap.Ns builtinsNs mb) (G3 : ∀ x : Str, x ≠ "__name__" → mb x = bootBuiltins x) (G4 : s₁.heap.NoLimit) (G5 : s₁.gens = #[])
    (T1 : ∀ p ∈ cs, s₁.heap.get? p.2 = some { cls := .none, data := .fields #[] }) (T2 : ∀ p ∈ cs, K.lookup p.2 = none) (T3 : ∀ p ∈ cs, PySem.W.CodeHd s₁.heap p.1 p.2)
    (B : ∃ (bm : Addr) (ob : Obj), mg "__builtins__" = some (.ref bm) ∧ bm ≠ builtinsNs ∧ s₁.heap.get? bm = some ob ∧ ob.cls = .type "module" ∧ ob.dict = some builtinsNs ∧ ob.data = .plain)
    (S1 : s₁.heap.get? a = some { cls := .type "list", data := .seq vs.toArray }) (S2 : IntsAre vs ns) (S3 : ns.length ≤ sizeLine) : ∃ H base, Starts P w K mg cs s₁ a (ns.map V.int) H base := by
  let o : Obj := { cls := .type "list", data := .seq vs.toArray }
  let H := H0 K (cs.map (·.2)) a o (ns.map V.int)
  have rv := vals_ints S2
  have hT : ∀ b ∈ cs.map (·.2), s₁.heap.get? b = some { cls := .none, data := .fields #[] } ∧ K.lookup b = none ∧ H b = some (.tbl #[]) := fun b hb => by
    obtain ⟨p, hp, e⟩ := List.mem_map.mp hb
    refine ⟨by rw [← e]; exact T1 p hp, by rw [← e]; exact T2 p hp, if_pos hb⟩
  have aT : a ∉ cs.map (·.2) := fun hb => by
    have := (hT a hb).1
    rw [S1] at this
    cases this
  -- where something is tracked
  have tr : ∀ b u, H b = some u → (b ∈ cs.map (·.2) ∧ u = .tbl #[]) ∨ (b = a ∧ K.lookup a = none ∧ u = .frz o (.lst (ns.map V.int))) := fun b u e => by
    have e : (if b ∈ cs.map (·.2) then some (HO.tbl #[]) else if b = a ∧ K.lookup a = none then some (.frz o (.lst (ns.map V.int))) else none) = some u := e
    split at e
    · rename_i hb
      cases e
      exact .inl ⟨hb, rfl⟩
    · split at e
      · rename_i h
        cases e
        exact .inr ⟨h.1, h.2, rfl⟩
      · cases e
  have off : ∀ b ob, s₁.heap.get? b = some ob → (∀ xs n, ob.data ≠ .seq xs n) → ob.data ≠ .fields #[] → H b = none := fun b ob e h1 h2 => by
    cases q : H b with
    | none => rfl
    | some u =>
      rcases tr b u q with ⟨hb, _⟩ | ⟨rfl, _⟩
      · rw [(hT b hb).1] at e
        cases e
        exact absurd rfl h2
      · rw [S1] at e
        cases e
        exact absurd rfl (h1 _ _)
  have bs : ∀ b ob, s₁.heap.get? b = some ob → H b = none → (hidT s₁.heap H).get? b = some ob := fun b ob e n => hidT_get e n
  have nsb : ∀ {d : Addr} {m : Str → Option Value}, s₁.heap.Ns d m → (hidT s₁.heap H).Ns d m := fun {d m} ⟨ob, es, ep, e, hd, r⟩ =>
    ⟨ob, es, ep, bs d ob e (off d ob e (fun xs n z => by rw [hd] at z; cases z) (fun z => by rw [hd] at z; cases z)), hd, r⟩
  have Kb : K.In (hidT s₁.heap H) := fun b ob e => bs b ob (KX b ob e) (by
    cases q : H b with
    | none => rfl
    | some u =>
      rcases tr b u q with ⟨hb, _⟩ | ⟨rfl, hk, _⟩
      · rw [(hT b hb).2.1] at e; cases e
      · rw [hk] at e; cases e)
  have hok : HOk P w H s₁.heap := fun b u e => by
    rcases tr b u e with ⟨hb, rfl⟩ | ⟨rfl, _, rfl⟩
    · exact (hT b hb).1
    · exact ⟨S1, by rw [List.length_map]; exact S3, vs, _, rv, S1⟩
  have mod : L2.Mod K mg (hidT s₁.heap H) := ⟨Kb, nsb G1, ⟨mb, nsb G2, G3⟩, by
    obtain ⟨mc, h1, h2⟩ := G4
    exact ⟨mc, nsb h1, h2⟩⟩
  refine ⟨H, hidT s₁.heap H, ⟨rfl, mod, fun b ob e => of_hidT e, Nat.le_of_eq (hidT_size _ _), trivial, fun b hb => absurd (show b ∈ ([] : List Addr) from hb) (by simp), hok, .of_eq G5⟩, fun p hp => (hT p.2 (List.mem_map.mpr ⟨p, hp, rfl⟩)).2.2, fun p hp => ?_, ?_, fun H' s' un hok' => ?_⟩
  · have hp2 := hT p.2 (List.mem_map.mpr ⟨p, hp, rfl⟩)
    refine ⟨?_, ?_, fun z => ?_⟩
    · obtain ⟨oc, us, file, tf, flags, tg, inF, text, tt, e1, r1, r2, r3, r4⟩ := T3 p hp
      refine ⟨oc, us, file, tf, flags, tg, inF, text, tt, bs _ _ e1 (off _ _ e1 (fun xs n z => by rw [r2] at z; cases z) fun z => ?_), r1, r2, r3, r4⟩
      rw [r2] at z
      cases z
      simp at r3
    · obtain ⟨bm, ob, b1, b2, b3, b4, b5, b6⟩ := B
      refine ⟨bm, ob, b1, b2, fun q => ?_, fun q => ?_, bs _ _ b3 (off _ _ b3 (fun xs n z => by rw [b6] at z; cases z) fun z => by rw [b6] at z; cases z), b4, b5, b6⟩
      · obtain ⟨od, es, ep, e, hd, _⟩ := G1
        rw [q, e] at b3
        cases b3
        rw [hd] at b6
        cases b6
      · rw [q, hp2.1] at b3
        cases b3
        cases b6
    · obtain ⟨od, es, ep, e, hd, _⟩ := G1
      rw [z, hp2.1] at e
      cases e
      cases hd
  · cases hk : K.lookup a with
    | some ob =>
      have e := KX a ob hk
      rw [S1] at e
      cases e
      exact .inr ⟨_, vs.toArray, _, hk, rfl, rfl, rfl, by rw [List.size_toArray, S2.length]; exact S3, by simpa using rv⟩
    | none =>
      refine .inl ⟨o, ?_⟩
      show (if a ∈ cs.map (·.2) then some (HO.tbl #[]) else if a = a ∧ K.lookup a = none then some (.frz o (.lst (ns.map V.int))) else none) = _
      rw [if_neg aT, if_pos ⟨rfl, hk⟩]
  · have grown : ∀ b ∈ cs.map (·.2), ∃ more : Array Value, s'.heap.get? b = some { cls := .none, data := .fields more } := fun b hb => by
      obtain ⟨more, z⟩ := un.tbls b #[] (hT b hb).2.2
      exact ⟨_, hok' b _ z⟩
    have same : ∀ b ob, b ∉ cs.map (·.2) → s₁.heap.get? b = some ob → s'.heap.get? b = some ob := fun b ob nb e => by
      cases q : H b with
      | none => exact un.keep b ob e q (by simp) (by simp)
      | some u =>
        rcases tr b u q with ⟨hb, _⟩ | ⟨rfl, _, rfl⟩
        · exact absurd hb nb
        · obtain ⟨e2, _⟩ := hok' _ _ (un.frzs _ _ _ q)
          rw [S1] at e
          cases e
          exact e2
    refine ⟨fun b ob e => ?_, fun b ob e => ?_⟩
    · by_cases hb : b ∈ cs.map (·.2)
      · obtain ⟨p, hp, ep⟩ := List.mem_map.mp hb
        obtain ⟨more, hm⟩ := grown b hb
        rw [(hT b hb).1] at e
        cases e
        exact .inr (.inl ⟨by rw [← ep]; exact ((T3 p hp).tab (T1 p hp)).isCodeTable, rfl, #[], more, rfl, by rw [Array.empty_append]; exact hm⟩)
      · exact .inl (same b ob hb e)
    · by_cases hb : b ∈ cs.map (·.2)
      · obtain ⟨more, hm⟩ := grown b hb
        exact ⟨_, hm⟩
      · exact ⟨ob, same b ob hb e⟩
section
variable {fi : List FI} {gl : List (String × D)} {bs : List Str} {file : Str} {ecs : List EC} {lams : Nat → Option Lm}
/-- what is to be shown of a law: its def, its answer -/
structure LawSays (fi : List FI) (gl : List (String × D)) (bs : List Str) (ecs : List EC) (lams : Nat → Option Lm) (k m : Nat) (x : String) (i : FI) : Prop where
  at_ : (fi.find? fun i => i.x == "law") = some i
  ps : i.fn.ps = [Str.ofString x]
  dfl : i.fn.dfl = []
  ok : okAll fi bs ecs lams = true
  sup : ("super" : Str) ∈ bs
  val : ("ValueError" : Str) ∈ bs
  says : ∀ ns : List Int, ns.length ≤ m → (∀ z ∈ ns, Builtin.Int.intBits z ≤ 1048576) → ∃ S', callD (progOf fi gl ecs lams) (kap (progOf fi gl ecs lams) k) "law" [scr ns] [] [] = .ok (.bl true) S'
theorem law_run {P : Program} {w : World} {k m : Nat} {x : String} {i : FI} (L : LawSays fi gl bs ecs lams k m x i) (hfile : P.main.file = file) (htop : (P.main.scope.names.lookup ("super" : Str)).isSome = false) {g : Addr → Option Obj} {n : Nat} {s₁ : Shared} {mg mb : Str → Option Value} {fa a : Addr} {vs : List Value} {ns : List Int} (hr : L2.Room (k + 1) callerA)
    (hg : ∀ a o, g a = some o → s₁.heap.get? a = some o ∧ a < n) (ho : obsV fi gl bs file ecs g = valV fi) (G : s₁.heap.Ns mainGlobals mg) (G2 : s₁.heap.Ns builtinsNs mb) (G3 : ∀ x : Str, x ≠ "__name__" → mb x = bootBuiltins x) (G4 : s₁.heap.NoLimit) (G5 : s₁.gens = #[])
    (B : ∃ (bm : Addr) (ob : Obj), mg "__builtins__" = some (.ref bm) ∧ bm ≠ builtinsNs ∧ s₁.heap.get? bm = some ob ∧ ob.cls = .type "module" ∧ ob.dict = some builtinsNs ∧ ob.data = .plain)
    (hfa : mg "law" = some (.ref fa)) (S1 : s₁.heap.get? a = some { cls := .type "list", data := .seq vs.toArray }) (S2 : IntsAre vs ns) (S3 : ns.length ≤ sizeLine) (S4 : ns.length ≤ m) (S5 : ∀ z ∈ ns, Builtin.Int.intBits z ≤ 1048576) :
    codeAny (model P w) callerA (.call (.ref fa) ⟨[.ref a], []⟩) (fun r s' => r = .ok (.ret (.bool true)) ∧ OldK s₁.heap s'.heap ∧ s'.os = s₁.os ∧ AllBare s'.gens) s₁ := by
  obtain ⟨o, hm, _⟩ := obs_ok ho
  have hi : i ∈ fi := List.mem_of_find?_eq_some L.at_
  have hix : i.x = "law" := by simpa using List.find?_some L.at_
  have tabs : ∀ p ∈ (fi.filter (·.d.lam)).map (ptO g o), PySem.W.codeHdIn (allK g n) p.1 p.2 = true ∧ ∃ po, g p.2 = some po ∧ He.emptyTab po = true := fun p hp => by
    obtain ⟨j, hj, e⟩ := List.mem_map.mp hp
    obtain ⟨hj1, hj2⟩ := List.mem_filter.mp hj
    obtain ⟨_, _, _, _, _, _, _, _, _, _, _, _, _, _, _, _, _, q⟩ := def_facts hg ho hm G hj1
    obtain ⟨q1, q2, q3⟩ := q hj2
    rw [← e, q1]
    exact ⟨q2, q3⟩
  obtain ⟨H, base, st⟩ := starts (P := P) (w := w) (cs := (fi.filter (·.d.lam)).map (ptO g o)) (allK_in hg) G G2 G3 G4 G5 (fun p hp => by
    obtain ⟨_, po, h1, h2⟩ := tabs p hp
    rw [(hg _ _ h1).1, He.emptyTab_eq h2]) (fun p hp => by
    obtain ⟨_, po, h1, h2⟩ := tabs p hp
    exact He.frT_none h1 h2) (fun p hp => PySem.W.codeHd_of_K (allK_in hg) (tabs p hp).1) B S1 S2 S3
  have W1 := world_of (P := P) (w := w) (base := base) (gl := gl) (lams := lams) hg ho hm G hfile htop L.sup L.val L.ok fun j hj hlam => st.tab _ (List.mem_map.mpr ⟨j, List.mem_filter.mpr ⟨hj, hlam⟩, rfl⟩)
  have sr : SRep (gcOf fi bs lams g n o mg) H [] [] := ⟨rfl, .nil, fun _ _ _ e _ => by simp at e, fun p hp => by
    obtain ⟨j, hj, e⟩ := List.mem_map.mp hp
    rw [← e]
    exact LamX.TabS.nil (st.tb _ (List.mem_map.mpr ⟨j, hj, rfl⟩))⟩
  obtain ⟨S', hS⟩ := L.says ns S4 S5
  have run := (kap_ok W1 (k + 1)).run "law" fa hfa callerA [] s₁ H [.ref a] [] [.ref a] [] [scr ns] [] [] [] (fun v _ => v = .bl true) (fun _ _ _ => False) ⟨hr, rfl⟩ st.e0 (.cons rfl .nil) (.cons (.rl st.sq (reps_ints ns)) .nil) .nil .nil sr (by
    have e : (kap (progOf fi gl ecs lams) (k + 1)).call "law" [scr ns] [] [] = .ok (.bl true) S' := hS
    rw [e]
    intro v H' ρ' _ _ _ r
    have r : Rep _ none H' ρ' (.bl true) v := r
    cases r; rfl)
  refine codeAny_mono run fun r s' hq => ?_
  cases r with
  | error e =>
    obtain ⟨_, _, _, _, _, _, _, _, _, _, _, _, z⟩ := hq
    exact z.elim
  | ok fl =>
    cases fl with
    | next => exact False.elim hq
    | brk => exact False.elim hq
    | cont => exact False.elim hq
    | ret u =>
      obtain ⟨v, H', os, bare, un, hok', r', q⟩ := hq
      have q : v = .bl true := q
      subst q
      obtain rfl : u = Value.bool true := r'
      exact ⟨rfl, st.fin H' s' un hok', os, bare⟩
/-- the end: by the head's Hook -/
theorem law_walk {l : PySem.W.OpenLaw} {k m : Nat} {x : String} {i : FI} (L : LawSays fi gl bs ecs lams k m x i) {q : Program} (hfile : l.prog.main.file = file) (htop : (l.prog.main.scope.names.lookup ("super" : Str)).isSome = false) {loose : List Str} {XP : (Str → Option Value) → Heap → Prop} {d : DefRec} (hn : l.most = some m) (hn2 : m ≤ sizeLine) (hdf : d.params.defaults = []) (hdn : d.name = "law") (hr : L2.Room (k + 1) callerA) :
    PySem.W.WalkO q loose XP (hookV fi gl bs file ecs).says l.row.toRowW d [] (fun f vs => PySem.call f vs) := by
  refine Att.attach_callB hn hdf fun w s₀ s₁ mg mb fa o pm cd doc a vs ns G Y ho hd hcd hmg hobj hints hlen hbits hg => ?_
  obtain ⟨g, n, h1, h2⟩ := Y
  rw [hdn] at hmg
  exact law_run L hfile htop hr h1 h2 G.T.g G.T.b G.T.builtins G.T.nolimit hg G.T.bmain hmg hobj hints (Nat.le_trans hlen hn2) hlen hbits
end
end Ev
set_option Elab.async false
set_option linter.all false
set_option maxRecDepth 100000
set_option exponentiation.threshold 20000
/-! Sp0: the evaluator by small steps of simp: loops stay folded (forB, lcB, whB). -/
namespace Sp
open PySem PySem.Spec PyProof.Rows L2 Ev

def seq (f : Fl) (k : List D → Store → Fl) : Fl := match f with
  | .nx σ S => k σ S
  | f => f
@[simp] theorem seq_nx (σ : List D) (S : Store) (k : List D → Store → Fl) : seq (.nx σ S) k = k σ S := nr rfl
@[simp] theorem seq_rt (d : D) (S : Store) (k : List D → Store → Fl) : seq (.rt d S) k = .rt d S := nr rfl
@[simp] theorem seq_bk (σ : List D) (S : Store) (k : List D → Store → Fl) : seq (.bk σ S) k = .bk σ S := nr rfl
@[simp] theorem seq_ct (σ : List D) (S : Store) (k : List D → Store → Fl) : seq (.ct σ S) k = .ct σ S := nr rfl
@[simp] theorem seq_ex (c : String) (l σ : List D) (S : Store) (k : List D → Store → Fl) : seq (.ex c l σ S) k = .ex c l σ S := nr rfl
def Ec : Type := String → Option (List String)
def forB (κ : Kap) (ec : String → Option (List String)) (p : Pt) (src : Src) (b : Ss) (l : List D) (σ : List D) (S : Store) : Fl := forF p src (fun σ S => evSs κ ec b σ S) l σ S
def lcB (κ : Kap) (p : Pt) (σ : List D) (src : Src) (c : Eo) (e : E) (l : List D) (n : Nat) (S : Store) : R Unit := lcF p σ src (fun σ S => evC κ σ c S) (fun σ S => evE κ σ false e S) l n S
def whB (κ : Kap) (ec : String → Option (List String)) (c : E) (b : Ss) (n : Nat) (σ : List D) (S : Store) : Fl := whF (fun σ S => evE κ σ true c S) (fun σ S => evSs κ ec b σ S) n σ S
def isUns : D → Bool
  | .uns => true
  | _ => false
def varD (m : Bool) (o : Option D) (S : Store) : R D := match o with
  | some d => if isUns d = true then .bad else fin m (.ok d S)
  | none => .bad
theorem varD_some {m : Bool} {d : D} {S : Store} (h : isUns d = false) : varD m (some d) S = fin m (.ok d S) := by simp [varD, h]
@[simp] theorem varD_int (m : Bool) (i : Int) (S : Store) : varD m (some (.int i)) S = fin m (.ok (.int i) S) := nr rfl
@[simp] theorem varD_bl (m : Bool) (i : Bool) (S : Store) : varD m (some (.bl i)) S = fin m (.ok (.bl i) S) := nr rfl
@[simp] theorem varD_non (m : Bool) (S : Store) : varD m (some .non) S = fin m (.ok .non S) := nr rfl
@[simp] theorem varD_str (m : Bool) (i : Str) (S : Store) : varD m (some (.str i)) S = fin m (.ok (.str i) S) := nr rfl
@[simp] theorem varD_tup (m : Bool) (i : List D) (S : Store) : varD m (some (.tup i)) S = fin m (.ok (.tup i) S) := nr rfl
@[simp] theorem varD_rl (m : Bool) (i : List D) (S : Store) : varD m (some (.rl i)) S = fin m (.ok (.rl i) S) := nr rfl
@[simp] theorem varD_ref (m : Bool) (i : Nat) (S : Store) : varD m (some (.ref i)) S = fin m (.ok (.ref i) S) := nr rfl
@[simp] theorem varD_fn (m : Bool) (i : String) (S : Store) : varD m (some (.fn i)) S = fin m (.ok (.fn i) S) := nr rfl
@[simp] theorem varD_clo (m : Bool) (k : Nat) (l : List D) (S : Store) : varD m (some (.clo k l)) S = fin m (.ok (.clo k l) S) := nr rfl
theorem isUns_flat {d : D} (h : d.flat = true) : isUns d = false := by cases d <;> simp [isUns, D.flat] at h ⊢
variable {κ : Kap} {ec : String → Option (List String)}
@[simp] theorem ev_var (σ : List D) (m : Bool) (i : Nat) (S : Store) : evE κ σ m (.var i) S = varD m σ[i]? S := by
  rw [evE]
  cases h : σ[i]? with
  | none => rfl
  | some d => cases d <;> rfl
@[simp] theorem ev2 : type_of% @evE.eq_2 := @evE.eq_2
@[simp] theorem ev3 : type_of% @evE.eq_3 := @evE.eq_3
@[simp] theorem ev4 : type_of% @evE.eq_4 := @evE.eq_4
@[simp] theorem ev5 : type_of% @evE.eq_5 := @evE.eq_5
@[simp] theorem ev6 : type_of% @evE.eq_6 := @evE.eq_6
@[simp] theorem ev7 : type_of% @evE.eq_7 := @evE.eq_7
@[simp] theorem ev8 : type_of% @evE.eq_8 := @evE.eq_8
@[simp] theorem ev9 : type_of% @evE.eq_9 := @evE.eq_9
def negD (m : Bool) (x : D) (S : Store) : R D := match x with
  | .int i => fin m (.ok (.int (-i)) S)
  | _ => .bad
@[simp] theorem negD_int (m : Bool) (i : Int) (S : Store) : negD m (.int i) S = fin m (.ok (.int (-i)) S) := nr rfl
@[simp] theorem ev_neg (σ : List D) (m : Bool) (a : E) (S : Store) : evE κ σ m (.neg a) S = (evE κ σ false a S).bind fun x S => negD m x S := by
  rw [evE]; rfl
@[simp] theorem ev11 : type_of% @evE.eq_11 := @evE.eq_11
theorem ite_b {α : Type} (x : Bool) (a b : α) : (match x with | true => a | false => b) = if x = true then a else b := by cases x <;> rfl
@[simp] theorem ev_cmp2 (σ : List D) (m : Bool) (o p : Cop) (a b c : E) (S : Store) : evE κ σ m (.cmp2 o p a b c) S = (evE κ σ false a S).bind fun x S => (evE κ σ false b S).bind fun y S => (toB (cmpop o x y S)).bind fun r S => if r = true then (evE κ σ false c S).bind fun z S => cmpop p y z S else .ok (.bl false) S := by
  rw [evE]
  congr 1; funext x S; congr 1; funext y S; congr 1; funext r S; cases r <;> rfl
@[simp] theorem ev_and (σ : List D) (m : Bool) (a b : E) (S : Store) : evE κ σ m (.and a b) S = (toB (evE κ σ m a S)).bind fun x S => if x = true then evE κ σ m b S else .ok (.bl false) S := by
  rw [evE]
  congr 1; funext r S; cases r <;> rfl
@[simp] theorem ev_or (σ : List D) (m : Bool) (a b : E) (S : Store) : evE κ σ m (.or a b) S = (toB (evE κ σ m a S)).bind fun x S => if x = true then .ok (.bl true) S else evE κ σ m b S := by
  rw [evE]
  congr 1; funext r S; cases r <;> rfl
@[simp] theorem ev15 : type_of% @evE.eq_15 := @evE.eq_15
@[simp] theorem ev_ifx (σ : List D) (m : Bool) (c a b : E) (S : Store) : evE κ σ m (.ifx c a b) S = (toB (evE κ σ true c S)).bind fun x S => if x = true then evE κ σ m a S else evE κ σ m b S := by
  rw [evE]
  congr 1; funext r S; cases r <;> rfl
@[simp] theorem ev17 : type_of% @evE.eq_17 := @evE.eq_17
@[simp] theorem ev_callv_fn {σ : List D} {m : Bool} {i : Nat} {es : Es} {ks : Ks} {S : Store} {x : String} (h : σ[i]? = some (.fn x)) : evE κ σ m (.callv i es ks) S = (evEs κ σ es S).bind fun l S => (evKs κ σ ks S).bind fun kw S => fin m (κ.call x l kw S) := by
  rw [evE, h]
theorem ev_callv_clo {σ : List D} {m : Bool} {i : Nat} {es : Es} {S : Store} {k : Nat} {σ' : List D} (h : σ[i]? = some (.clo k σ')) : evE κ σ m (.callv i es .nil) S = (evEs κ σ es S).bind fun l S => fin m (κ.clo k σ' l S) := by
  rw [evE, h]
@[simp] theorem ev19 : type_of% @evE.eq_19 := @evE.eq_19
@[simp] theorem ev20 : type_of% @evE.eq_20 := @evE.eq_20
@[simp] theorem ev21 : type_of% @evE.eq_21 := @evE.eq_21
@[simp] theorem ev24 : type_of% @evE.eq_24 := @evE.eq_24
@[simp] theorem ev25 : type_of% @evE.eq_25 := @evE.eq_25
@[simp] theorem ev26 : type_of% @evE.eq_26 := @evE.eq_26
@[simp] theorem ev_lc (σ : List D) (m : Bool) (e : E) (p : Pt) (it : Ev.It) (c : Eo) (own : List Nat) (S : Store) : evE κ σ m (.lc e p it c own) S = (evIt κ σ it S).bind fun src S => (lcB κ p (wipeD (noClo σ) own) src c e src.l S.length (S ++ [.lst []])).bind fun _ S' => fin m (.ok (.ref S.length) S') := by
  rw [evE]; rfl
@[simp] theorem ev28 : type_of% @evE.eq_28 := @evE.eq_28
def lrngD (m : Bool) (x : D) (S : Store) : R D := match x with
  | .int j => R.when (decide (-(2 ^ 62) ≤ j) && decide (j ≤ 16777216)) (fin m (new (rngD 0 j.toNat) S))
  | _ => .bad
@[simp] theorem ev_lrng (σ : List D) (m : Bool) (a : E) (S : Store) : evE κ σ m (.lrng a) S = (evE κ σ false a S).bind fun x S => lrngD m x S := by
  rw [evE]; rfl
def isxD (κ : Kap) (o : Option D) (y : String) (S : Store) : R D := match o with
  | some (.exn cn _) => orBad (κ.isx cn y) fun b => .ok (.bl b) S
  | _ => .bad
@[simp] theorem isxD_exn (cn : String) (l : List D) (y : String) (S : Store) : isxD κ (some (.exn cn l)) y S = orBad (κ.isx cn y) fun b => .ok (.bl b) S := nr rfl
@[simp] theorem ev_isx (σ : List D) (m : Bool) (i : Nat) (y : String) (S : Store) : evE κ σ m (.isx i y) S = isxD κ σ[i]? y S := by
  rw [evE]
  unfold isxD
  rfl
def fldD (κ : Kap) (m : Bool) (x : D) (f : String) (S : Store) : R D := match x with
  | .exn cn l => orBad (κ.efld cn l f) fun d => fin m (.ok d S)
  | _ => .bad
@[simp] theorem fldD_exn (m : Bool) (cn : String) (l : List D) (f : String) (S : Store) : fldD κ m (.exn cn l) f S = orBad (κ.efld cn l f) fun d => fin m (.ok d S) := nr rfl
@[simp] theorem ev_fld (σ : List D) (m : Bool) (o : E) (f : String) (S : Store) : evE κ σ m (.fld o f) S = (evE κ σ false o S).bind fun x S => fldD κ m x f S := by
  rw [evE]; rfl
@[simp] theorem varD_exn (m : Bool) (c : String) (l : List D) (S : Store) : varD m (some (.exn c l)) S = fin m (.ok (.exn c l) S) := nr rfl
@[simp] theorem evC1 : type_of% @evC.eq_1 := @evC.eq_1
@[simp] theorem evC2 : type_of% @evC.eq_2 := @evC.eq_2
@[simp] theorem evEo1 : type_of% @evEo.eq_1 := @evEo.eq_1
def optI (x : D) (S : Store) : R (Option Int) := match x with
  | .int i => .ok (some i) S
  | _ => .bad
@[simp] theorem optI_int (i : Int) (S : Store) : optI (.int i) S = .ok (some i) S := nr rfl
@[simp] theorem evEo2 (σ : List D) (e : E) (S : Store) : evEo κ σ (.yes e) S = (evE κ σ false e S).bind fun x S => optI x S := by
  rw [evEo]; rfl
@[simp] theorem evEs1 : type_of% @evEs.eq_1 := @evEs.eq_1
@[simp] theorem evEs2 : type_of% @evEs.eq_2 := @evEs.eq_2
@[simp] theorem evEs3 : type_of% @evEs.eq_3 := @evEs.eq_3
@[simp] theorem evKs1 : type_of% @evKs.eq_1 := @evKs.eq_1
@[simp] theorem evKs2 : type_of% @evKs.eq_2 := @evKs.eq_2
@[simp] theorem evIt1 : type_of% @evIt.eq_1 := @evIt.eq_1
@[simp] theorem evIt2 : type_of% @evIt.eq_2 := @evIt.eq_2
@[simp] theorem evS1 : type_of% @evS.eq_1 := @evS.eq_1
@[simp] theorem evS2 : type_of% @evS.eq_2 := @evS.eq_2
@[simp] theorem evS3 : type_of% @evS.eq_3 := @evS.eq_3
@[simp] theorem evS4 : type_of% @evS.eq_4 := @evS.eq_4
@[simp] theorem evS5 : type_of% @evS.eq_5 := @evS.eq_5
@[simp] theorem evS6 : type_of% @evS.eq_6 := @evS.eq_6
@[simp] theorem evS7 : type_of% @evS.eq_7 := @evS.eq_7
@[simp] theorem evS_if (c : E) (a b : Ss) (σ : List D) (S : Store) : evS κ ec (.ifs c a b) σ S = (toB (evE κ σ true c S)).fl σ fun t S => if t = true then evSs κ ec a σ S else evSs κ ec b σ S := by
  rw [evS]
  congr 1; funext r S; cases r <;> rfl
@[simp] theorem evS_for (p : Pt) (it : Ev.It) (b : Ss) (σ : List D) (S : Store) : evS κ ec (.for_ p it b) σ S = (evIt κ σ it S).fl σ fun src S => forB κ ec p src b src.l σ S := by
  rw [evS]; rfl
@[simp] theorem evS_while (c : E) (b : Ss) (σ : List D) (S : Store) : evS κ ec (.while_ c b) σ S = whB κ ec c b turns σ S := by
  rw [evS]; rfl
def raiseF (ec : String → Option (List String)) (c : String) (l σ : List D) (S : Store) : Fl := match ec c with
  | some fs => if l.length = fs.length && D.flats l then .ex c l σ S else .bad
  | none => .bad
@[simp] theorem evS_raise (c : String) (es : Es) (σ : List D) (S : Store) : evS κ ec (.raise c es) σ S = (evEs κ σ es S).fl σ fun l S => raiseF ec c l σ S := by
  rw [evS]; rfl
theorem raiseF_ok {c : String} {l σ : List D} {S : Store} {fs : List String} (h : ec c = some fs) (hl : l.length = fs.length) (hf : D.flats l = true) : raiseF ec c l σ S = .ex c l σ S := by
  simp [raiseF, h, hl, hf]
def trC (κ : Kap) (ec : String → Option (List String)) (o : Option Bool) (i : Option Nat) (h : Ss) (cn : String) (l σ1 : List D) (S1 : Store) : Fl := match o with
  | some true => endH i (evSs κ ec h (setO i σ1 (.exn cn l)) S1)
  | some false => .ex cn l σ1 S1
  | none => .bad
@[simp] theorem trC_true (i : Option Nat) (h : Ss) (cn : String) (l σ1 : List D) (S1 : Store) : trC κ ec (some true) i h cn l σ1 S1 = endH i (evSs κ ec h (setO i σ1 (.exn cn l)) S1) := nr rfl
@[simp] theorem trC_false (i : Option Nat) (h : Ss) (cn : String) (l σ1 : List D) (S1 : Store) : trC κ ec (some false) i h cn l σ1 S1 = .ex cn l σ1 S1 := nr rfl
def trF (κ : Kap) (ec : String → Option (List String)) (c : String) (i : Option Nat) (h : Ss) : Fl → Fl
  | .ex cn l σ1 S1 => trC κ ec (κ.isx cn c) i h cn l σ1 S1
  | f => f
@[simp] theorem trF_ex (c : String) (i : Option Nat) (h : Ss) (cn : String) (l σ1 : List D) (S1 : Store) : trF κ ec c i h (.ex cn l σ1 S1) = trC κ ec (κ.isx cn c) i h cn l σ1 S1 := nr rfl
@[simp] theorem trF_rt (c : String) (i : Option Nat) (h : Ss) (d : D) (S1 : Store) : trF κ ec c i h (.rt d S1) = .rt d S1 := nr rfl
@[simp] theorem trF_nx (c : String) (i : Option Nat) (h : Ss) (σ1 : List D) (S1 : Store) : trF κ ec c i h (.nx σ1 S1) = .nx σ1 S1 := nr rfl
@[simp] theorem evS_tr (b : Ss) (c : String) (i : Option Nat) (h : Ss) (σ : List D) (S : Store) : evS κ ec (.tr b c i h) σ S = trF κ ec c i h (evSs κ ec b σ S) := by
  rw [evS]
  cases evSs κ ec b σ S with
  | ex cn l σ1 S1 =>
    rw [trF_ex]
    unfold trC
    rfl
  | _ => rfl
@[simp] theorem setO_some (i : Nat) (σ : List D) (d : D) : setO (some i) σ d = σ.set i d := nr rfl
@[simp] theorem setO_none (σ : List D) (d : D) : setO none σ d = σ := nr rfl
@[simp] theorem endH_rt {i : Option Nat} {d : D} {S : Store} (h : D.flat d = true) : endH i (.rt d S) = .rt d S := by
  unfold endH
  simp only [h]
@[simp] theorem evSs_nil : type_of% @evSs.eq_1 := @evSs.eq_1
@[simp] theorem evSs_cons (s : Sm) (r : Ss) (σ : List D) (S : Store) : evSs κ ec (.cons s r) σ S = seq (evS κ ec s σ S) fun σ S => evSs κ ec r σ S := by
  rw [evSs]
  cases evS κ ec s σ S <;> rfl
@[simp] theorem put_v : type_of% @Tg.put.eq_1 := @Tg.put.eq_1
def ixPut (d : D) (σ : List D) (x y : D) (S : Store) : Fl := match x, y with
    | .ref n, .int k => match lstOf S n with
      | some l => match ixD l.length k with
        | some j => if D.flat d then .nx σ (S.set n (.lst (l.set j d))) else .bad
        | none => .bad
      | none => .bad
    | _, _ => .bad
@[simp] theorem put_ix (o i : E) (d : D) (σ : List D) (S : Store) : Tg.put κ (.ix o i) d σ S = (evE κ σ false o S).fl σ fun x S => (evE κ σ false i S).fl σ fun y S => ixPut d σ x y S := by
  rw [Tg.put]; rfl
theorem ixPut_ok {d : D} {σ l : List D} {n : Nat} {k : Int} {S : Store} (h : lstOf S n = some l) (h0 : 0 ≤ k) (h1 : k < l.length) (hf : d.flat = true) : ixPut d σ (.ref n) (.int k) S = .nx σ (S.set n (.lst (l.set k.toNat d))) := by
  simp [ixPut, h, ixD, h0, h1, hf]
@[simp] theorem put_tp (ts : List Tg) (l σ : List D) (S : Store) : Tg.put κ (.tp ts) (.tup l) σ S = if l.length = ts.length then Tg.puts κ ts l σ S else .bad := by
  rw [Tg.put]
@[simp] theorem puts_nil : type_of% @Tg.puts.eq_1 := @Tg.puts.eq_1
@[simp] theorem puts_cons (t : Tg) (ts : List Tg) (d : D) (ds σ : List D) (S : Store) : Tg.puts κ (t :: ts) (d :: ds) σ S = seq (Tg.put κ t d σ S) fun σ S => Tg.puts κ ts ds σ S := by
  rw [Tg.puts]
  cases Tg.put κ t d σ S <;> rfl
/-! ## calls -/
section
variable {P : Prog}
@[simp] theorem kap_glob (n : Nat) : (kap P n).glob = P.glob := by cases n <;> rfl
def ecOf (P : Prog) : String → Option (List String) := fun c => (P.exc c).map (·.2)
@[simp] theorem ecOf_eq (c : String) : ecOf P c = (P.exc c).map (·.2) := nr rfl
@[simp] theorem end_ex (S : Store) (c : String) (l σ : List D) (S' : Store) : endD S (.ex c l σ S') = .ex c l S' := nr rfl
theorem call_eq {x : String} {f : Fn} {l σ : List D} {kw : List (Str × D)} {S : Store} {n : Nat} (h : P.fns x = some f) (hb : bindA f l kw = some σ) : (kap P (n + 1)).call x l kw S = endD S (evSs (kap P n) (ecOf P) f.body (σ ++ List.replicate (f.n - σ.length) .uns) S) := by
  show callD P (kap P n) x l kw S = _
  unfold callD
  rw [h]
  simp only [hb]
  rfl
end
/-! ## plain facts -/
theorem sz_small {n : Nat} (h : n ≤ 1000) : sz n = true := by
  unfold sz
  have : (1000 : Nat) ≤ sizeLine := by decide
  exact decide_eq_true (by omega)
@[simp] theorem sz0 : sz 0 = true := sz_small (by omega)
@[simp] theorem sz1 : sz 1 = true := sz_small (by omega)
@[simp] theorem sz2 : sz 2 = true := sz_small (by omega)
@[simp] theorem sz3 : sz 3 = true := sz_small (by omega)
@[simp] theorem sz4 : sz 4 = true := sz_small (by omega)
@[simp] theorem sz5 : sz 5 = true := sz_small (by omega)
@[simp] theorem sz6 : sz 6 = true := sz_small (by omega)
@[simp] theorem sz7 : sz 7 = true := sz_small (by omega)
@[simp] theorem sz8 : sz 8 = true := sz_small (by omega)
@[simp] theorem sz12 : sz 12 = true := sz_small (by omega)
theorem flats_all {l : List D} : D.flats l = true ↔ ∀ d ∈ l, d.flat = true := by
  induction l with
  | nil => simp [D.flats]
  | cons a l ih => simp [D.flats, ih]
theorem unders_all {n : Nat} {l : List D} : D.unders n l = true ↔ ∀ d ∈ l, d.under n = true := by
  induction l with
  | nil => simp [D.unders]
  | cons a l ih => simp [D.unders, ih]
@[simp] theorem flats_app (l m : List D) : D.flats (l ++ m) = (D.flats l && D.flats m) := by
  induction l with
  | nil => simp [D.flats]
  | cons a l ih => simp [D.flats, ih, Bool.and_assoc]
@[simp] theorem unders_app (n : Nat) (l m : List D) : D.unders n (l ++ m) = (D.unders n l && D.unders n m) := by
  induction l with
  | nil => simp [D.unders]
  | cons a l ih => simp [D.unders, ih, Bool.and_assoc]
@[simp] theorem flats_nil : D.flats [] = true := nr rfl
@[simp] theorem flats_cons (a : D) (l : List D) : D.flats (a :: l) = (a.flat && D.flats l) := nr rfl
@[simp] theorem unders_nil (n : Nat) : D.unders n [] = true := nr rfl
@[simp] theorem unders_cons (n : Nat) (a : D) (l : List D) : D.unders n (a :: l) = (a.under n && D.unders n l) := nr rfl
@[simp] theorem flat_int (i : Int) : D.flat (.int i) = true := nr rfl
@[simp] theorem flat_bl (i : Bool) : D.flat (.bl i) = true := nr rfl
@[simp] theorem flat_non : D.flat .non = true := nr rfl
@[simp] theorem flat_str (s : Str) : D.flat (.str s) = true := nr rfl
@[simp] theorem flat_ref (n : Nat) : D.flat (.ref n) = true := nr rfl
@[simp] theorem flat_fn (x : String) : D.flat (.fn x) = true := nr rfl
@[simp] theorem flat_tup (l : List D) : D.flat (.tup l) = D.flats l := nr rfl
@[simp] theorem flat_rl (l : List D) : D.flat (.rl l) = D.flats l := nr rfl
@[simp] theorem under_rl (n : Nat) (l : List D) : D.under n (.rl l) = D.unders n l := nr rfl
@[simp] theorem under_int (n : Nat) (i : Int) : D.under n (.int i) = true := nr rfl
@[simp] theorem under_bl (n : Nat) (i : Bool) : D.under n (.bl i) = true := nr rfl
@[simp] theorem under_non (n : Nat) : D.under n .non = true := nr rfl
@[simp] theorem under_str (n : Nat) (s : Str) : D.under n (.str s) = true := nr rfl
@[simp] theorem under_ref (n m : Nat) : D.under n (.ref m) = decide (m < n) := nr rfl
@[simp] theorem under_tup (n : Nat) (l : List D) : D.under n (.tup l) = D.unders n l := nr rfl
/-! ## stores -/
theorem lstOf_app_left {S G : Store} {r : Nat} {l : List D} (h : lstOf S r = some l) : lstOf (S ++ G) r = some l := by
  unfold lstOf at h ⊢
  have hr : r < S.length := by
    cases hq : S[r]? with
    | none => rw [hq] at h; cases h
    | some c => exact (List.getElem?_eq_some_iff.mp hq).1
  rw [List.getElem?_append_left hr]
  exact h
@[simp] theorem lstOf_app (S G : Store) (k : Nat) : lstOf (S ++ G) (S.length + k) = lstOf G k := by
  unfold lstOf
  rw [List.getElem?_append_right (by omega)]
  simp
@[simp] theorem lstOf_app0 (S G : Store) : lstOf (S ++ G) S.length = lstOf G 0 := lstOf_app S G 0
@[simp] theorem lstOf_c0 (l : List D) (G : Store) : lstOf (.lst l :: G) 0 = some l := nr rfl
@[simp] theorem lstOf_c1 (c : Cell) (G : Store) (k : Nat) : lstOf (c :: G) (k + 1) = lstOf G k := by
  simp [lstOf]
theorem lstOf_lt {S : Store} {r : Nat} {l : List D} (h : lstOf S r = some l) : r < S.length := by
  unfold lstOf at h
  cases hq : S[r]? with
  | none => rw [hq] at h; cases h
  | some c => exact (List.getElem?_eq_some_iff.mp hq).1
theorem lstOf_pre {S S' : Store} {r : Nat} {l : List D} (h : lstOf S r = some l) (hp : S <+: S') : lstOf S' r = some l := by
  obtain ⟨G, rfl⟩ := hp
  exact lstOf_app_left h
theorem newD_ok {l : List D} {S : Store} (h1 : l.length ≤ 1000) (h2 : D.flats l = true) : new l S = .ok (.ref S.length) (S ++ [.lst l]) := by
  simp [new, sz_small h1, h2]
theorem oldOk_app (S G : Store) : oldOk S (S ++ G) = true := by
  unfold oldOk
  rw [List.all_eq_true]
  intro i hi
  have hi : i < S.length := by simpa using hi
  rw [List.getElem?_append_left hi, List.getElem?_eq_getElem hi]
  simp [Cell.eqb_refl]
@[simp] theorem gc_same (S : Store) (d : D) : gc S d S = .ok d S := by
  unfold gc
  rw [if_pos (Nat.le_refl _)]
theorem gc_app {S G : Store} {d : D} (h : d.under S.length = true) : gc S d (S ++ G) = .ok d S := by
  unfold gc
  by_cases hG : G.length = 0
  · have : G = [] := List.length_eq_zero_iff.mp hG
    subst this
    simp
  · rw [if_neg (by simp; omega), if_pos (oldOk_app S G), if_pos h]
    simp
theorem gc_ref {S G : Store} {k : Nat} {l : List D} (hk : lstOf G k = some l) (h : D.unders S.length l = true) : gc S (.ref (S.length + k)) (S ++ G) = .ok (.ref S.length) (S ++ [.lst l]) := by
  have hk' : k < G.length := lstOf_lt hk
  have hc : G[k]? = some (.lst l) := by
    unfold lstOf at hk
    cases hq : G[k]? with
    | none => rw [hq] at hk; cases hk
    | some c => rw [hq] at hk; cases c; simp at hk; rw [hk]
  unfold gc
  rw [if_neg (by simp; omega), if_pos (oldOk_app S G), if_neg (by simp)]
  have e : (S ++ G)[S.length + k]? = some (.lst l) := by
    rw [List.getElem?_append_right (by omega)]
    simpa using hc
  simp only [e]
  rw [if_pos (show Cell.under S.length (.lst l) = true from h)]
  simp
theorem gc_ref0 {S G : Store} {l : List D} (hk : lstOf G 0 = some l) (h : D.unders S.length l = true) : gc S (.ref S.length) (S ++ G) = .ok (.ref S.length) (S ++ [.lst l]) := gc_ref (k := 0) hk h
/-! ## how a call ends -/
theorem end_rt {S S' : Store} {d : D} : endD S (.rt d S') = R.when (D.flat d) (gc S d S') := rfl
theorem end_nx {S S' : Store} {σ : List D} : endD S (.nx σ S') = gc S .non S' := rfl
theorem end_val {S G : Store} {d : D} (hf : d.flat = true) (h : d.under S.length = true) : endD S (.rt d (S ++ G)) = .ok d S := by
  rw [end_rt, hf, R.when_true, gc_app h]
theorem end_val0 {S : Store} {d : D} (hf : d.flat = true) : endD S (.rt d S) = .ok d S := by
  rw [end_rt, hf, R.when_true, gc_same]
theorem end_non {S G : Store} {σ : List D} : endD S (.nx σ (S ++ G)) = .ok .non S := by
  rw [end_nx, gc_app rfl]
@[simp] theorem end_non0 {S : Store} {σ : List D} : endD S (.nx σ S) = .ok .non S := by
  rw [end_nx, gc_same]
theorem end_ref {S G : Store} {k : Nat} {l : List D} (hk : lstOf G k = some l) (h : D.unders S.length l = true) : endD S (.rt (.ref (S.length + k)) (S ++ G)) = .ok (.ref S.length) (S ++ [.lst l]) := by
  rw [end_rt]
  exact gc_ref hk h
end Sp
set_option Elab.async false
set_option linter.all false
set_option maxRecDepth 100000
set_option exponentiation.threshold 20000
/-! Sp1: rules of loops. -/
namespace Sp
open PySem PySem.Spec PyProof.Rows L2 Ev
/-- goes on by Q, or returns by T -/
def Flo (f : Fl) (Q : List D → Store → Prop) (T : D → Store → Prop) : Prop := match f with
  | .nx σ S => Q σ S
  | .ct σ S => Q σ S
  | .rt d S => T d S
  | _ => False
@[simp] theorem flo_nx (σ : List D) (S : Store) (Q : List D → Store → Prop) (T : D → Store → Prop) : Flo (.nx σ S) Q T = Q σ S := nr rfl
@[simp] theorem flo_ct (σ : List D) (S : Store) (Q : List D → Store → Prop) (T : D → Store → Prop) : Flo (.ct σ S) Q T = Q σ S := nr rfl
@[simp] theorem flo_rt (d : D) (S : Store) (Q : List D → Store → Prop) (T : D → Store → Prop) : Flo (.rt d S) Q T = T d S := nr rfl
def Ro {α : Type} (r : R α) (Q : α → Store → Prop) : Prop := match r with
  | .ok a S => Q a S
  | _ => False
@[simp] theorem ro_ok {α : Type} (a : α) (S : Store) (Q : α → Store → Prop) : Ro (.ok a S) Q = Q a S := nr rfl
theorem ro_elim {α : Type} {r : R α} {Q : α → Store → Prop} (h : Ro r Q) : ∃ a S, r = .ok a S ∧ Q a S := by
  cases r with
  | ok a S => exact ⟨a, S, rfl, h⟩
  | ex _ _ _ => exact h.elim
  | bad => exact h.elim
theorem ro_of {α : Type} {r : R α} {Q : α → Store → Prop} {a : α} {S : Store} (e : r = .ok a S) (h : Q a S) : Ro r Q := by rw [e]; exact h
variable {κ : Kap} {ec : String → Option (List String)}
theorem forB_rule {p : Pt} {src : Src} {b : Ss} (I : Nat → List D → Store → Prop) (T : D → Store → Prop)
    (ok : ∀ i σ S, I i σ S → src.ok S = true) :
    ∀ (l : List D) (k : Nat) (σ : List D) (S : Store), I k σ S →
    (∀ i x σ S, l[i]? = some x → I (k + i) σ S → ∃ σ', Pt.bind p x σ = some σ' ∧ Flo (evSs κ ec b σ' S) (I (k + i + 1)) T) →
    (∃ σ' S', forB κ ec p src b l σ S = .nx σ' S' ∧ I (k + l.length) σ' S') ∨ ∃ d S', forB κ ec p src b l σ S = .rt d S' ∧ T d S'
  | [], k, σ, S, h0, _ => .inl ⟨σ, S, by unfold forB forF; rw [if_pos (ok _ _ _ h0)], h0⟩
  | x :: l, k, σ, S, h0, step => by
    obtain ⟨σ', e, h⟩ := step 0 x σ S rfl h0
    have go : ∀ σ2 S2, I (k + 1) σ2 S2 → forB κ ec p src b (x :: l) σ S = forB κ ec p src b l σ2 S2 → _ := fun σ2 S2 h2 e2 => by
      have r := forB_rule I T ok l (k + 1) σ2 S2 h2 fun i y σ3 S3 hy h3 => by
        have := step (i + 1) y σ3 S3 (by simpa using hy) (by rw [show k + (i + 1) = k + 1 + i by omega]; exact h3)
        rw [show k + (i + 1) = k + 1 + i by omega] at this
        exact this
      rw [show k + 1 + l.length = k + (x :: l).length by simp; omega] at r
      rw [← e2] at r
      exact r
    have base : forB κ ec p src b (x :: l) σ S = (match evSs κ ec b σ' S with
      | .nx σ2 S2 => forB κ ec p src b l σ2 S2
      | .ct σ2 S2 => forB κ ec p src b l σ2 S2
      | .bk σ2 S2 => .nx σ2 S2
      | .rt d S2 => .rt d S2
      | .ex c l σ2 S2 => .ex c l σ2 S2
      | .bad => .bad) := by
      conv => lhs; unfold forB forF
      rw [if_pos (ok _ _ _ h0), e]
      rfl
    cases hq : evSs κ ec b σ' S with
    | nx σ2 S2 => rw [hq] at h base; exact go σ2 S2 h base
    | ct σ2 S2 => rw [hq] at h base; exact go σ2 S2 h base
    | rt d S2 => rw [hq] at h base; exact .inr ⟨d, S2, base, h⟩
    | bk σ2 S2 => rw [hq] at h; exact h.elim
    | ex c m σ2 S2 => rw [hq] at h; exact h.elim
    | bad => rw [hq] at h; exact h.elim
theorem for_rule {p : Pt} {src : Src} {b : Ss} {l : List D} {σ : List D} {S : Store} {F : Fl} (hF : forB κ ec p src b l σ S = F) (I : Nat → List D → Store → Prop) (T : D → Store → Prop)
    (ok : ∀ i σ S, I i σ S → src.ok S = true) (h0 : I 0 σ S)
    (step : ∀ i x σ S, l[i]? = some x → I i σ S → ∃ σ', Pt.bind p x σ = some σ' ∧ Flo (evSs κ ec b σ' S) (I (i + 1)) T) :
    (∃ σ' S', F = .nx σ' S' ∧ I l.length σ' S') ∨ ∃ d S', F = .rt d S' ∧ T d S' := by
  have := forB_rule (κ := κ) (ec := ec) (b := b) I T ok l 0 σ S h0 (by simpa using step)
  rw [hF] at this
  simpa using this
/-- no return -/
theorem for_all {p : Pt} {src : Src} {b : Ss} {l : List D} {σ : List D} {S : Store} {F : Fl} (hF : forB κ ec p src b l σ S = F) (I : Nat → List D → Store → Prop)
    (ok : ∀ i σ S, I i σ S → src.ok S = true) (h0 : I 0 σ S)
    (step : ∀ i x σ S, l[i]? = some x → I i σ S → ∃ σ', Pt.bind p x σ = some σ' ∧ Flo (evSs κ ec b σ' S) (I (i + 1)) fun _ _ => False) :
    ∃ σ' S', F = .nx σ' S' ∧ I l.length σ' S' := by
  rcases for_rule hF I (fun _ _ => False) ok h0 step with h | ⟨_, _, _, h⟩
  · exact h
  · exact h.elim
theorem lcB_rule {p : Pt} {σ : List D} {src : Src} {c : Eo} {e : E} {n : Nat} (I : Nat → List D → Store → Prop)
    (cell : ∀ i acc S, I i acc S → src.ok S = true) :
    ∀ (l : List D) (k : Nat) (acc : List D) (S : Store), I k acc S →
    (∀ i x acc S, l[i]? = some x → I (k + i) acc S → x.flat = true ∧ ∃ σ', Pt.bind p x σ = some σ' ∧ Ro (evC κ σ' c S) fun b S1 =>
      if b = true then Ro (evE κ σ' false e S1) (fun d S2 => d.flat = true ∧ ∃ acc2, lstOf S2 n = some acc2 ∧ acc2.length < 1000 ∧ I (k + i + 1) (acc2 ++ [d]) (S2.set n (.lst (acc2 ++ [d]))))
      else I (k + i + 1) acc S1) →
    ∃ acc' S', lcB κ p σ src c e l n S = .ok () S' ∧ I (k + l.length) acc' S'
  | [], k, acc, S, h0, _ => ⟨acc, S, by unfold lcB lcF; rw [cell _ _ _ h0]; rfl, h0⟩
  | x :: l, k, acc, S, h0, step => by
    obtain ⟨hf, σ', hb, h⟩ := step 0 x acc S rfl h0
    have go : ∀ acc2 S2, I (k + 1) acc2 S2 → lcB κ p σ src c e (x :: l) n S = lcB κ p σ src c e l n S2 → _ := fun acc2 S2 h2 e2 => by
      have r := lcB_rule I cell l (k + 1) acc2 S2 h2 fun i y acc3 S3 hy h3 => by
        have := step (i + 1) y acc3 S3 (by simpa using hy) (by rw [show k + (i + 1) = k + 1 + i by omega]; exact h3)
        rw [show k + (i + 1) = k + 1 + i by omega] at this
        exact this
      rw [show k + 1 + l.length = k + (x :: l).length by simp; omega] at r
      rw [← e2] at r
      exact r
    obtain ⟨b, S1, e1, h1⟩ := ro_elim h
    have e1' : evC κ σ' c S = .ok b S1 := e1
    cases b with
    | false =>
      refine go acc S1 (by simpa using h1) ?_
      conv => lhs; unfold lcB lcF
      rw [cell _ _ _ h0, hf]
      simp only [Bool.and_self, R.when_true, hb, orBad_some, e1']
      rfl
    | true =>
      simp only [if_true] at h1
      obtain ⟨d, S2, e2, hd, acc2, hl, hlen, h2⟩ := ro_elim h1
      refine go _ _ h2 ?_
      conv => lhs; unfold lcB lcF
      rw [cell _ _ _ h0, hf]
      simp only [Bool.and_self, R.when_true, hb, orBad_some, e1', e2, hl, hd, sz_small (show acc2.length + 1 ≤ 1000 by omega)]
      rfl
/-- by an invariant -/
theorem lc_inv {p : Pt} {σ : List D} {src : Src} {c : Eo} {e : E} {n : Nat} {l : List D} {S : Store} {C : R Unit} (hC : lcB κ p σ src c e l n S = C) (I : Nat → List D → Store → Prop)
    (cell : ∀ i acc S, I i acc S → src.ok S = true) {acc : List D} (h0 : I 0 acc S)
    (step : ∀ i x acc S, l[i]? = some x → I i acc S → x.flat = true ∧ ∃ σ', Pt.bind p x σ = some σ' ∧ Ro (evC κ σ' c S) fun b S1 =>
      if b = true then Ro (evE κ σ' false e S1) (fun d S2 => d.flat = true ∧ ∃ acc2, lstOf S2 n = some acc2 ∧ acc2.length < 1000 ∧ I (i + 1) (acc2 ++ [d]) (S2.set n (.lst (acc2 ++ [d]))))
      else I (i + 1) acc S1) : ∃ acc' S', C = .ok () S' ∧ I l.length acc' S' := by
  have := lcB_rule (κ := κ) (c := c) (e := e) (n := n) I cell l 0 acc S h0 (by simpa using step)
  rw [hC] at this
  simpa using this
theorem set_app (S : Store) (c d : Cell) (G : Store) : (S ++ c :: G).set S.length d = S ++ d :: G := by
  rw [List.set_append_right _ _ (Nat.le_refl _)]
  simp
/-- pure items with a test, what they leave lies behind -/
theorem lc_filter {α : Type} {enc : α → D} {t : α → Bool} {g : α → D} {p : Pt} {σ : List D} {src : Src} {c : Eo} {e : E} {l : List D} {xs : List α} (S : Store) {n : Nat} {S2 : Store} {C : R Unit} (hC : lcB κ p σ src c e l n S2 = C) (hl : l = xs.map enc) (len : xs.length < 1000)
    (ok : ∀ S', S <+: S' → src.ok S' = true)
    (step : ∀ x ∈ xs, (enc x).flat = true ∧ ∃ σ', Pt.bind p (enc x) σ = some σ' ∧ ∀ S', S <+: S' → Ro (evC κ σ' c S') fun b S1 => b = t x ∧ S' <+: S1 ∧ (t x = true → Ro (evE κ σ' false e S1) fun d S2 => d = g x ∧ d.flat = true ∧ S1 <+: S2)) :
    (hn : n = S.length := by simp) → (h2 : S2 = S ++ [.lst []] := by simp) → ∃ G, C = .ok () (S ++ .lst ((xs.filter t).map g) :: G) := by
  intro hn h2
  subst hl hn h2
  obtain ⟨acc', S', e1, h1⟩ := lc_inv hC (fun i acc S1 => acc = (((xs.take i).filter t).map g) ∧ (∃ G, S1 = S ++ .lst acc :: G))
    (fun i acc S1 h => by
      obtain ⟨_, G, rfl⟩ := h
      exact ok _ ⟨_, rfl⟩) (acc := []) ⟨by simp, [], rfl⟩ (fun i y acc S1 hy h => by
      obtain ⟨ha, G, rfl⟩ := h
      obtain ⟨x, hx, rfl⟩ : ∃ x, xs[i]? = some x ∧ enc x = y := by simpa using hy
      have hxm : x ∈ xs := List.mem_of_getElem? hx
      have htk : xs.take (i + 1) = xs.take i ++ [x] := by rw [List.take_add_one, hx]; rfl
      obtain ⟨hf, σ', hb, h⟩ := step x hxm
      refine ⟨hf, σ', hb, ?_⟩
      obtain ⟨b, S2, e2, hb2, ⟨G2, hG2⟩, h2⟩ := ro_elim (h (S ++ .lst acc :: G) ⟨_, rfl⟩)
      refine ro_of e2 ?_
      subst hb2
      cases ht : t x with
      | false =>
        simp only [Bool.false_eq_true, if_false]
        refine ⟨by rw [htk, List.filter_append, List.filter_cons_of_neg (by simp [ht])]; simpa using ha, G ++ G2, by rw [← hG2]; simp⟩
      | true =>
        simp only [if_true]
        obtain ⟨d, S3, e3, hd, hdf, ⟨G3, hG3⟩⟩ := ro_elim (h2 ht)
        refine ro_of e3 ⟨hdf, acc, ?_, ?_, ?_, G ++ (G2 ++ G3), ?_⟩
        · rw [← hG3, ← hG2]
          simp
        · rw [ha]
          have h3 := (List.filter_sublist (p := t) (l := xs.take i)).length_le
          rw [List.length_map]
          simp at h3
          omega
        · rw [htk, List.filter_append, List.filter_cons_of_pos ht, ha, hd]
          simp
        · rw [← hG3, ← hG2]
          simp [set_app])
  obtain ⟨ha, G, rfl⟩ := h1
  exact ⟨G, by rw [e1, ha, List.length_map, List.take_length]⟩
/-- pure items -/
theorem lc_map {α : Type} {enc g : α → D} {p : Pt} {σ : List D} {src : Src} {e : E} {l : List D} {xs : List α} (S : Store) {n : Nat} {S2 : Store} {C : R Unit} (hC : lcB κ p σ src .no e l n S2 = C) (hl : l = xs.map enc) (len : xs.length < 1000)
    (ok : ∀ S', S <+: S' → src.ok S' = true)
    (step : ∀ x ∈ xs, (enc x).flat = true ∧ ∃ σ', Pt.bind p (enc x) σ = some σ' ∧ ∀ S', S <+: S' → evE κ σ' false e S' = .ok (g x) S' ∧ (g x).flat = true) :
    (hn : n = S.length := by simp) → (h2 : S2 = S ++ [.lst []] := by simp) → C = .ok () (S ++ [.lst (xs.map g)]) := by
  intro hn h2
  subst hl hn h2
  obtain ⟨acc', S', e1, h1⟩ := lc_inv hC (fun i acc S1 => acc = ((xs.take i).map g) ∧ S1 = S ++ [.lst acc])
    (fun i acc S1 h => by
      obtain ⟨_, rfl⟩ := h
      exact ok _ ⟨_, rfl⟩) (acc := []) ⟨by simp, rfl⟩ (fun i y acc S1 hy h => by
      obtain ⟨ha, rfl⟩ := h
      obtain ⟨x, hx, rfl⟩ : ∃ x, xs[i]? = some x ∧ enc x = y := by simpa using hy
      have hxm : x ∈ xs := List.mem_of_getElem? hx
      have htk : xs.take (i + 1) = xs.take i ++ [x] := by rw [List.take_add_one, hx]; rfl
      obtain ⟨hf, σ', hb, h⟩ := step x hxm
      refine ⟨hf, σ', hb, ?_⟩
      obtain ⟨e3, hg⟩ := h (S ++ [.lst acc]) ⟨_, rfl⟩
      simp only [evC1, ro_ok, if_true, e3]
      refine ⟨hg, acc, by simp, ?_, ?_, ?_⟩
      · rw [ha]
        simp
        omega
      · rw [htk, ha]; simp
      · rw [set_app])
  obtain ⟨ha, rfl⟩ := h1
  rw [e1, ha, List.length_map, List.take_length]
/-! sources -/
@[simp] theorem src_nil_ok (l : List D) (S : Store) : Src.ok ⟨l, []⟩ S = true := nr rfl
theorem src_ref_ok {l : List D} {r : Nat} {S S' : Store} (h : lstOf S r = some l) (hp : S <+: S') : Src.ok ⟨l, [(r, l)]⟩ S' = true := by
  simp [Src.ok, lstOf_pre h hp, D.eqbs_refl]
@[simp] theorem srcD_tup (l : List D) (S : Store) : srcD (.tup l) S = some ⟨l, []⟩ := nr rfl
@[simp] theorem srcD_rl (l : List D) (S : Store) : srcD (.rl l) S = some ⟨l, []⟩ := nr rfl
@[simp] theorem srcD_refd (n : Nat) (S : Store) : srcD (.ref n) S = (lstOf S n).map fun l => ⟨l, [(n, l)]⟩ := nr rfl
theorem srcD_ref {l : List D} {r : Nat} {S : Store} (h : lstOf S r = some l) : srcD (.ref r) S = some ⟨l, [(r, l)]⟩ := by simp [srcD, h]
theorem rng0 (n : Nat) : rngD 0 n = (List.range n).map fun (i : Nat) => .int i := by
  simp [rngD]
theorem srcB_rng {n : Nat} {S : Store} (h0 : n ≤ 1000) : srcB .range [.int n] S = some ⟨(List.range n).map fun (i : Nat) => .int i, []⟩ := by
  have h : n < 2 ^ 62 := by omega
  have e : (n : Int).toNat = n := by omega
  unfold srcB
  dsimp only
  rw [if_pos (by omega), e, rng0]
theorem srcB_enum (a : List D) (S : Store) : srcB .enumerate [.tup a] S = some ⟨a.mapIdx fun i x => .tup [.int i, x], []⟩ := rfl
theorem srcB_zip (a b : List D) (S : Store) : srcB .zip [.tup a, .tup b] S = some ⟨List.zipWith (fun x y => .tup [x, y]) a b, []⟩ := rfl
theorem srcB_zipr {a b : List D} {m n : Nat} {S : Store} (ha : lstOf S m = some a) (hb : lstOf S n = some b) : srcB .zip [.ref m, .ref n] S = some ⟨List.zipWith (fun x y => .tup [x, y]) a b, [(m, a), (n, b)]⟩ := by
  simp [srcB, ha, hb]
theorem src_ref2_ok {l a b : List D} {m n : Nat} {S S' : Store} (ha : lstOf S m = some a) (hb : lstOf S n = some b) (hp : S <+: S') : Src.ok ⟨l, [(m, a), (n, b)]⟩ S' = true := by
  simp [Src.ok, lstOf_pre ha hp, lstOf_pre hb hp, D.eqbs_refl]
theorem add_ref {S : Store} {a b : Nat} {l m : List D} (ha : lstOf S a = some l) (hb : lstOf S b = some m) (h1 : l.length + m.length ≤ 1000) (h2 : D.flats l = true) (h3 : D.flats m = true) : binop .add (.ref a) (.ref b) S = .ok (.ref S.length) (S ++ [.lst (l ++ m)]) := by
  simp [binop, ha, hb, newD_ok (l := l ++ m) (by simpa using h1) (by simp [h2, h3])]
theorem pre_refl (S : Store) : S <+: S := List.prefix_refl _
theorem src_ref_okG {l : List D} {r : Nat} {S : Store} (h : lstOf S r = some l) : ∀ S', S <+: S' → Src.ok ⟨l, [(r, l)]⟩ S' = true := fun _ hp => src_ref_ok h hp
end Sp
set_option Elab.async false
set_option linter.all false
set_option maxRecDepth 100000
set_option exponentiation.threshold 20000
/-! Sp2: fractions. -/
namespace Sp
open PySem PySem.Spec PyProof.Rows L2 Ev
/-- a fraction as the program has it -/
def fr (q : Rat) : D := .tup [.int q.num, .int q.den]
@[simp] theorem flat_fr (q : Rat) : (fr q).flat = true := nr rfl
@[simp] theorem under_fr (n : Nat) (q : Rat) : (fr q).under n = true := nr rfl
@[simp] theorem isUns_fr (q : Rat) : isUns (fr q) = false := nr rfl
@[simp] theorem varD_fr (m : Bool) (q : Rat) (S : Store) : varD m (some (fr q)) S = fin m (.ok (fr q) S) := nr rfl
@[simp] theorem flats_fr (l : List Rat) : D.flats (l.map fr) = true := by simp [flats_all]
@[simp] theorem unders_fr (n : Nat) (l : List Rat) : D.unders n (l.map fr) = true := by simp [unders_all]
@[simp] theorem fr0_mk : D.tup [.int 0, .int 1] = fr 0 := nr rfl
@[simp] theorem fr1_mk : D.tup [.int 1, .int 1] = fr 1 := nr rfl
@[simp] theorem sub_fr0 (q : Rat) (S : Store) : subD (fr q) (.int 0) S = .ok (.int q.num) S := nr rfl
@[simp] theorem sub_fr1 (q : Rat) (S : Store) : subD (fr q) (.int 1) S = .ok (.int q.den) S := nr rfl
theorem fr_inj {p q : Rat} (h : fr p = fr q) : p = q := by
  simp only [fr, D.tup.injEq, List.cons.injEq, D.int.injEq, and_true] at h
  exact Rat.ext h.1 (by omega)
theorem eqD_int {S : Store} (i j : Int) : eqD S (.int i) (.int j) = some (decide (i = j)) := by
  unfold eqD
  simp [pyN, PyData.eqv]
  by_cases h : i = j <;> simp [h]
theorem eqD_fr {S : Store} (p q : Rat) : eqD S (fr p) (fr q) = some (decide (p = q)) := by
  have e : decide (p = q) = (decide (p.num = q.num) && decide ((p.den : Int) = q.den)) := by
    by_cases h : p = q
    · subst h; simp
    · simp only [h, decide_false]
      by_cases h1 : p.num = q.num
      · have : ¬ ((p.den : Int) = q.den) := fun h2 => h (Rat.ext h1 (by omega))
        simp [h1, this]
      · simp [h1]
  rw [e]
  unfold eqD fr
  by_cases h1 : p.num = q.num <;> by_cases h2 : (p.den : Int) = q.den <;> simp [pyN, optAll, PyData.eqv, PyData.eqvAll, h1, h2]
theorem fr_mk (i : Int) (s : Nat) (hs : 0 < s) : fr (mkRat i s) = .tup [.int (i / (Nat.gcd i.natAbs s : Nat)), .int ((s / Nat.gcd i.natAbs s : Nat) : Int)] := by
  unfold fr
  have e1 := Rat.num_mkRat i s
  have e2 := Rat.den_mkRat i s
  rw [if_neg (by omega)] at e1 e2
  rw [e1, e2, Nat.gcd_comm s i.natAbs]
theorem divOk_of {g : Nat} (h0 : 0 < g) (h : g < 2 ^ 9000) : divOk (g : Int) = true := by
  unfold divOk
  have : g.log2 < 9000 := (Nat.log2_lt (by omega)).mpr h
  simp [this]
  omega
/-- small enough a fraction -/
structure Sm (q : Rat) : Prop where
  num : q.num.natAbs < 2 ^ 4000
  den : q.den < 2 ^ 4000
theorem mul_ok {i j : Int} (h1 : i.natAbs < 2 ^ 4000) (h2 : j.natAbs < 2 ^ 4000) : mulOk i j = true := by
  unfold mulOk
  have l : ∀ k : Nat, k < 2 ^ 4000 → k.log2 ≤ 4000 := fun k hk => by
    by_cases h0 : k = 0
    · subst h0; decide
    · have := (Nat.log2_lt h0).mpr hk
      omega
  have := l _ h1
  have := l _ h2
  exact decide_eq_true (by omega)
theorem mul_ok2 {i j : Int} (h1 : i.natAbs < 2 ^ 60) (h2 : j.natAbs < 2 ^ 60) : mulOk i j = true :=
  mul_ok (Nat.lt_of_lt_of_le h1 (Nat.pow_le_pow_right (by decide) (by decide))) (Nat.lt_of_lt_of_le h2 (Nat.pow_le_pow_right (by decide) (by decide)))
theorem one_sub_rat (q : Rat) : (1 - q).num = q.den - q.num ∧ (1 - q).den = q.den := by
  have e : 1 - q = mkRat (q.den - q.num) q.den := by
    rw [Rat.sub_def']; simp
  have e1 := Rat.num_mkRat ((q.den : Int) - q.num) q.den
  have e2 := Rat.den_mkRat ((q.den : Int) - q.num) q.den
  have hd : q.den ≠ 0 := q.den_nz
  rw [if_neg hd] at e1 e2
  have g : q.den.gcd ((q.den : Int) - q.num).natAbs = 1 := by
    have h := q.reduced
    have : Int.gcd (q.den : Int) ((q.den : Int) - q.num) = 1 := by
      rw [Int.gcd_self_sub_right]
      rw [Int.gcd_comm]
      exact h
    exact this
  rw [e, e1, e2, g]
  simp
/-- its denominator divides the k-th power of 360360, it is 2^k at most either way -/
structure Nc (k : Nat) (q : Rat) : Prop where
  den : q.den ∣ 360360 ^ k
  num : q.num.natAbs ≤ 2 ^ k * q.den
theorem Nc.sm {k : Nat} {q : Rat} (h : Nc k q) (hk : k ≤ 200 := by omega) : Sm q := by
  have hd : q.den ≤ 360360 ^ k := Nat.le_of_dvd (Nat.pow_pos (by decide)) h.den
  have h1 : (360360 : Nat) ^ k ≤ 360360 ^ 200 := Nat.pow_le_pow_right (by decide) hk
  have h2 : (360360 : Nat) ^ 200 < 2 ^ 3700 := by decide +kernel
  have h3 : (2 : Nat) ^ k ≤ 2 ^ 200 := Nat.pow_le_pow_right (by decide) hk
  have e : (2 : Nat) ^ 200 * 2 ^ 3700 ≤ 2 ^ 4000 := by rw [← Nat.pow_add]; exact Nat.pow_le_pow_right (by decide) (by decide)
  have e2 : (2 : Nat) ^ 2400 ≤ 2 ^ 4000 := Nat.pow_le_pow_right (by decide) (by decide)
  refine ⟨Nat.lt_of_le_of_lt h.num (Nat.lt_of_lt_of_le ?_ e), by omega⟩
  exact Nat.mul_lt_mul_of_le_of_lt h3 (by omega) (Nat.pow_pos (by decide))
theorem mk_nc {n : Int} {d k : Nat} (hd0 : 0 < d) (hd : d ∣ 360360 ^ k) (hn : n.natAbs ≤ 2 ^ k * d) : Nc k (mkRat n d) := by
  have e1 := Rat.num_mkRat n d
  have e2 := Rat.den_mkRat n d
  rw [if_neg (by omega)] at e1 e2
  have hg : 0 < d.gcd n.natAbs := Nat.gcd_pos_of_pos_left _ hd0
  have hgd : d.gcd n.natAbs ∣ d := Nat.gcd_dvd_left _ _
  have hgn : d.gcd n.natAbs ∣ n.natAbs := Nat.gcd_dvd_right _ _
  constructor
  · rw [e2]
    exact Nat.dvd_trans (Nat.div_dvd_of_dvd hgd) hd
  · rw [e1, e2]
    generalize d.gcd n.natAbs = g at hg hgd hgn
    obtain ⟨c, rfl⟩ := hgd
    obtain ⟨m, hm⟩ := hgn
    have hg' : (g : Int) ≠ 0 := by omega
    have e3 : (n / (g : Int)).natAbs = m := by
      rcases Int.natAbs_eq n with h | h
      · rw [h, hm, Int.natCast_mul, Int.mul_ediv_cancel_left _ hg']; simp
      · rw [h, hm, Int.natCast_mul, ← Int.mul_neg, Int.mul_ediv_cancel_left _ hg']; simp
    rw [e3, Nat.mul_div_cancel_left _ hg]
    rw [hm] at hn
    have : g * m ≤ g * (2 ^ k * c) := by rw [← Nat.mul_assoc, Nat.mul_comm g (2 ^ k), Nat.mul_assoc]; exact hn
    exact Nat.le_of_mul_le_mul_left this hg
theorem Nc.mono {k j : Nat} {q : Rat} (h : Nc k q) (hk : k ≤ j) : Nc j q :=
  ⟨Nat.dvd_trans h.den (Nat.pow_dvd_pow _ hk), Nat.le_trans h.num (Nat.mul_le_mul_right _ (Nat.pow_le_pow_right (by decide) hk))⟩
theorem Nc.add0 {k : Nat} {p q : Rat} (hp : Nc k p) (hq : Nc k q) : Nc (k + 1) (p + q) := by
  obtain ⟨u, hu⟩ := hp.den
  obtain ⟨v, hv⟩ := hq.den
  have h0 : 0 < 360360 ^ k := Nat.pow_pos (by decide)
  generalize hD : 360360 ^ k = D at *
  have hu0 : u ≠ 0 := fun e => by subst e; omega
  have hv0 : v ≠ 0 := fun e => by subst e; omega
  have e1 : p = mkRat (p.num * u) D := by
    rw [hu, Rat.mkRat_mul_right hu0, Rat.mkRat_self]
  have e2 : q = mkRat (q.num * v) D := by
    conv => rhs; rw [hv]
    rw [Rat.mkRat_mul_right hv0, Rat.mkRat_self]
  have hD0 : D ≠ 0 := by omega
  have e3 : p + q = mkRat (p.num * u + q.num * v) D := by
    conv => lhs; rw [e1, e2]
    rw [Rat.mkRat_add_mkRat _ _ hD0 hD0, ← Int.add_mul, Rat.mkRat_mul_right hD0]
  rw [e3]
  refine mk_nc h0 ?_ ?_
  · rw [Nat.pow_succ, hD]
    exact ⟨360360, rfl⟩
  have h1 : (p.num * u).natAbs ≤ 2 ^ k * D := by
    rw [Int.natAbs_mul, hu, ← Nat.mul_assoc]
    exact Nat.mul_le_mul_right _ hp.num
  have h2 : (q.num * v).natAbs ≤ 2 ^ k * D := by
    rw [Int.natAbs_mul, hv, ← Nat.mul_assoc]
    exact Nat.mul_le_mul_right _ hq.num
  have h3 := Int.natAbs_add_le (p.num * u) (q.num * v)
  rw [Nat.pow_succ, Nat.mul_right_comm]
  omega
theorem Nc.add {a b k : Nat} {p q : Rat} (hp : Nc a p) (hq : Nc b q) (h1 : a < k := by omega) (h2 : b < k := by omega) : Nc k (p + q) := by
  obtain ⟨k, rfl⟩ : ∃ j, k = j + 1 := ⟨k - 1, by omega⟩
  exact (hp.mono (by omega)).add0 (hq.mono (by omega))
theorem Nc.mul {a b : Nat} {p q : Rat} (hp : Nc a p) (hq : Nc b q) : Nc (a + b) (p * q) := by
  have e : p * q = mkRat (p.num * q.num) (p.den * q.den) := Rat.mul_def' p q
  rw [e]
  refine mk_nc (Nat.mul_pos p.den_pos q.den_pos) (by rw [Nat.pow_add]; exact Nat.mul_dvd_mul hp.den hq.den) ?_
  rw [Int.natAbs_mul]
  calc p.num.natAbs * q.num.natAbs ≤ (2 ^ a * p.den) * (2 ^ b * q.den) := Nat.mul_le_mul hp.num hq.num
    _ = 2 ^ (a + b) * (p.den * q.den) := by rw [Nat.pow_add, Nat.mul_assoc, Nat.mul_assoc, Nat.mul_left_comm p.den]
theorem Nc.mul' {a b k : Nat} {p q : Rat} (hp : Nc a p) (hq : Nc b q) (h : a + b ≤ k := by omega) : Nc k (p * q) := (hp.mul hq).mono h
theorem nc0 (k : Nat) : Nc k 0 := ⟨by simp, by simp⟩
theorem nc1 (k : Nat) : Nc k 1 := ⟨by simp, by simp; exact Nat.pow_pos (by decide)⟩
theorem Nc.sub1 {k : Nat} {q : Rat} (h : Nc k q) : Nc (k + 1) (1 - q) := by
  obtain ⟨e1, e2⟩ := one_sub_rat q
  refine ⟨by rw [e2]; exact Nat.dvd_trans h.den (Nat.pow_dvd_pow _ (by omega)), ?_⟩
  rw [e1, e2]
  have hn := h.num
  have : 1 ≤ 2 ^ k := Nat.pow_pos (by decide)
  have h3 : q.den ≤ 2 ^ k * q.den := Nat.le_mul_of_pos_left _ this
  rw [Nat.pow_succ, Nat.mul_right_comm]
  omega
/-- a chance: from 0 on and below 1, of the drawn kind -/
structure Ch (q : Rat) : Prop where
  nc : Nc 1 q
  lo : 0 ≤ q
  hi : q < 1
  od : Nc 4 (q / (1 - q))
theorem Ch.rest {q : Rat} (h : Ch q) : Nc 1 (1 - q) := by
  obtain ⟨e1, e2⟩ := one_sub_rat q
  refine ⟨by rw [e2]; exact h.nc.den, ?_⟩
  have hl : 0 ≤ q.num := Rat.num_nonneg.mpr h.lo
  rw [e1, e2]
  have hh : q.num < q.den := by
    have := (Rat.lt_iff q 1).mp h.hi
    simpa using this
  omega
theorem atD_nat (l : List D) (k : Nat) : atD l (k : Int) = l[k]? := by
  unfold atD
  rw [if_pos (by omega)]
  rfl
theorem zip_fr : ∀ a b : List Rat, List.zipWith (fun x y => D.tup [x, y]) (a.map fr) (b.map fr) = (a.zip b).map fun p => D.tup [fr p.1, fr p.2]
  | [], _ => by simp
  | _ :: _, [] => by simp
  | x :: a, y :: b => by simp [zip_fr a b]
theorem zip_add : ∀ a b : List Rat, (a.zip b).map (fun p => fr (p.1 + p.2)) = (List.zipWith (· + ·) a b).map fr
  | [], _ => by simp
  | _ :: _, [] => by simp
  | x :: a, y :: b => by simp [zip_add a b]
theorem zip_fr2 (a b : List Rat) : List.zipWith (fun x y => D.tup [fr x, fr y]) a b = (a.zip b).map fun p => D.tup [fr p.1, fr p.2] := by
  rw [← zip_fr]; simp
theorem zip_mul : ∀ a b : List Rat, (a.zip b).map (fun p => fr (p.1 * p.2)) = (List.zipWith (· * ·) a b).map fr
  | [], _ => by simp
  | _ :: _, [] => by simp
  | x :: a, y :: b => by simp [zip_mul a b]
theorem Nc.small {k : Nat} {q : Rat} (h : Nc k q) (hk : k ≤ 200 := by omega) : q.den < 2 ^ 9000 := Nat.lt_of_lt_of_le (h.sm hk).den (Nat.pow_le_pow_right (by decide) (by decide))
theorem Ch.ok {q : Rat} (h : Ch q) : q.den < 2 ^ 9000 ∧ 0 ≤ q ∧ q < 1 := ⟨Nc.small h.nc, h.lo, h.hi⟩
theorem mul_ref1 {S : Store} {a k : Nat} {x : D} (ha : lstOf S a = some [x]) (h1 : k ≤ 1000) (h2 : x.flat = true) : binop .mul (.ref a) (.int k) S = .ok (.ref S.length) (S ++ [.lst (List.replicate k x)]) := by
  have e : (List.replicate k [x]).flatten = List.replicate k x := by
    induction k with
    | zero => rfl
    | succ k ih => rw [List.replicate_succ, List.flatten_cons, ih (by omega), List.replicate_succ]; rfl
  have h3 : (-(2 ^ 62) : Int) ≤ k := by omega
  have h4 : (k : Int) < 2 ^ 62 := by omega
  have h5 : D.flats (List.replicate k x) = true := flats_all.mpr fun d hd => by rw [List.eq_of_mem_replicate hd]; exact h2
  unfold binop
  simp only [ha]
  simp only [List.length_cons, List.length_nil, Nat.zero_add, Nat.one_mul, Int.toNat_natCast, e, decide_eq_true h3, decide_eq_true h4, sz_small h1, Bool.and_self, R.when_true]
  exact newD_ok (by simpa using h1) h5
theorem sl_ref {S : Store} {a : Nat} {l : List D} {lo hi : Option Int} (ha : lstOf S a = some l) (h1 : (Ev.cutD l lo hi).length ≤ 1000) (h2 : D.flats (Ev.cutD l lo hi) = true) : slD (.ref a) lo hi S = .ok (.ref S.length) (S ++ [.lst (Ev.cutD l lo hi)]) := by
  simp [slD, ha, newD_ok h1 h2]
theorem cutD_take (l : List D) (k : Nat) : Ev.cutD l none (some (k : Int)) = l.take k := by
  unfold Ev.cutD clip
  have : ¬ ((k : Int) < 0) := by omega
  simp [this]
theorem cutD_drop (l : List D) (k : Nat) : Ev.cutD l (some (k : Int)) none = l.drop k := by
  unfold Ev.cutD clip
  have : ¬ ((k : Int) < 0) := by omega
  simp [this]
  rcases Nat.le_total k l.length with h | h
  · rw [Nat.min_eq_left h, List.take_of_length_le (by simp)]
  · rw [Nat.min_eq_right h, List.drop_eq_nil_of_le (Nat.le_refl _), List.drop_eq_nil_of_le h]; simp
@[simp] theorem bin_add_int (i j : Int) (S : Store) : binop .add (.int i) (.int j) S = .ok (.int (i + j)) S := nr rfl
@[simp] theorem bin_sub_int (i j : Int) (S : Store) : binop .sub (.int i) (.int j) S = .ok (.int (i - j)) S := nr rfl
theorem bin_mul_int {i j : Int} (h : mulOk i j = true) (S : Store) : binop .mul (.int i) (.int j) S = .ok (.int (i * j)) S := by simp [binop, h]
theorem bin_fdiv_int {i j : Int} (h : divOk j = true) (S : Store) : binop .fdiv (.int i) (.int j) S = .ok (.int (i / j)) S := by simp [binop, h]
theorem bin_mod_int {i j : Int} (h : 0 < j) (S : Store) : binop .mod (.int i) (.int j) S = .ok (.int (i % j)) S := by simp [binop, h]
@[simp] theorem cmp_lt_int (i j : Int) (S : Store) : cmpop .lt (.int i) (.int j) S = .ok (.bl (decide (i < j))) S := nr rfl
@[simp] theorem cmp_le_int (i j : Int) (S : Store) : cmpop .le (.int i) (.int j) S = .ok (.bl (decide (i ≤ j))) S := nr rfl
@[simp] theorem cmp_gt_int (i j : Int) (S : Store) : cmpop .gt (.int i) (.int j) S = .ok (.bl (decide (j < i))) S := nr rfl
@[simp] theorem cmp_ge_int (i j : Int) (S : Store) : cmpop .ge (.int i) (.int j) S = .ok (.bl (decide (j ≤ i))) S := nr rfl
@[simp] theorem cmp_eq_int (i j : Int) (S : Store) : cmpop .eq (.int i) (.int j) S = .ok (.bl (decide (i = j))) S := by simp [cmpop, eqD_int, obl]
@[simp] theorem cmp_ne_int (i j : Int) (S : Store) : cmpop .ne (.int i) (.int j) S = .ok (.bl (!decide (i = j))) S := by simp [cmpop, eqD_int, obl]
@[simp] theorem cmp_eq_fr (p q : Rat) (S : Store) : cmpop .eq (fr p) (fr q) S = .ok (.bl (decide (p = q))) S := by simp [cmpop, eqD_fr, obl]
@[simp] theorem cmp_ne_fr (p q : Rat) (S : Store) : cmpop .ne (fr p) (fr q) S = .ok (.bl (!decide (p = q))) S := by simp [cmpop, eqD_fr, obl]
@[simp] theorem len_tup (l : List D) (S : Store) : bltD .len [.tup l] S = .ok (.int l.length) S := nr rfl
theorem len_ref {a : Nat} {l : List D} {S : Store} (h : lstOf S a = some l) : bltD .len [.ref a] S = .ok (.int l.length) S := by simp [bltD, items, h]
@[simp] theorem tuple_tup (l : List D) (S : Store) : bltD .tuple [.tup l] S = .ok (.tup l) S := nr rfl
theorem tuple_ref {a : Nat} {l : List D} {S : Store} (h : lstOf S a = some l) : bltD .tuple [.ref a] S = .ok (.tup l) S := by simp [bltD, h]
@[simp] theorem int_int (i : Int) (S : Store) : bltD .int [.int i] S = .ok (.int i) S := nr rfl
@[simp] theorem sub_tup (l : List D) (k : Nat) (S : Store) : subD (.tup l) (.int k) S = orBad (l[k]?) fun d => .ok d S := by
  have e : subD (.tup l) (.int k) S = (match atD l k with | some d => .ok d S | none => .bad) := rfl
  rw [e, atD_nat]
  cases l[k]? <;> rfl
theorem sub_ref {l : List D} {a k : Nat} {d : D} {S : Store} (h : lstOf S a = some l) (hd : l[k]? = some d) : subD (.ref a) (.int k) S = .ok d S := by
  simp [subD, items, h, atD_nat, hd]
theorem flats_take {l : List D} (h : D.flats l = true) (i : Nat) : D.flats (l.take i) = true := flats_all.mpr fun d hd => flats_all.mp h d (List.mem_of_mem_take hd)
theorem flats_drop {l : List D} (h : D.flats l = true) (i : Nat) : D.flats (l.drop i) = true := flats_all.mpr fun d hd => flats_all.mp h d (List.mem_of_mem_drop hd)
theorem gc_len {S S' : Store} {d : D} (h : S'.length ≤ S.length) : gc S d S' = .ok d S' := by
  unfold gc
  rw [if_pos h]
theorem end_len {S S' : Store} {d : D} (hf : d.flat = true) (h : S'.length ≤ S.length) : endD S (.rt d S') = .ok d S' := by
  rw [end_rt, hf, R.when_true, gc_len h]
theorem oldOk_set {S G : Store} {r : Nat} {w : List D} (hw : D.unders S.length w = true) : oldOk S (S.set r (.lst w) ++ G) = true := by
  unfold oldOk
  rw [List.all_eq_true]
  intro i hi
  have hi : i < S.length := by simpa using hi
  rw [List.getElem?_append_left (by simpa using hi), List.getElem?_eq_getElem hi]
  rw [List.getElem?_set]
  by_cases h : r = i
  · subst h
    simp [hi, Cell.under, hw]
  · simp [h, hi, Cell.eqb_refl]
theorem gc_set {S G : Store} {r : Nat} {w : List D} {d : D} (h : d.under S.length = true) (hw : D.unders S.length w = true) : gc S d (S.set r (.lst w) ++ G) = .ok d (S.set r (.lst w)) := by
  by_cases hG : G.length = 0
  · have : G = [] := List.length_eq_zero_iff.mp hG
    subst this
    rw [List.append_nil, gc_len (by simp)]
  · unfold gc
    rw [if_neg (by simp; omega), if_pos (oldOk_set hw), if_pos h]
    rw [List.take_append_of_le_length (by simp), List.take_of_length_le (by simp)]
theorem end_set {S G : Store} {r : Nat} {w : List D} {d : D} (hf : d.flat = true) (h : d.under S.length = true) (hw : D.unders S.length w = true) : endD S (.rt d (S.set r (.lst w) ++ G)) = .ok d (S.set r (.lst w)) := by
  rw [end_rt, hf, R.when_true, gc_set h hw]
/-- a well -/
def WlL (w : List D) (N : Nat) : Prop := ∃ a b c : Int, w = [.int a, .int b, .int c] ∧ 0 ≤ a ∧ 0 ≤ b ∧ b < 2 ^ 40 ∧ 0 ≤ c ∧ c ≤ N
theorem WlL.unders {w : List D} {N : Nat} (h : WlL w N) (n : Nat) : D.unders n w = true := by
  obtain ⟨a, b, c, rfl, _⟩ := h
  rfl
theorem WlL.mono {w : List D} {N M : Nat} (h : WlL w N) (hM : N ≤ M) : WlL w M := by
  obtain ⟨a, b, c, rfl, h1, h2, h3, h4, h5⟩ := h
  exact ⟨a, b, c, rfl, h1, h2, h3, h4, by omega⟩
theorem lstOf_set_self {S : Store} {r : Nat} {w : List D} (h : r < S.length) : lstOf (S.set r (.lst w)) r = some w := by
  unfold lstOf
  rw [List.getElem?_set_self h]
theorem lstOf_set_ne {S : Store} {r k : Nat} {w : List D} (h : r ≠ k) : lstOf (S.set r (.lst w)) k = lstOf S k := by
  unfold lstOf
  rw [List.getElem?_set_ne h]
theorem set_app_left {S G : Store} {r : Nat} {c : Cell} (h : r < S.length) : (S ++ G).set r c = S.set r c ++ G := by
  rw [List.set_append_left _ _ h]
theorem sub_refI {l : List D} {a : Nat} {i : Int} {d : D} {S : Store} (h : lstOf S a = some l) (h0 : 0 ≤ i) (hd : l[i.toNat]? = some d) : subD (.ref a) (.int i) S = .ok d S := by
  obtain ⟨k, rfl⟩ : ∃ k : Nat, i = k := ⟨i.toNat, by omega⟩
  exact sub_ref h (by simpa using hd)
theorem sub_tupI {l : List D} {i : Int} {d : D} {S : Store} (h0 : 0 ≤ i) (hd : l[i.toNat]? = some d) : subD (.tup l) (.int i) S = .ok d S := by
  obtain ⟨k, rfl⟩ : ∃ k : Nat, i = k := ⟨i.toNat, by omega⟩
  have : l[k]? = some d := by simpa using hd
  simp [this]
theorem mul_ok1 {i j : Int} (h1 : 0 ≤ i) (h2 : i < 2 ^ 60) (h3 : 0 ≤ j) (h4 : j < 2 ^ 60) : mulOk i j = true := mul_ok2 (by omega) (by omega)
theorem append_ok {l : List D} {r : Nat} {d : D} {S : Store} (h : lstOf S r = some l) (h1 : l.length < 1000) (h2 : d.flat = true) : methD .append (.ref r) [d] S = .ok .non (S.set r (.lst (l ++ [d]))) := by
  simp [methD, h, h2, sz_small (show l.length + 1 ≤ 1000 by omega)]
theorem lsOk_ref {l : List D} {r : Nat} {S : Store} (h : lstOf S r = some l) : lsOk (.ref r) S = true := by simp [lsOk, h]
theorem add_tup {a b : List D} {S : Store} (h : a.length + b.length ≤ 1000) : binop .add (.tup a) (.tup b) S = .ok (.tup (a ++ b)) S := by
  simp [binop, sz_small h]
/-- a tuple of moments -/
def nats (c : List Nat) : List D := c.map fun (k : Nat) => .int k
@[simp] theorem flats_nats (c : List Nat) : D.flats (nats c) = true := by simp [flats_all, nats]
@[simp] theorem unders_nats (n : Nat) (c : List Nat) : D.unders n (nats c) = true := by simp [unders_all, nats]
@[simp] theorem nats_len (c : List Nat) : (nats c).length = c.length := by simp [nats]
@[simp] theorem nats_app (a b : List Nat) : nats a ++ nats b = nats (a ++ b) := by simp [nats]
theorem nats_one (k : Nat) : [D.int k] = nats [k] := rfl
@[simp] theorem nats_nil : nats [] = [] := rfl
theorem optAll_nats (S : Store) (n : Nat) (l : List Nat) : optAll ((nats l).map (pyN S n)) = some (l.map fun (k : Nat) => PyData.int k) := by
  induction l with
  | nil => simp [nats, optAll]
  | cons a l ih =>
    simp [nats] at ih
    have h : pyN S n (.int (a : Nat)) = some (PyData.int a) := by cases n <;> simp [pyN]
    simp [nats, optAll, h, ih]
theorem cmp_eq_nil {l : List Nat} {a b : Nat} {S : Store} (ha : lstOf S a = some (nats l)) (hb : lstOf S b = some []) : cmpop .eq (.ref a) (.ref b) S = .ok (.bl l.isEmpty) S := by
  have e1 : pyN S 20 (.ref a) = some (.list (l.map fun (k : Nat) => PyData.int k)) := by
    simp only [pyN, ha, optAll_nats]
    rfl
  have e2 : pyN S 20 (.ref b) = some (.list []) := by simp [pyN, hb, optAll]
  have e3 : eqD S (.ref a) (.ref b) = some l.isEmpty := by
    unfold eqD
    simp only [e1, e2]
    cases l <;> simp [PyData.eqv, PyData.eqvAll]
  simp [cmpop, e3, obl]
theorem cmp_in_nats {l : List Nat} {k : Nat} {S : Store} : cmpop .in_ (.int k) (.tup (nats l)) S = .ok (.bl (decide (k ∈ l))) S := by
  have e1 : inD S (.int k) (.tup (nats l)) = some (decide (k ∈ l)) := by
    unfold inD
    simp only [items, optAll_nats]
    simp [pyN]
    induction l with
    | nil => simp
    | cons a l ih =>
      simp only [List.map_cons, List.any_cons, ih]
      simp [PyData.eqv]
      by_cases h1 : k = a
      · subst h1; simp
      · simp [h1]
        intro h
        omega
  simp [cmpop, e1, obl]
theorem srcB_rngI {j : Int} {S : Store} (h1 : -1000 ≤ j) (h2 : j ≤ 1000) : srcB .range [.int j] S = some ⟨(List.range j.toNat).map fun (i : Nat) => .int i, []⟩ := by
  unfold srcB
  dsimp only
  rw [if_pos (by omega), rng0]
theorem max_nat (a b : Nat) (S : Store) : bltD .max [.int a, .int b] S = .ok (.int (max a b : Nat)) S := by
  simp only [bltD]
  congr 2
  split <;> omega
theorem repr_bl2 {a : Nat} {b : Bool} {S : Store} (h : lstOf S a = some [.bl b, .bl b]) : bltD .repr [.ref a] S = .ok (.str (PyData.shown (.list [.bool b, .bool b]))) S := by
  have e : pyN S 20 (.ref a) = some (.list [.bool b, .bool b]) := by simp [pyN, h, optAll]
  unfold bltD
  simp only [isSq, e]
  have : (PyData.showable (.list [.bool b, .bool b]) && !PyData.hasDict (.list [.bool b, .bool b]) && decide ((PyData.shown (.list [.bool b, .bool b])).length ≤ sizeLine)) = true := by
    cases b <;> decide +kernel
  rw [this]
  rfl
@[simp] theorem cmp_ne_str (a b : Str) (S : Store) : cmpop .ne (.str a) (.str b) S = .ok (.bl (!decide (a = b))) S := by simp [cmpop, eqD, obl]
@[simp] theorem cmp_eq_str (a b : Str) (S : Store) : cmpop .eq (.str a) (.str b) S = .ok (.bl (decide (a = b))) S := by simp [cmpop, eqD, obl]
theorem div_mk {p q : Rat} (h : 0 < q.num) : p / q = mkRat (p.num * q.den) (p.den * q.num.toNat) := by
  have e1 : q⁻¹ = mkRat q.den q.num.toNat := by
    rw [Rat.inv_def, ← Rat.divInt_ofNat, Int.toNat_of_nonneg (by omega)]
  rw [Rat.div_def, e1]
  conv => lhs; rw [← Rat.mkRat_self p]
  rw [Rat.mkRat_mul_mkRat]
def sumQ (l : List Rat) : Rat := l.foldl (· + ·) 0
def prodQ (l : List Rat) : Rat := l.foldl (· * ·) 1
/-- what may be walked as such a list -/
def Rowd (S : Store) (l : List D) (d : D) : Prop := d = .tup l ∨ ∃ r, d = .ref r ∧ lstOf S r = some l
theorem row_src {S : Store} {l : List D} {d : D} (h : Rowd S l d) : ∃ src, srcD d S = some src ∧ src.l = l ∧ (∀ S', S <+: S' → src.ok S' = true) ∧ isUns d = false := by
  rcases h with rfl | ⟨r, rfl, h⟩
  · exact ⟨_, rfl, rfl, fun _ _ => rfl, rfl⟩
  · exact ⟨⟨l, [(r, l)]⟩, srcD_ref h, rfl, fun S' hp => src_ref_ok h hp, rfl⟩
theorem fold_take {α β : Type} (f : β → α → β) (a : β) (l : List α) (i : Nat) {x : α} (h : l[i]? = some x) : (l.take (i + 1)).foldl f a = f ((l.take i).foldl f a) x := by
  rw [List.take_add_one, h]
  simp [List.foldl_append]
theorem sumQ_succ {l : List Rat} {i : Nat} {x : Rat} (h : l[i]? = some x) : sumQ (l.take (i + 1)) = sumQ (l.take i) + x := fold_take _ _ _ _ h
theorem prodQ_succ {l : List Rat} {i : Nat} {x : Rat} (h : l[i]? = some x) : prodQ (l.take (i + 1)) = prodQ (l.take i) * x := fold_take _ _ _ _ h
/-- a chance and its rest are small -/
def Cn (c : Nat) (q : Rat) : Prop := Nc c q ∧ Nc c (1 - q)
theorem prod_nc {c : Nat} : ∀ {l : List Rat}, (∀ q ∈ l, Nc c q) → ∀ i, Nc (c * l.length) (prodQ (l.take i)) := by
  intro l
  have : ∀ (l : List Rat) (a : Rat) (k : Nat), Nc k a → (∀ q ∈ l, Nc c q) → Nc (k + c * l.length) (l.foldl (· * ·) a) := by
    intro l
    induction l with
    | nil => intro a k h _; simpa using h
    | cons x l ih =>
      intro a k h hl
      have := ih (a * x) (k + c) (h.mul (hl x (by simp))) (fun q hq => hl q (by simp [hq]))
      rw [List.foldl_cons]
      refine this.mono ?_
      rw [List.length_cons, Nat.mul_add]
      omega
  intro h i
  refine (this (l.take i) 1 0 (nc1 0) (fun q hq => h q (List.mem_of_mem_take hq))).mono ?_
  rw [Nat.zero_add]
  exact Nat.mul_le_mul_left _ (List.length_take_le' _ _)
theorem sum_nc {k : Nat} : ∀ {l : List Rat}, (∀ q ∈ l, Nc k q) → ∀ i, Nc (k + l.length) (sumQ (l.take i)) := by
  intro l
  have : ∀ (l : List Rat) (a : Rat) (j : Nat), Nc (k + j) a → (∀ q ∈ l, Nc k q) → Nc (k + (j + l.length)) (l.foldl (· + ·) a) := by
    intro l
    induction l with
    | nil => intro a j h _; simpa using h
    | cons x l ih =>
      intro a j h hl
      have := ih (a + x) (j + 1) ((h.add (hl x (by simp)) (k := k + (j + 1)) (by omega) (by omega))) (fun q hq => hl q (by simp [hq]))
      rw [List.foldl_cons]
      refine this.mono ?_
      rw [List.length_cons]
      omega
  intro h i
  refine (this (l.take i) 0 0 (nc0 _) (fun q hq => h q (List.mem_of_mem_take hq))).mono ?_
  have := List.length_take_le' i l
  omega
theorem sum_nc' {k : Nat} {l : List Rat} (h : ∀ q ∈ l, Nc k q) : Nc (k + l.length) (sumQ l) := by
  have := sum_nc h l.length
  rwa [List.take_length] at this
theorem prod_nc' {k : Nat} {l : List Rat} (h : ∀ q ∈ l, Nc k q) : Nc (k * l.length) (prodQ l) := by
  have := prod_nc h l.length
  rwa [List.take_length] at this
theorem sumQ_cons (a : Rat) (l : List Rat) : sumQ (a :: l) = a + sumQ l := by
  have : ∀ (l : List Rat) (b : Rat), l.foldl (· + ·) b = b + l.foldl (· + ·) 0 := by
    intro l
    induction l with
    | nil => intro b; simp [Rat.add_zero]
    | cons x l ih => intro b; rw [List.foldl_cons, List.foldl_cons, ih (b + x), ih (0 + x)]; grind
  unfold sumQ
  rw [List.foldl_cons, this l (0 + a)]
  grind
theorem sumQ_nil : sumQ [] = 0 := rfl
theorem Ch.cn {q : Rat} (h : Ch q) : Cn 1 q := ⟨h.nc, h.rest⟩
def isNon : D → Bool
  | .non => true
  | _ => false
@[simp] theorem isNon_non : isNon .non = true := nr rfl
@[simp] theorem isNon_int (i : Int) : isNon (.int i) = false := nr rfl
@[simp] theorem isNon_bl (i : Bool) : isNon (.bl i) = false := nr rfl
@[simp] theorem isNon_tup (i : List D) : isNon (.tup i) = false := nr rfl
@[simp] theorem isNon_fr (q : Rat) : isNon (fr q) = false := nr rfl
@[simp] theorem cmp_is_non (x : D) (S : Store) : cmpop .is x .non S = .ok (.bl (isNon x)) S := by cases x <;> rfl
@[simp] theorem cmp_isnot_non (x : D) (S : Store) : cmpop .isnot x .non S = .ok (.bl (!isNon x)) S := by cases x <;> rfl
end Sp
set_option Elab.async false
set_option linter.all false
set_option maxRecDepth 100000
set_option exponentiation.threshold 20000
/-! Sp3: naming: going back from the end, and by the odds. -/
namespace Sp
open PySem PySem.Spec PyProof.Rows L2 Ev
def maxQ (p q : Rat) : Rat := if p < q then q else p
theorem maxQ_nc {k : Nat} {p q : Rat} (hp : Nc k p) (hq : Nc k q) : Nc k (maxQ p q) := by unfold maxQ; split <;> assumption
def mixQ (s a b : Rat) : Rat := s * a + (1 - s) * b
theorem mixQ_nc {k : Nat} {s a b : Rat} (hs : Cn 1 s) (ha : Nc k a) (hb : Nc k b) : Nc (k + 2) (mixQ s a b) := Nc.add (a := 1 + k) (b := 1 + k) (hs.1.mul ha) (hs.2.mul hb) (by omega) (by omega)
def oddsQ (l : List Rat) : List Rat := l.map fun q => q / (1 - q)
theorem odds_nc {l : List Rat} (h : ∀ q ∈ l, Ch q) : ∀ q ∈ oddsQ l, Nc 4 q := fun q hq => by
  obtain ⟨p, hp, rfl⟩ := List.mem_map.mp hq
  exact (h p hp).od
def wonQ (l : List Rat) (k : Nat) : Rat := sumQ ((oddsQ l).drop k) * prodQ ((l.drop k).map (1 - ·))
def startQ (l : List Rat) (i : Nat) : Nat := (List.range i).foldl (fun s k => if sumQ ((oddsQ l).drop k) < 1 then s else k) 0
theorem startQ_succ (l : List Rat) (i : Nat) : startQ l (i + 1) = if sumQ ((oddsQ l).drop i) < 1 then startQ l i else i := by
  unfold startQ
  rw [List.range_succ, List.foldl_append]
  rfl
/-- what is had at most from each of the last i moments on, naming there being worth w -/
def hmQ (r w : List Rat) : Nat → List Rat
  | 0 => [0]
  | i + 1 => mixQ (r.getD (r.length - 1 - i) 0) (maxQ (w.getD (r.length - 1 - i) 0) ((hmQ r w i).getD 0 0)) ((hmQ r w i).getD 0 0) :: hmQ r w i
theorem hmQ_len (r e : List Rat) (i : Nat) : (hmQ r e i).length = i + 1 := by
  induction i with
  | zero => rfl
  | succ i ih => simp [hmQ, ih]
theorem getD_nc {k : Nat} {l : List Rat} (h : ∀ q ∈ l, Nc k q) (i : Nat) : Nc k (l.getD i 0) := by
  rw [List.getD_eq_getElem?_getD]
  cases hq : l[i]? with
  | none => exact nc0 k
  | some q => exact h q (List.mem_of_getElem? hq)
theorem getD_nc1 {l : List Rat} (h : ∀ q ∈ l, Ch q) (i : Nat) : Nc 1 (1 - l.getD i 0) := by
  rw [List.getD_eq_getElem?_getD]
  cases hq : l[i]? with
  | none => exact (show Nc 1 (1 - 0) from (by rw [show (1 : Rat) - 0 = 1 by grind]; exact nc1 1))
  | some q => exact (h q (List.mem_of_getElem? hq)).rest
theorem getD_cn {l : List Rat} (h : ∀ q ∈ l, Ch q) (i : Nat) : Cn 1 (l.getD i 0) := ⟨getD_nc (fun q hq => (h q hq).nc) i, getD_nc1 h i⟩
theorem hmQ_nc {c : Nat} {r w : List Rat} (hr : ∀ q ∈ r, Ch q) (hw : ∀ q ∈ w, Nc c q) (i : Nat) : ∀ q ∈ hmQ r w i, Nc (c + 2 * i) q := by
  induction i with
  | zero => intro q hq; simp [hmQ] at hq; subst hq; exact nc0 _
  | succ i ih =>
    intro q hq
    rcases List.mem_cons.mp hq with rfl | hq
    · have h := mixQ_nc (k := c + 2 * i) (getD_cn hr (r.length - 1 - i)) (maxQ_nc ((getD_nc hw (r.length - 1 - i)).mono (by omega)) (getD_nc ih 0)) (getD_nc ih 0)
      exact h.mono (by omega)
    · exact (ih q hq).mono (by omega)
theorem prodQ_cons (a : Rat) (l : List Rat) : prodQ (a :: l) = a * prodQ l := by
  have : ∀ (l : List Rat) (b : Rat), l.foldl (· * ·) b = b * l.foldl (· * ·) 1 := by
    intro l
    induction l with
    | nil => intro b; simp [Rat.mul_one]
    | cons x l ih => intro b; rw [List.foldl_cons, List.foldl_cons, ih (b * x), ih (1 * x)]; grind
  unfold prodQ
  rw [List.foldl_cons, this l (1 * a)]
  grind
theorem prodQ_nil : prodQ [] = 1 := rfl
/-- behind the moment k no sign comes -/
def noneQ (l : List Rat) (k : Nat) : Rat := prodQ ((l.drop k).map (1 - ·))
theorem noneQ_step {l : List Rat} {k : Nat} (h : k < l.length) : noneQ l k = (1 - l.getD k 0) * noneQ l (k + 1) := by
  unfold noneQ
  rw [List.drop_eq_getElem_cons h, List.map_cons, prodQ_cons, List.getD_eq_getElem?_getD, List.getElem?_eq_getElem h]
  rfl
theorem sum_odds_step {l : List Rat} {k : Nat} (h : k < l.length) : sumQ ((oddsQ l).drop k) = l.getD k 0 / (1 - l.getD k 0) + sumQ ((oddsQ l).drop (k + 1)) := by
  have h' : k < (oddsQ l).length := by simpa [oddsQ] using h
  rw [List.drop_eq_getElem_cons h', sumQ_cons, List.getD_eq_getElem?_getD, List.getElem?_eq_getElem h]
  simp [oddsQ]
theorem noneQ_end {l : List Rat} : noneQ l l.length = 1 := by
  unfold noneQ
  rw [List.drop_length]
  rfl
theorem wonQ_end {l : List Rat} : wonQ l l.length = 0 := by
  have h : (oddsQ l).drop l.length = [] := by
    apply List.drop_eq_nil_of_le
    simp [oddsQ]
  unfold wonQ
  rw [h, sumQ_nil, Rat.zero_mul]
theorem ch_at {l : List Rat} (h : ∀ q ∈ l, Ch q) {k : Nat} (hk : k < l.length) : Ch (l.getD k 0) := by
  rw [List.getD_eq_getElem?_getD, List.getElem?_eq_getElem hk]
  exact h _ (List.getElem_mem hk)
theorem wonQ_step {l : List Rat} (hl : ∀ q ∈ l, Ch q) {k : Nat} (h : k < l.length) : wonQ l k = l.getD k 0 * noneQ l (k + 1) + (1 - l.getD k 0) * wonQ l (k + 1) := by
  have e1 := sum_odds_step h
  have e2 := noneQ_step h
  have hc := ch_at hl h
  have hne : (1 : Rat) - l.getD k 0 ≠ 0 := by have := hc.hi; grind
  show sumQ ((oddsQ l).drop k) * noneQ l k = _ + (1 - l.getD k 0) * (sumQ ((oddsQ l).drop (k + 1)) * noneQ l (k + 1))
  rw [e1, e2]
  generalize l.getD k 0 = p at *
  have e3 : p / (1 - p) * (1 - p) = p := Rat.div_mul_cancel hne
  generalize p / (1 - p) = o at *
  grind
theorem noneQ_pos {l : List Rat} (hl : ∀ q ∈ l, Ch q) : ∀ (i k : Nat), k + i = l.length → 0 < noneQ l k := by
  intro i
  induction i with
  | zero => intro k hk; rw [show k = l.length by omega, noneQ_end]; decide +kernel
  | succ i ih =>
    intro k hk
    rw [noneQ_step (by omega)]
    have h1 := ih (k + 1) (by omega)
    have h2 := (ch_at hl (show k < l.length by omega)).hi
    exact Rat.mul_pos (by grind) h1
theorem noneQ_mono {l : List Rat} (hl : ∀ q ∈ l, Ch q) {k : Nat} (h : k < l.length) : noneQ l k ≤ noneQ l (k + 1) := by
  rw [noneQ_step h]
  have h1 := noneQ_pos hl (l.length - (k + 1)) (k + 1) (by omega)
  have h2 := (ch_at hl h).lo
  generalize l.getD k 0 = p at *
  generalize noneQ l (k + 1) = q at *
  have h3 : 0 ≤ p * q := Rat.mul_nonneg h2 (Rat.le_of_lt h1)
  grind
theorem noneQ_mono' {l : List Rat} (hl : ∀ q ∈ l, Ch q) {k : Nat} : ∀ (j : Nat), k + j ≤ l.length → noneQ l k ≤ noneQ l (k + j) := by
  intro j
  induction j with
  | zero => intro _; exact Rat.le_refl
  | succ j ih =>
    intro h
    exact Rat.le_trans (ih (by omega)) (noneQ_mono hl (by omega))
theorem startQ_ok (l : List Rat) (i : Nat) : startQ l i ≤ i ∧ (∀ k, startQ l i < k → k < i → sumQ ((oddsQ l).drop k) < 1) ∧ (startQ l i = 0 ∨ ¬ sumQ ((oddsQ l).drop (startQ l i)) < 1) := by
  induction i with
  | zero => exact ⟨Nat.le_refl _, fun k _ h => by omega, .inl rfl⟩
  | succ i ih =>
    obtain ⟨h1, h2, h3⟩ := ih
    rw [startQ_succ]
    by_cases h : sumQ ((oddsQ l).drop i) < 1
    · rw [if_pos h]
      refine ⟨by omega, fun k hk hk2 => ?_, h3⟩
      by_cases e : k = i
      · rw [e]; exact h
      · exact h2 k hk (by omega)
    · rw [if_neg h]
      exact ⟨by omega, fun k hk hk2 => by omega, .inr h⟩
/-- by the odds as much is won as by going back from the end -/
theorem bruss {l w : List Rat} (hl : ∀ q ∈ l, Ch q) (hw : ∀ k < l.length, w.getD k 0 = noneQ l (k + 1)) : (hmQ l w l.length).getD 0 0 = wonQ l (startQ l l.length) := by
  obtain ⟨s1, s2, s3⟩ := startQ_ok l l.length
  generalize startQ l l.length = s at *
  have A : ∀ i, i ≤ l.length → (hmQ l w i).getD 0 0 = if s ≤ l.length - i then wonQ l (l.length - i) else wonQ l s := by
    intro i
    induction i with
    | zero =>
      intro _
      rw [if_pos (by omega), Nat.sub_zero, wonQ_end]
      rfl
    | succ i ih =>
      intro hi
      have ih := ih (by omega)
      have e : (hmQ l w (i + 1)).getD 0 0 = mixQ (l.getD (l.length - 1 - i) 0) (maxQ (w.getD (l.length - 1 - i) 0) ((hmQ l w i).getD 0 0)) ((hmQ l w i).getD 0 0) := rfl
      rw [e, ih]
      obtain ⟨k, hk⟩ : ∃ k, l.length - 1 - i = k := ⟨_, rfl⟩
      have hk1 : l.length - i = k + 1 := by omega
      have hk2 : l.length - (i + 1) = k := by omega
      rw [hk, hk1, hk2, hw k (by omega)]
      have hkl : k < l.length := by omega
      have hq := noneQ_pos hl (l.length - (k + 1)) (k + 1) (by omega)
      by_cases h : s ≤ k
      · rw [if_pos (by omega), if_pos h, wonQ_step hl hkl]
        have hle : ¬ noneQ l (k + 1) < wonQ l (k + 1) := by
          by_cases hn : k + 1 = l.length
          · rw [hn, wonQ_end]
            rw [hn] at hq
            grind
          · have := s2 (k + 1) (by omega) (by omega)
            show ¬ noneQ l (k + 1) < sumQ ((oddsQ l).drop (k + 1)) * noneQ l (k + 1)
            generalize sumQ ((oddsQ l).drop (k + 1)) = R at *
            generalize noneQ l (k + 1) = q at *
            have h3 : 0 < (1 - R) * q := Rat.mul_pos (by grind) hq
            grind
        unfold maxQ mixQ
        rw [if_neg hle]
      · rw [if_neg h]
        have hv : (if s ≤ k + 1 then wonQ l (k + 1) else wonQ l s) = wonQ l s := by
          by_cases h' : s ≤ k + 1
          · rw [if_pos h', show s = k + 1 by omega]
          · rw [if_neg h']
        rw [hv]
        have hR : ¬ sumQ ((oddsQ l).drop s) < 1 := by
          rcases s3 with h0 | h0
          · omega
          · exact h0
        have hle : noneQ l (k + 1) ≤ wonQ l s := by
          have h1 := noneQ_mono' hl (k := k + 1) (s - (k + 1)) (by omega)
          rw [show k + 1 + (s - (k + 1)) = s by omega] at h1
          have h2 := noneQ_pos hl (l.length - s) s (by omega)
          show noneQ l (k + 1) ≤ sumQ ((oddsQ l).drop s) * noneQ l s
          generalize sumQ ((oddsQ l).drop s) = R at *
          generalize noneQ l s = q at *
          have h3 : 0 ≤ (R - 1) * q := Rat.mul_nonneg (by grind) (Rat.le_of_lt h2)
          grind
        have hm : maxQ (noneQ l (k + 1)) (wonQ l s) = wonQ l s := by
          unfold maxQ
          split
          · rfl
          · grind
        rw [hm]
        unfold mixQ
        grind
  rw [A l.length (Nat.le_refl _), Nat.sub_self]
  by_cases h : s ≤ 0
  · rw [if_pos h, show s = 0 by omega]
  · rw [if_neg h]
def stepC (f : List Rat) (q : Rat) : List Rat := List.zipWith (· + ·) (0 :: f.map (· * q)) (f.map (· * (1 - q)) ++ [0])
def countsQ (l : List Rat) : List Rat := l.foldl stepC [1]
theorem stepC_len (f : List Rat) (q : Rat) : (stepC f q).length = f.length + 1 := by simp [stepC]
theorem countsQ_len (l : List Rat) : (countsQ l).length = l.length + 1 := by
  have : ∀ (l : List Rat) (f : List Rat), (l.foldl stepC f).length = f.length + l.length := by
    intro l
    induction l with
    | nil => simp
    | cons q l ih => intro f; rw [List.foldl_cons, ih, stepC_len]; simp; omega
  unfold countsQ
  rw [this]; simp; omega
theorem stepC_nc {c k : Nat} {f : List Rat} {q : Rat} (hf : ∀ p ∈ f, Nc k p) (hq : Cn c q) : ∀ p ∈ stepC f q, Nc (k + c + 1) p := by
  intro p hp
  unfold stepC at hp
  obtain ⟨i, hi, rfl⟩ := List.mem_iff_getElem.mp hp
  rw [List.getElem_zipWith]
  refine Nc.add (a := k + c) (b := k + c) ?_ ?_ (by omega) (by omega)
  · have : ∀ p ∈ (0 :: f.map (· * q)), Nc (k + c) p := by
      intro p hp
      rcases List.mem_cons.mp hp with rfl | hp
      · exact nc0 _
      · obtain ⟨x, hx, rfl⟩ := List.mem_map.mp hp
        exact (hf x hx).mul hq.1
    exact this _ (List.getElem_mem _)
  · have : ∀ p ∈ (f.map (· * (1 - q)) ++ [0]), Nc (k + c) p := by
      intro p hp
      rcases List.mem_append.mp hp with hp | hp
      · obtain ⟨x, hx, rfl⟩ := List.mem_map.mp hp
        exact (hf x hx).mul hq.2
      · simp at hp; subst hp; exact nc0 _
    exact this _ (List.getElem_mem _)
theorem counts_nc {c : Nat} : ∀ (l : List Rat) (k : Nat) (f : List Rat), (∀ p ∈ f, Nc k p) → (∀ q ∈ l, Cn c q) → ∀ p ∈ l.foldl stepC f, Nc (k + (c + 1) * l.length) p
  | [], k, f, hf, _ => by simpa using hf
  | q :: l, k, f, hf, hl => by
    have := counts_nc l (k + c + 1) (stepC f q) (stepC_nc hf (hl q (by simp))) (fun q hq => hl q (by simp [hq]))
    intro p hp
    refine (this p hp).mono ?_
    rw [List.length_cons, Nat.mul_add]
    omega
theorem countsQ_succ {l : List Rat} {i : Nat} {x : Rat} (h : l[i]? = some x) : countsQ (l.take (i + 1)) = stepC (countsQ (l.take i)) x := fold_take _ _ _ _ h
theorem countsQ_nc {c : Nat} {l : List Rat} (hl : ∀ q ∈ l, Cn c q) (i : Nat) : ∀ p ∈ countsQ (l.take i), Nc ((c + 1) * l.length) p := fun p hp => by
  have := counts_nc (l.take i) 0 [1] (by simp; exact nc1 0) (fun q hq => hl q (List.mem_of_mem_take hq)) p hp
  refine this.mono ?_
  rw [Nat.zero_add]
  exact Nat.mul_le_mul_left _ (List.length_take_le' _ _)
theorem mkRat_sm {n : Int} {d : Nat} (hd : 0 < d) (h1 : n.natAbs < 2 ^ 4000) (h2 : d < 2 ^ 4000) : Sm (mkRat n d) := by
  have e1 := Rat.num_mkRat n d
  have e2 := Rat.den_mkRat n d
  rw [if_neg (by omega)] at e1 e2
  constructor
  · rw [e1]
    refine Nat.lt_of_le_of_lt ?_ h1
    have := Int.natAbs_ediv_le_natAbs n (d.gcd n.natAbs : Nat)
    exact this
  · rw [e2]
    exact Nat.lt_of_le_of_lt (Nat.div_le_self _ _) h2
theorem Nc.big {k : Nat} {p : Rat} (h : Nc k p) : p.den ≤ 2 ^ (19 * k) ∧ p.num.natAbs ≤ 2 ^ (20 * k) := by
  have h1 : p.den ≤ 360360 ^ k := Nat.le_of_dvd (Nat.pow_pos (by decide)) h.den
  have h2 : (360360 : Nat) ^ k ≤ (2 ^ 19) ^ k := Nat.pow_le_pow_left (by decide) k
  rw [← Nat.pow_mul] at h2
  refine ⟨Nat.le_trans h1 h2, Nat.le_trans h.num ?_⟩
  have : 2 ^ k * p.den ≤ 2 ^ k * 2 ^ (19 * k) := Nat.mul_le_mul_left _ (Nat.le_trans h1 h2)
  rw [← Nat.pow_add] at this
  rw [show 20 * k = k + 19 * k by omega]
  exact this
theorem Nc.div_sm {k j : Nat} {p q : Rat} (hp : Nc k p) (hq : Nc j q) (h0 : 0 < q) (h : k + j ≤ 190) : Sm (p / q) := by
  have hn0 : 0 < q.num := by have := (Rat.lt_iff 0 q).mp h0; simpa using this
  rw [div_mk hn0]
  obtain ⟨a1, a2⟩ := hp.big
  obtain ⟨b1, b2⟩ := hq.big
  have up : ∀ a b : Nat, a + b ≤ 20 * (k + j) → 2 ^ a * 2 ^ b < 2 ^ 4000 := fun a b hab => by
    rw [← Nat.pow_add]
    exact Nat.pow_lt_pow_right (by decide) (by omega)
  refine mkRat_sm (Nat.mul_pos p.den_pos (by omega)) ?_ ?_
  · rw [Int.natAbs_mul]
    exact Nat.lt_of_le_of_lt (Nat.mul_le_mul a2 (by simpa using b1)) (up _ _ (by omega))
  · have : q.num.toNat ≤ 2 ^ (20 * j) := by omega
    exact Nat.lt_of_le_of_lt (Nat.mul_le_mul a1 this) (up _ _ (by omega))
/-- a chance of any kind whose odds are small -/
structure Od (q : Rat) : Prop where
  sm : Sm q
  sr : Sm (1 - q)
  lo : 0 ≤ q
  hi : q < 1
  od : Nc 8 (q / (1 - q))
theorem Ch.to_od {q : Rat} (h : Ch q) : Od q := ⟨h.nc.sm, h.rest.sm, h.lo, h.hi, h.od.mono (by omega)⟩
theorem Od.ok {q : Rat} (h : Od q) : q.den < 2 ^ 9000 ∧ 0 ≤ q ∧ q < 1 := ⟨Nat.lt_of_lt_of_le h.sm.den (Nat.pow_le_pow_right (by decide) (by decide)), h.lo, h.hi⟩
theorem oddsO_nc {l : List Rat} (h : ∀ q ∈ l, Od q) : ∀ q ∈ oddsQ l, Nc 8 q := fun q hq => by
  obtain ⟨p, hp, rfl⟩ := List.mem_map.mp hq
  exact (h p hp).od
/-- the chance with the odds o -/
theorem od_of {o : Rat} (ho : Nc 8 o) (h0 : 0 ≤ o) : Od (o / (o + 1)) ∧ o / (o + 1) / (1 - o / (o + 1)) = o := by
  have h1 : 0 < o + 1 := by grind
  have hne : o + 1 ≠ 0 := by grind
  have n1 : Nc 9 (o + 1) := ho.add (nc1 8) (by omega) (by omega)
  have e1 : 1 - o / (o + 1) = 1 / (o + 1) := by
    have : (o + 1) * (o + 1)⁻¹ = 1 := Rat.mul_inv_cancel _ hne
    rw [Rat.div_def, Rat.div_def]
    generalize (o + 1)⁻¹ = y at *
    grind
  have hi : 0 < 1 / (o + 1) := by
    rw [Rat.div_def, Rat.one_mul]
    exact Rat.inv_pos.mpr h1
  have e2 : o / (o + 1) / (1 - o / (o + 1)) = o := by
    rw [e1]
    have hx : 1 / (o + 1) ≠ 0 := by grind
    have e3 : o / (o + 1) = o * (1 / (o + 1)) := by rw [Rat.div_def, Rat.div_def, Rat.one_mul]
    rw [e3]
    exact Rat.mul_div_cancel hx
  refine ⟨⟨ho.div_sm n1 h1 (by omega), ?_, ?_, ?_, ?_⟩, e2⟩
  · rw [e1]; exact (nc1 0).div_sm n1 h1 (by omega)
  · have e3 : o / (o + 1) = o * (1 / (o + 1)) := by rw [Rat.div_def, Rat.div_def, Rat.one_mul]
    rw [e3]
    exact Rat.mul_nonneg h0 (Rat.le_of_lt hi)
  · grind
  · rw [e2]; exact ho
end Sp
set_option Elab.async false
set_option linter.all false
set_option maxRecDepth 100000
set_option maxHeartbeats 0
namespace Lw
open PySem PySem.Spec PyProof.Rows L2 Ev
def top (i : Nat) : Stmt := PySem.Challenge.pw_signstops_k75_whole_just_so_many_and_eac.main.body.getD i (.Pass ⟨0, 0, 0, 0⟩)
def f_is_whole : Fn := ⟨["value"], [], 1, (.cons (.ret (.and (.isi (.var 0) ["int"]) (.not (.isi (.var 0) ["bool"])))) .nil)⟩
def i_is_whole : FI := ⟨"is_whole", ⟨defArgs (top 3), defBody (top 3), defScope (top 3), ["value"], false⟩, f_is_whole⟩
def f_is_number : Fn := ⟨["value", "low", "high"], [.non], 3, (.cons (.ret (.and (.call "is_whole" (.cons (.var 0) .nil) .nil) (.and (.cmp .le (.var 1) (.var 0)) (.or (.cmp .is (.var 2) .cnon) (.cmp .le (.var 0) (.var 2)))))) .nil)⟩
def i_is_number : FI := ⟨"is_number", ⟨defArgs (top 4), defBody (top 4), defScope (top 4), ["value", "low", "high"], false⟩, f_is_number⟩
def f_is_tuple_of : Fn := ⟨["value", "many"], [], 2, (.cons (.ret (.and (.isi (.var 0) ["tuple"]) (.cmp .eq (.bi .len (.cons (.var 0) .nil)) (.var 1)))) .nil)⟩
def i_is_tuple_of : FI := ⟨"is_tuple_of", ⟨defArgs (top 5), defBody (top 5), defScope (top 5), ["value", "many"], false⟩, f_is_tuple_of⟩
def f_first_wrong : Fn := ⟨["value", "is_right"], [], 4, (.cons (.for_ (.tp [(.v 2), (.v 3)]) (.bi .enumerate (.cons (.var 0) .nil)) (.cons (.ifs (.not (.callv 1 (.cons (.var 3) (.cons (.sl (.var 0) .no (.yes (.var 2))) .nil)) .nil)) (.cons (.ret (.var 2)) .nil) .nil) .nil)) (.cons (.ret .cnon) .nil))⟩
def i_first_wrong : FI := ⟨"first_wrong", ⟨defArgs (top 6), defBody (top 6), defScope (top 6), ["value", "is_right", "index", "each"], false⟩, f_first_wrong⟩
def f_common_divisor : Fn := ⟨["one", "two"], [], 2, (.cons (.while_ (.cmp .gt (.var 1) (.cint 0)) (.cons (.asg (.tp [(.v 0), (.v 1)]) (.tup (.cons (.var 1) (.cons (.bin .mod (.var 0) (.var 1)) .nil)))) .nil)) (.cons (.ret (.var 0)) .nil))⟩
def i_common_divisor : FI := ⟨"common_divisor", ⟨defArgs (top 7), defBody (top 7), defScope (top 7), ["one", "two"], false⟩, f_common_divisor⟩
def f_lowest : Fn := ⟨["number", "scale"], [], 3, (.cons (.ifs (.cmp .lt (.var 1) (.cint 0)) (.cons (.asg (.tp [(.v 0), (.v 1)]) (.tup (.cons (.neg (.var 0)) (.cons (.neg (.var 1)) .nil)))) .nil) .nil) (.cons (.asg (.v 2) (.call "common_divisor" (.cons (.bi .abs (.cons (.var 0) .nil)) (.cons (.var 1) .nil)) .nil)) (.cons (.ret (.tup (.cons (.bin .fdiv (.var 0) (.var 2)) (.cons (.bin .fdiv (.var 1) (.var 2)) .nil)))) .nil)))⟩
def i_lowest : FI := ⟨"lowest", ⟨defArgs (top 8), defBody (top 8), defScope (top 8), ["number", "scale", "by"], false⟩, f_lowest⟩
def f_whole : Fn := ⟨["number"], [], 1, (.cons (.ret (.tup (.cons (.var 0) (.cons (.cint 1) .nil)))) .nil)⟩
def i_whole : FI := ⟨"whole", ⟨defArgs (top 9), defBody (top 9), defScope (top 9), ["number"], false⟩, f_whole⟩
def f_is_fraction : Fn := ⟨["value"], [], 1, (.cons (.ifs (.or (.not (.call "is_tuple_of" (.cons (.var 0) (.cons (.cint 2) .nil)) .nil)) (.or (.not (.call "is_whole" (.cons (.sub (.var 0) (.cint 0)) .nil) .nil)) (.not (.call "is_number" (.cons (.sub (.var 0) (.cint 1)) (.cons (.cint 1) .nil)) .nil)))) (.cons (.ret (.cbl false)) .nil) .nil) (.cons (.ret (.cmp .eq (.call "common_divisor" (.cons (.bi .abs (.cons (.sub (.var 0) (.cint 0)) .nil)) (.cons (.sub (.var 0) (.cint 1)) .nil)) .nil) (.cint 1))) .nil))⟩
def i_is_fraction : FI := ⟨"is_fraction", ⟨defArgs (top 10), defBody (top 10), defScope (top 10), ["value"], false⟩, f_is_fraction⟩
def f_added : Fn := ⟨["one", "two"], [], 2, (.cons (.ret (.call "lowest" (.cons (.bin .add (.bin .mul (.sub (.var 0) (.cint 0)) (.sub (.var 1) (.cint 1))) (.bin .mul (.sub (.var 1) (.cint 0)) (.sub (.var 0) (.cint 1)))) (.cons (.bin .mul (.sub (.var 0) (.cint 1)) (.sub (.var 1) (.cint 1))) .nil)) .nil)) .nil)⟩
def i_added : FI := ⟨"added", ⟨defArgs (top 11), defBody (top 11), defScope (top 11), ["one", "two"], false⟩, f_added⟩
def f_multiplied : Fn := ⟨["one", "two"], [], 2, (.cons (.ret (.call "lowest" (.cons (.bin .mul (.sub (.var 0) (.cint 0)) (.sub (.var 1) (.cint 0))) (.cons (.bin .mul (.sub (.var 0) (.cint 1)) (.sub (.var 1) (.cint 1))) .nil)) .nil)) .nil)⟩
def i_multiplied : FI := ⟨"multiplied", ⟨defArgs (top 12), defBody (top 12), defScope (top 12), ["one", "two"], false⟩, f_multiplied⟩
def f_divided : Fn := ⟨["one", "two"], [], 2, (.cons (.ret (.call "lowest" (.cons (.bin .mul (.sub (.var 0) (.cint 0)) (.sub (.var 1) (.cint 1))) (.cons (.bin .mul (.sub (.var 0) (.cint 1)) (.sub (.var 1) (.cint 0))) .nil)) .nil)) .nil)⟩
def i_divided : FI := ⟨"divided", ⟨defArgs (top 13), defBody (top 13), defScope (top 13), ["one", "two"], false⟩, f_divided⟩
def f_rest_of : Fn := ⟨["one"], [], 1, (.cons (.ret (.tup (.cons (.bin .sub (.sub (.var 0) (.cint 1)) (.sub (.var 0) (.cint 0))) (.cons (.sub (.var 0) (.cint 1)) .nil)))) .nil)⟩
def i_rest_of : FI := ⟨"rest_of", ⟨defArgs (top 14), defBody (top 14), defScope (top 14), ["one"], false⟩, f_rest_of⟩
def f_sum_of : Fn := ⟨["fractions"], [], 3, (.cons (.asg (.v 1) (.glb "NONE")) (.cons (.for_ (.v 2) (.seq (.var 0)) (.cons (.asg (.v 1) (.call "added" (.cons (.var 1) (.cons (.var 2) .nil)) .nil)) .nil)) (.cons (.ret (.var 1)) .nil)))⟩
def i_sum_of : FI := ⟨"sum_of", ⟨defArgs (top 15), defBody (top 15), defScope (top 15), ["fractions", "found", "each"], false⟩, f_sum_of⟩
def f_product_of : Fn := ⟨["fractions"], [], 3, (.cons (.asg (.v 1) (.glb "ONE")) (.cons (.for_ (.v 2) (.seq (.var 0)) (.cons (.asg (.v 1) (.call "multiplied" (.cons (.var 1) (.cons (.var 2) .nil)) .nil)) .nil)) (.cons (.ret (.var 1)) .nil)))⟩
def i_product_of : FI := ⟨"product_of", ⟨defArgs (top 16), defBody (top 16), defScope (top 16), ["fractions", "found", "each"], false⟩, f_product_of⟩
def f_is_chance_form : Fn := ⟨["value"], [], 1, (.cons (.ret (.and (.call "is_fraction" (.cons (.var 0) .nil) .nil) (.cmp2 .le .lt (.cint 0) (.sub (.var 0) (.cint 0)) (.sub (.var 0) (.cint 1))))) .nil)⟩
def i_is_chance_form : FI := ⟨"is_chance_form", ⟨defArgs (top 19), defBody (top 19), defScope (top 19), ["value"], false⟩, f_is_chance_form⟩
def f_odds_in : Fn := ⟨["chance"], [], 1, (.cons (.ret (.call "divided" (.cons (.var 0) (.cons (.call "rest_of" (.cons (.var 0) .nil) .nil) .nil)) .nil)) .nil)⟩
def i_odds_in : FI := ⟨"odds_in", ⟨defArgs (top 20), defBody (top 20), defScope (top 20), ["chance"], false⟩, f_odds_in⟩
def f_odds_row : Fn := ⟨["row"], [], 2, (.cons (.ret (.lc (.call "odds_in" (.cons (.var 1) .nil) .nil) (.v 1) (.seq (.var 0)) .no [1])) .nil)⟩
def i_odds_row : FI := ⟨"odds_row", ⟨defArgs (top 21), defBody (top 21), defScope (top 21), ["row", "chance"], false⟩, f_odds_row⟩
def f_products_of : Fn := ⟨["numbers", "many"], [], 5, (.cons (.asg (.v 2) (.bin .add (.lst (.cons (.glb "ONE") .nil)) (.bin .mul (.lst (.cons (.glb "NONE") .nil)) (.var 1)))) (.cons (.for_ (.v 3) (.seq (.var 0)) (.cons (.asg (.v 2) (.bin .add (.lst (.cons (.glb "ONE") .nil)) (.lc (.call "added" (.cons (.sub (.var 2) (.var 4)) (.cons (.call "multiplied" (.cons (.var 3) (.cons (.sub (.var 2) (.bin .sub (.var 4) (.cint 1))) .nil)) .nil) .nil)) .nil) (.v 4) (.bi .range (.cons (.cint 1) (.cons (.bin .add (.var 1) (.cint 1)) .nil))) .no [4]))) .nil)) (.cons (.ret (.var 2)) .nil)))⟩
def i_products_of : FI := ⟨"products_of", ⟨defArgs (top 22), defBody (top 22), defScope (top 22), ["numbers", "many", "found", "each", "k"], false⟩, f_products_of⟩
def f_counts_in : Fn := ⟨["row"], [], 8, (.cons (.asg (.v 1) (.lst (.cons (.glb "ONE") .nil))) (.cons (.for_ (.v 2) (.seq (.var 0)) (.cons (.asg (.v 3) (.bin .add (.lst (.cons (.glb "NONE") .nil)) (.lc (.call "multiplied" (.cons (.var 7) (.cons (.var 2) .nil)) .nil) (.v 7) (.seq (.var 1)) .no [7]))) (.cons (.asg (.v 4) (.bin .add (.lc (.call "multiplied" (.cons (.var 7) (.cons (.call "rest_of" (.cons (.var 2) .nil) .nil) .nil)) .nil) (.v 7) (.seq (.var 1)) .no [7]) (.lst (.cons (.glb "NONE") .nil)))) (.cons (.asg (.v 1) (.lc (.call "added" (.cons (.var 5) (.cons (.var 6) .nil)) .nil) (.tp [(.v 5), (.v 6)]) (.bi .zip (.cons (.var 3) (.cons (.var 4) .nil))) .no [5, 6])) .nil)))) (.cons (.ret (.var 1)) .nil)))⟩
def i_counts_in : FI := ⟨"counts_in", ⟨defArgs (top 23), defBody (top 23), defScope (top 23), ["row", "found", "chance", "come", "stay", "one", "two", "each"], false⟩, f_counts_in⟩
def f_is_moment_behind : Fn := ⟨["value", "ahead", "many"], [], 3, (.cons (.ret (.and (.call "is_number" (.cons (.var 0) (.cons (.cint 0) (.cons (.bin .sub (.var 2) (.cint 1)) .nil))) .nil) (.or (.cmp .eq (.bi .len (.cons (.var 1) .nil)) (.cint 0)) (.cmp .gt (.var 0) (.sub (.var 1) (.neg (.cint 1))))))) .nil)⟩
def i_is_moment_behind : FI := ⟨"is_moment_behind", ⟨defArgs (top 24), defBody (top 24), defScope (top 24), ["value", "ahead", "many"], false⟩, f_is_moment_behind⟩
def f_row_fault : Fn := ⟨["value", "most"], [(.int 12)], 5, (.cons (.ifs (.not (.isi (.var 0) ["tuple"])) (.cons (.ret (.tup (.cons .cnon .nil))) .nil) .nil) (.cons (.asg (.v 2) (.calll "first_wrong" (.cons (.sl (.var 0) .no (.yes (.bin .add (.var 1) (.cint 1)))) .nil) 0)) (.cons (.ret (.ifx (.cmp .is (.var 2) .cnon) (.tup .nil) (.tup (.cons (.var 2) .nil)))) .nil)))⟩
def i_row_fault : FI := ⟨"row_fault", ⟨defArgs (top 34), defBody (top 34), defScope (top 34), ["value", "most", "wrong", "each", "ahead"], true⟩, f_row_fault⟩
def f_check_row : Fn := ⟨["value"], [], 2, (.cons (.asg (.v 1) (.call "row_fault" (.cons (.var 0) .nil) .nil)) (.cons (.ifs (.cmp .gt (.bi .len (.cons (.var 1) .nil)) (.cint 0)) (.cons (.raise "InvalidRow" (.cons (.sub (.var 1) (.cint 0)) .nil)) .nil) .nil) .nil))⟩
def i_check_row : FI := ⟨"check_row", ⟨defArgs (top 35), defBody (top 35), defScope (top 35), ["value", "fault"], false⟩, f_check_row⟩
def f_check_number : Fn := ⟨["value", "low", "high"], [.non], 3, (.cons (.ifs (.not (.call "is_number" (.cons (.var 0) (.cons (.var 1) (.cons (.var 2) .nil))) .nil)) (.cons (.raise "InvalidNumber" (.cons (.var 0) .nil)) .nil) .nil) .nil)⟩
def i_check_number : FI := ⟨"check_number", ⟨defArgs (top 36), defBody (top 36), defScope (top 36), ["value", "low", "high"], false⟩, f_check_number⟩
def f_check_many : Fn := ⟨["value", "low"], [(.int 0)], 2, (.cons (.expr (.call "check_number" (.cons (.var 0) (.cons (.var 1) (.cons (.glb "MOST_MANY") .nil))) .nil)) .nil)⟩
def i_check_many : FI := ⟨"check_many", ⟨defArgs (top 37), defBody (top 37), defScope (top 37), ["value", "low"], false⟩, f_check_many⟩
def f_check_moment : Fn := ⟨["value"], [], 1, (.cons (.expr (.call "check_number" (.cons (.var 0) (.cons (.cint 0) .nil)) .nil)) .nil)⟩
def i_check_moment : FI := ⟨"check_moment", ⟨defArgs (top 38), defBody (top 38), defScope (top 38), ["value"], false⟩, f_check_moment⟩
def f_check_within : Fn := ⟨["value", "most"], [], 2, (.cons (.ifs (.cmp .gt (.var 0) (.var 1)) (.cons (.raise "OutOfRange" (.cons (.var 0) .nil)) .nil) .nil) .nil)⟩
def i_check_within : FI := ⟨"check_within", ⟨defArgs (top 39), defBody (top 39), defScope (top 39), ["value", "most"], false⟩, f_check_within⟩
def f_check_moment_there : Fn := ⟨["row", "value"], [], 2, (.cons (.expr (.call "check_within" (.cons (.var 1) (.cons (.bin .sub (.bi .len (.cons (.var 0) .nil)) (.cint 1)) .nil)) .nil)) .nil)⟩
def i_check_moment_there : FI := ⟨"check_moment_there", ⟨defArgs (top 40), defBody (top 40), defScope (top 40), ["row", "value"], false⟩, f_check_moment_there⟩
def f_check_course : Fn := ⟨["row", "value", "last"], [.non], 7, (.cons (.ifs (.not (.isi (.var 1) ["tuple"])) (.cons (.raise "InvalidCourse" (.cons .cnon .nil)) .nil) .nil) (.cons (.asg (.v 3) (.ifx (.cmp .is (.var 2) .cnon) (.bi .len (.cons (.var 0) .nil)) (.bi .min (.cons (.bi .len (.cons (.var 0) .nil)) (.cons (.bin .add (.var 2) (.cint 1)) .nil))))) (.cons (.asg (.v 4) (.calll "first_wrong" (.cons (.var 1) .nil) 1)) (.cons (.ifs (.cmp .isnot (.var 4) .cnon) (.cons (.raise "InvalidCourse" (.cons (.var 4) .nil)) .nil) .nil) .nil))))⟩
def i_check_course : FI := ⟨"check_course", ⟨defArgs (top 41), defBody (top 41), defScope (top 41), ["row", "value", "last", "many", "wrong", "each", "ahead"], true⟩, f_check_course⟩
def f_check_some : Fn := ⟨["value"], [], 1, (.cons (.expr (.call "check_many" (.cons (.var 0) (.cons (.cint 1) .nil)) .nil)) .nil)⟩
def i_check_some : FI := ⟨"check_some", ⟨defArgs (top 44), defBody (top 44), defScope (top 44), ["value"], false⟩, f_check_some⟩
def f_check_can_come : Fn := ⟨["row", "many"], [], 2, (.cons (.ifs (.cmp .eq (.call "all_products" (.cons (.var 0) (.cons (.var 1) .nil)) .nil) (.glb "NONE")) (.cons (.raise "Never" .nil) .nil) .nil) .nil)⟩
def i_check_can_come : FI := ⟨"check_can_come", ⟨defArgs (top 45), defBody (top 45), defScope (top 45), ["row", "many"], false⟩, f_check_can_come⟩
def f_all_products : Fn := ⟨["row", "many"], [], 2, (.cons (.ret (.sub (.call "products_of" (.cons (.call "odds_row" (.cons (.var 0) .nil) .nil) (.cons (.var 1) .nil)) .nil) (.var 1))) .nil)⟩
def i_all_products : FI := ⟨"all_products", ⟨defArgs (top 46), defBody (top 46), defScope (top 46), ["row", "many"], false⟩, f_all_products⟩
def f_share_in : Fn := ⟨["row", "many", "moment"], [], 5, (.cons (.asg (.v 3) (.bin .add (.sl (.var 0) .no (.yes (.var 2))) (.sl (.var 0) (.yes (.bin .add (.var 2) (.cint 1))) .no))) (.cons (.asg (.v 4) (.call "multiplied" (.cons (.call "odds_in" (.cons (.sub (.var 0) (.var 2)) .nil) .nil) (.cons (.call "all_products" (.cons (.var 3) (.cons (.bin .sub (.var 1) (.cint 1)) .nil)) .nil) .nil)) .nil)) (.cons (.ret (.call "divided" (.cons (.var 4) (.cons (.call "all_products" (.cons (.var 0) (.cons (.var 1) .nil)) .nil) .nil)) .nil)) .nil)))⟩
def i_share_in : FI := ⟨"share_in", ⟨defArgs (top 47), defBody (top 47), defScope (top 47), ["row", "many", "moment", "others", "own"], false⟩, f_share_in⟩
def f_timed_in : Fn := ⟨["chance", "number"], [], 3, (.cons (.asg (.v 2) (.call "multiplied" (.cons (.call "odds_in" (.cons (.var 0) .nil) .nil) (.cons (.call "whole" (.cons (.var 1) .nil) .nil) .nil)) .nil)) (.cons (.ret (.call "divided" (.cons (.var 2) (.cons (.call "added" (.cons (.var 2) (.cons (.glb "ONE") .nil)) .nil) .nil)) .nil)) .nil))⟩
def i_timed_in : FI := ⟨"timed_in", ⟨defArgs (top 48), defBody (top 48), defScope (top 48), ["chance", "number", "odds"], false⟩, f_timed_in⟩
def f_given_share : Fn := ⟨["row", "many", "moment"], [], 3, (.cons (.expr (.call "check_row" (.cons (.var 0) .nil) .nil)) (.cons (.expr (.call "check_some" (.cons (.var 1) .nil) .nil)) (.cons (.expr (.call "check_moment" (.cons (.var 2) .nil) .nil)) (.cons (.expr (.call "check_moment_there" (.cons (.var 0) (.cons (.var 2) .nil)) .nil)) (.cons (.expr (.call "check_can_come" (.cons (.var 0) (.cons (.var 1) .nil)) .nil)) (.cons (.ret (.call "share_in" (.cons (.var 0) (.cons (.var 1) (.cons (.var 2) .nil))) .nil)) .nil))))))⟩
def i_given_share : FI := ⟨"given_share", ⟨defArgs (top 49), defBody (top 49), defScope (top 49), ["row", "many", "moment"], false⟩, f_given_share⟩
def f_given_shares : Fn := ⟨["row", "many"], [], 3, (.cons (.expr (.call "check_row" (.cons (.var 0) .nil) .nil)) (.cons (.expr (.call "check_some" (.cons (.var 1) .nil) .nil)) (.cons (.expr (.call "check_can_come" (.cons (.var 0) (.cons (.var 1) .nil)) .nil)) (.cons (.ret (.bi .tuple (.cons (.lc (.call "share_in" (.cons (.var 0) (.cons (.var 1) (.cons (.var 2) .nil))) .nil) (.v 2) (.bi .range (.cons (.bi .len (.cons (.var 0) .nil)) .nil)) .no [2]) .nil))) .nil))))⟩
def i_given_shares : FI := ⟨"given_shares", ⟨defArgs (top 50), defBody (top 50), defScope (top 50), ["row", "many", "moment"], false⟩, f_given_shares⟩
def f_given_course : Fn := ⟨["row", "course"], [], 3, (.cons (.expr (.call "check_row" (.cons (.var 0) .nil) .nil)) (.cons (.expr (.call "check_course" (.cons (.var 0) (.cons (.var 1) .nil)) .nil)) (.cons (.expr (.call "check_can_come" (.cons (.var 0) (.cons (.bi .len (.cons (.var 1) .nil)) .nil)) .nil)) (.cons (.ret (.call "divided" (.cons (.call "product_of" (.cons (.lc (.call "odds_in" (.cons (.sub (.var 0) (.var 2)) .nil) .nil) (.v 2) (.seq (.var 1)) .no [2]) .nil) .nil) (.cons (.call "all_products" (.cons (.var 0) (.cons (.bi .len (.cons (.var 1) .nil)) .nil)) .nil) .nil)) .nil)) .nil))))⟩
def i_given_course : FI := ⟨"given_course", ⟨defArgs (top 51), defBody (top 51), defScope (top 51), ["row", "course", "moment"], false⟩, f_given_course⟩
def f_timed : Fn := ⟨["row", "number"], [], 3, (.cons (.expr (.call "check_row" (.cons (.var 0) .nil) .nil)) (.cons (.expr (.call "check_number" (.cons (.var 1) (.cons (.cint 1) (.cons (.glb "MOST_TIMES") .nil))) .nil)) (.cons (.ret (.bi .tuple (.cons (.lc (.call "timed_in" (.cons (.var 2) (.cons (.var 1) .nil)) .nil) (.v 2) (.seq (.var 0)) .no [2]) .nil))) .nil)))⟩
def i_timed : FI := ⟨"timed", ⟨defArgs (top 52), defBody (top 52), defScope (top 52), ["row", "number", "chance"], false⟩, f_timed⟩
def f_check_after : Fn := ⟨["row", "many", "moment"], [], 3, (.cons (.expr (.call "check_row" (.cons (.var 0) .nil) .nil)) (.cons (.expr (.call "check_many" (.cons (.var 1) (.cons (.cint 1) .nil)) .nil)) (.cons (.expr (.call "check_moment" (.cons (.var 2) .nil) .nil)) (.cons (.expr (.call "check_moment_there" (.cons (.var 0) (.cons (.var 2) .nil)) .nil)) .nil))))⟩
def i_check_after : FI := ⟨"check_after", ⟨defArgs (top 54), defBody (top 54), defScope (top 54), ["row", "many", "moment"], false⟩, f_check_after⟩
def f_just_in : Fn := ⟨["row", "many"], [], 2, (.cons (.ret (.ifx (.cmp .le (.var 1) (.bi .len (.cons (.var 0) .nil))) (.sub (.call "counts_in" (.cons (.var 0) .nil) .nil) (.var 1)) (.glb "NONE"))) .nil)⟩
def i_just_in : FI := ⟨"just_in", ⟨defArgs (top 55), defBody (top 55), defScope (top 55), ["row", "many"], false⟩, f_just_in⟩
def f_after_in : Fn := ⟨["row", "many", "moment"], [], 3, (.cons (.ret (.call "multiplied" (.cons (.call "just_in" (.cons (.sl (.var 0) .no (.yes (.var 2))) (.cons (.bin .sub (.var 1) (.cint 1)) .nil)) .nil) (.cons (.sub (.var 0) (.var 2)) .nil)) .nil)) .nil)⟩
def i_after_in : FI := ⟨"after_in", ⟨defArgs (top 56), defBody (top 56), defScope (top 56), ["row", "many", "moment"], false⟩, f_after_in⟩
def f_afters_in : Fn := ⟨["row", "many"], [], 3, (.cons (.ret (.lc (.call "after_in" (.cons (.var 0) (.cons (.var 1) (.cons (.var 2) .nil))) .nil) (.v 2) (.bi .range (.cons (.bi .len (.cons (.var 0) .nil)) .nil)) .no [2])) .nil)⟩
def i_afters_in : FI := ⟨"afters_in", ⟨defArgs (top 57), defBody (top 57), defScope (top 57), ["row", "many", "moment"], false⟩, f_afters_in⟩
def f_after_chance : Fn := ⟨["row", "many", "moment"], [], 3, (.cons (.expr (.call "check_after" (.cons (.var 0) (.cons (.var 1) (.cons (.var 2) .nil))) .nil)) (.cons (.ret (.call "after_in" (.cons (.var 0) (.cons (.var 1) (.cons (.var 2) .nil))) .nil)) .nil))⟩
def i_after_chance : FI := ⟨"after_chance", ⟨defArgs (top 58), defBody (top 58), defScope (top 58), ["row", "many", "moment"], false⟩, f_after_chance⟩
def f_after_mean : Fn := ⟨["row", "many"], [], 6, (.cons (.expr (.call "check_row" (.cons (.var 0) .nil) .nil)) (.cons (.expr (.call "check_many" (.cons (.var 1) (.cons (.cint 1) .nil)) .nil)) (.cons (.asg (.v 2) (.call "afters_in" (.cons (.var 0) (.cons (.var 1) .nil)) .nil)) (.cons (.ifs (.cmp .eq (.call "sum_of" (.cons (.var 2) .nil) .nil) (.glb "NONE")) (.cons (.raise "Never" .nil) .nil) .nil) (.cons (.asg (.v 3) (.lc (.call "multiplied" (.cons (.call "whole" (.cons (.var 4) .nil) .nil) (.cons (.var 5) .nil)) .nil) (.tp [(.v 4), (.v 5)]) (.bi .enumerate (.cons (.var 2) .nil)) .no [4, 5])) (.cons (.ret (.call "divided" (.cons (.call "sum_of" (.cons (.var 3) .nil) .nil) (.cons (.call "sum_of" (.cons (.var 2) .nil) .nil) .nil)) .nil)) .nil))))))⟩
def i_after_mean : FI := ⟨"after_mean", ⟨defArgs (top 59), defBody (top 59), defScope (top 59), ["row", "many", "chances", "means", "moment", "chance"], false⟩, f_after_mean⟩
def f_before_chance : Fn := ⟨["row", "many", "moment"], [], 3, (.cons (.expr (.call "check_after" (.cons (.var 0) (.cons (.var 1) (.cons (.var 2) .nil))) .nil)) (.cons (.ret (.call "multiplied" (.cons (.call "just_in" (.cons (.sl (.var 0) (.yes (.bin .add (.var 2) (.cint 1))) .no) (.cons (.bin .sub (.var 1) (.cint 1)) .nil)) .nil) (.cons (.sub (.var 0) (.var 2)) .nil)) .nil)) .nil))⟩
def i_before_chance : FI := ⟨"before_chance", ⟨defArgs (top 60), defBody (top 60), defScope (top 60), ["row", "many", "moment"], false⟩, f_before_chance⟩
def f__law_well : Fn := ⟨["script", "lap"], [], 5, (.cons (.asg (.v 2) (.bin .add (.cint 130577) (.bin .mul (.cint 7013) (.var 1)))) (.cons (.for_ (.v 3) (.seq (.sl (.var 0) .no (.yes (.cint 12)))) (.cons (.asg (.v 2) (.bin .mod (.bi .int (.cons (.bin .add (.bin .add (.bin .mul (.var 2) (.cint 45281)) (.bin .mod (.bi .int (.cons (.var 3) .nil)) (.cint 2147483549))) (.cint 19)) .nil)) (.cint 2147483563))) .nil)) (.cons (.asg (.v 4) (.ifx (.cmp .lt (.var 1) (.bi .len (.cons (.var 0) .nil))) (.bi .int (.cons (.sub (.var 0) (.var 1)) .nil)) (.cint 0))) (.cons (.asg (.v 2) (.bin .mod (.bi .int (.cons (.bin .add (.bin .add (.bin .mul (.var 2) (.cint 41)) (.bin .mul (.bin .mod (.bi .int (.cons (.var 4) .nil)) (.cint 2147483549)) (.cint 15031))) (.cint 5)) .nil)) (.cint 2147483563))) (.cons (.ret (.lst (.cons (.ifx (.or (.cmp .lt (.var 4) (.cint 0)) (.cmp .ge (.var 4) (.bin .pow (.cint 10) (.cint 15)))) (.bi .abs (.cons (.var 4) .nil)) (.cint 0)) (.cons (.var 2) (.cons (.cint 0) .nil))))) .nil)))))⟩
def i__law_well : FI := ⟨"_law_well", ⟨defArgs (top 62), defBody (top 62), defScope (top 62), ["script", "lap", "stirred", "cell", "own"], false⟩, f__law_well⟩
def f__law_draw : Fn := ⟨["well", "limit"], [], 4, (.cons (.ifs (.cmp .gt (.sub (.var 0) (.cint 0)) (.cint 0)) (.cons (.asg (.tp [(.ix (.var 0) (.cint 0)), (.v 2)]) (.bi .divmod (.cons (.sub (.var 0) (.cint 0)) (.cons (.var 1) .nil)))) (.cons (.ret (.var 2)) .nil)) .nil) (.cons (.asg (.ix (.var 0) (.cint 2)) (.bin .add (.sub (.var 0) (.cint 2)) (.cint 1))) (.cons (.asg (.v 3) (.bin .mod (.bi .int (.cons (.bin .add (.bin .add (.bin .mul (.sub (.var 0) (.cint 1)) (.cint 40037)) (.bin .mul (.cint 13001) (.sub (.var 0) (.cint 2)))) (.cint 7)) .nil)) (.cint 2147483563))) (.cons (.asg (.ix (.var 0) (.cint 1)) (.bin .mod (.bi .int (.cons (.bin .add (.bin .mul (.var 3) (.bin .add (.bin .mod (.bi .int (.cons (.var 3) .nil)) (.cint 5009)) (.cint 20023))) (.sub (.var 0) (.cint 2))) .nil)) (.cint 2147483563))) (.cons (.ret (.bin .mod (.bi .int (.cons (.bin .fdiv (.sub (.var 0) (.cint 1)) (.cint 1013)) .nil)) (.var 1))) .nil)))))⟩
def i__law_draw : FI := ⟨"_law_draw", ⟨defArgs (top 63), defBody (top 63), defScope (top 63), ["well", "limit", "digit", "stir"], false⟩, f__law_draw⟩
def f__law_of : Fn := ⟨["well", "some"], [], 2, (.cons (.ret (.sub (.var 1) (.call "_law_draw" (.cons (.var 0) (.cons (.bi .len (.cons (.var 1) .nil)) .nil)) .nil))) .nil)⟩
def i__law_of : FI := ⟨"_law_of", ⟨defArgs (top 64), defBody (top 64), defScope (top 64), ["well", "some"], false⟩, f__law_of⟩
def f__law_same : Fn := ⟨["one", "two"], [], 3, (.cons (.ifs (.and (.isi (.var 0) ["tuple"]) (.isi (.var 1) ["tuple"])) (.cons (.ret (.and (.cmp .eq (.bi .len (.cons (.var 0) .nil)) (.bi .len (.cons (.var 1) .nil))) (.bi .all (.cons (.lc (.call "_law_same" (.cons (.sub (.var 0) (.var 2)) (.cons (.sub (.var 1) (.var 2)) .nil)) .nil) (.v 2) (.bi .range (.cons (.bi .len (.cons (.var 0) .nil)) .nil)) .no [2]) .nil)))) .nil) .nil) (.cons (.ifs (.or (.cmp .ne (.isi (.var 0) ["bool"]) (.isi (.var 1) ["bool"])) (.cmp .ne (.isi (.var 0) ["int"]) (.isi (.var 1) ["int"]))) (.cons (.ret (.cbl false)) .nil) .nil) (.cons (.ret (.and (.cmp .eq (.isi (.var 0) ["tuple"]) (.isi (.var 1) ["tuple"])) (.cmp .eq (.var 0) (.var 1)))) .nil)))⟩
def i__law_same : FI := ⟨"_law_same", ⟨defArgs (top 65), defBody (top 65), defScope (top 65), ["one", "two", "k"], false⟩, f__law_same⟩
def f__law_lowest : Fn := ⟨["number", "scale"], [], 4, (.cons (.asg (.tp [(.v 2), (.v 3)]) (.tup (.cons (.bi .abs (.cons (.var 0) .nil)) (.cons (.var 1) .nil)))) (.cons (.while_ (.cmp .gt (.var 3) (.cint 0)) (.cons (.asg (.tp [(.v 2), (.v 3)]) (.tup (.cons (.var 3) (.cons (.bi .int (.cons (.bin .mod (.var 2) (.var 3)) .nil)) .nil)))) .nil)) (.cons (.ret (.ifx (.cmp .gt (.var 2) (.cint 0)) (.tup (.cons (.bin .fdiv (.var 0) (.var 2)) (.cons (.bin .fdiv (.var 1) (.var 2)) .nil))) (.tup (.cons (.cint 0) (.cons (.cint 1) .nil))))) .nil)))⟩
def i__law_lowest : FI := ⟨"_law_lowest", ⟨defArgs (top 66), defBody (top 66), defScope (top 66), ["number", "scale", "one", "two"], false⟩, f__law_lowest⟩
def f__law_plus : Fn := ⟨["one", "two"], [], 2, (.cons (.ret (.call "_law_lowest" (.cons (.bin .add (.bin .mul (.sub (.var 0) (.cint 0)) (.sub (.var 1) (.cint 1))) (.bin .mul (.sub (.var 1) (.cint 0)) (.sub (.var 0) (.cint 1)))) (.cons (.bin .mul (.sub (.var 0) (.cint 1)) (.sub (.var 1) (.cint 1))) .nil)) .nil)) .nil)⟩
def i__law_plus : FI := ⟨"_law_plus", ⟨defArgs (top 67), defBody (top 67), defScope (top 67), ["one", "two"], false⟩, f__law_plus⟩
def f__law_times : Fn := ⟨["one", "two"], [], 2, (.cons (.ret (.call "_law_lowest" (.cons (.bin .mul (.sub (.var 0) (.cint 0)) (.sub (.var 1) (.cint 0))) (.cons (.bin .mul (.sub (.var 0) (.cint 1)) (.sub (.var 1) (.cint 1))) .nil)) .nil)) .nil)⟩
def i__law_times : FI := ⟨"_law_times", ⟨defArgs (top 68), defBody (top 68), defScope (top 68), ["one", "two"], false⟩, f__law_times⟩
def f__law_over : Fn := ⟨["one", "two"], [], 2, (.cons (.ret (.call "_law_lowest" (.cons (.bin .mul (.sub (.var 0) (.cint 0)) (.sub (.var 1) (.cint 1))) (.cons (.bin .mul (.sub (.var 0) (.cint 1)) (.sub (.var 1) (.cint 0))) .nil)) .nil)) .nil)⟩
def i__law_over : FI := ⟨"_law_over", ⟨defArgs (top 69), defBody (top 69), defScope (top 69), ["one", "two"], false⟩, f__law_over⟩
def f__law_rest : Fn := ⟨["one"], [], 1, (.cons (.ret (.call "_law_lowest" (.cons (.bin .sub (.sub (.var 0) (.cint 1)) (.sub (.var 0) (.cint 0))) (.cons (.sub (.var 0) (.cint 1)) .nil)) .nil)) .nil)⟩
def i__law_rest : FI := ⟨"_law_rest", ⟨defArgs (top 70), defBody (top 70), defScope (top 70), ["one"], false⟩, f__law_rest⟩
def f__law_chance : Fn := ⟨["well"], [], 2, (.cons (.asg (.v 1) (.tup (.cons (.tup (.cons (.cint 0) (.cons (.cint 1) .nil))) (.cons (.tup (.cons (.cint 1) (.cons (.cint 2) .nil))) (.cons (.tup (.cons (.cint 1) (.cons (.cint 2) .nil))) (.cons (.tup (.cons (.cint 1) (.cons (.cint 3) .nil))) (.cons (.tup (.cons (.cint 2) (.cons (.cint 3) .nil))) (.cons (.tup (.cons (.cint 1) (.cons (.cint 4) .nil))) (.cons (.tup (.cons (.cint 3) (.cons (.cint 4) .nil))) (.cons (.tup (.cons (.cint 1) (.cons (.cint 5) .nil))) (.cons (.tup (.cons (.cint 2) (.cons (.cint 5) .nil))) (.cons (.tup (.cons (.cint 1) (.cons (.cint 6) .nil))) (.cons (.tup (.cons (.cint 1) (.cons (.cint 10) .nil))) (.cons (.tup (.cons (.cint 9) (.cons (.cint 10) .nil))) .nil)))))))))))))) (.cons (.ret (.call "_law_of" (.cons (.var 0) (.cons (.var 1) .nil)) .nil)) .nil))⟩
def i__law_chance : FI := ⟨"_law_chance", ⟨defArgs (top 71), defBody (top 71), defScope (top 71), ["well", "some"], false⟩, f__law_chance⟩
def f__law_row : Fn := ⟨["well", "least", "top"], [], 4, (.cons (.ret (.bi .tuple (.cons (.lc (.call "_law_chance" (.cons (.var 0) .nil) .nil) (.v 3) (.bi .range (.cons (.bin .add (.var 1) (.call "_law_draw" (.cons (.var 0) (.cons (.bin .add (.bin .sub (.var 2) (.var 1)) (.cint 1)) .nil)) .nil)) .nil)) .no [3]) .nil))) .nil)⟩
def i__law_row : FI := ⟨"_law_row", ⟨defArgs (top 72), defBody (top 72), defScope (top 72), ["well", "least", "top", "lap"], false⟩, f__law_row⟩
def f__law_courses : Fn := ⟨["row"], [], 6, (.cons (.asg (.v 1) (.lst (.cons (.tup (.cons (.tup .nil) (.cons (.tup (.cons (.cint 1) (.cons (.cint 1) .nil))) .nil))) .nil))) (.cons (.for_ (.v 2) (.bi .range (.cons (.bi .len (.cons (.var 0) .nil)) .nil)) (.cons (.asg (.v 3) (.lst .nil)) (.cons (.for_ (.tp [(.v 4), (.v 5)]) (.seq (.var 1)) (.cons (.expr (.meth .append (.var 3) (.cons (.tup (.cons (.var 4) (.cons (.call "_law_times" (.cons (.var 5) (.cons (.call "_law_rest" (.cons (.sub (.var 0) (.var 2)) .nil) .nil) .nil)) .nil) .nil))) .nil))) (.cons (.expr (.meth .append (.var 3) (.cons (.tup (.cons (.bin .add (.var 4) (.tup (.cons (.var 2) .nil))) (.cons (.call "_law_times" (.cons (.var 5) (.cons (.sub (.var 0) (.var 2)) .nil)) .nil) .nil))) .nil))) .nil))) (.cons (.asg (.v 1) (.var 3)) .nil)))) (.cons (.ret (.var 1)) .nil)))⟩
def i__law_courses : FI := ⟨"_law_courses", ⟨defArgs (top 73), defBody (top 73), defScope (top 73), ["row", "found", "k", "more", "course", "chance"], false⟩, f__law_courses⟩
def f__law_sum : Fn := ⟨["rows"], [], 3, (.cons (.asg (.v 1) (.tup (.cons (.cint 0) (.cons (.cint 1) .nil)))) (.cons (.for_ (.v 2) (.seq (.var 0)) (.cons (.asg (.v 1) (.call "_law_plus" (.cons (.var 1) (.cons (.var 2) .nil)) .nil)) .nil)) (.cons (.ret (.var 1)) .nil)))⟩
def i__law_sum : FI := ⟨"_law_sum", ⟨defArgs (top 74), defBody (top 74), defScope (top 74), ["rows", "found", "each"], false⟩, f__law_sum⟩
def f__law_counts : Fn := ⟨["row"], [], 5, (.cons (.asg (.v 1) (.lst (.cons (.tup (.cons (.cint 1) (.cons (.cint 1) .nil))) .nil))) (.cons (.for_ (.v 2) (.seq (.var 0)) (.cons (.asg (.v 3) (.bin .mul (.lst (.cons (.tup (.cons (.cint 0) (.cons (.cint 1) .nil))) .nil)) (.bin .add (.bi .len (.cons (.var 1) .nil)) (.cint 1)))) (.cons (.for_ (.v 4) (.bi .range (.cons (.bi .len (.cons (.var 1) .nil)) .nil)) (.cons (.asg (.ix (.var 3) (.var 4)) (.call "_law_plus" (.cons (.sub (.var 3) (.var 4)) (.cons (.call "_law_times" (.cons (.sub (.var 1) (.var 4)) (.cons (.call "_law_rest" (.cons (.var 2) .nil) .nil) .nil)) .nil) .nil)) .nil)) (.cons (.asg (.ix (.var 3) (.bin .add (.var 4) (.cint 1))) (.call "_law_plus" (.cons (.sub (.var 3) (.bin .add (.var 4) (.cint 1))) (.cons (.call "_law_times" (.cons (.sub (.var 1) (.var 4)) (.cons (.var 2) .nil)) .nil) .nil)) .nil)) .nil))) (.cons (.asg (.v 1) (.var 3)) .nil)))) (.cons (.ret (.bi .tuple (.cons (.var 1) .nil))) .nil)))⟩
def i__law_counts : FI := ⟨"_law_counts", ⟨defArgs (top 75), defBody (top 75), defScope (top 75), ["row", "found", "chance", "more", "k"], false⟩, f__law_counts⟩
def f__law_never : Fn := ⟨["act"], [], 2, (.cons (.tr (.cons (.expr (.callv 0 .nil .nil)) .nil) "SignError" (some 1) (.cons (.ret (.and (.isx 1 "Never") (.isx 1 "ValueError"))) .nil)) (.cons (.ret (.cbl false)) .nil))⟩
def i__law_never : FI := ⟨"_law_never", ⟨defArgs (top 76), defBody (top 76), defScope (top 76), ["act", "e"], false⟩, f__law_never⟩
def f__law_given : Fn := ⟨["row", "many"], [], 8, (.cons (.asg (.v 2) (.lc (.tup (.cons (.var 6) (.cons (.var 7) .nil))) (.tp [(.v 6), (.v 7)]) (.seq (.call "_law_courses" (.cons (.var 0) .nil) .nil)) (.yes (.cmp .eq (.bi .len (.cons (.var 6) .nil)) (.var 1))) [6, 7])) (.cons (.asg (.v 3) (.call "_law_sum" (.cons (.lc (.var 7) (.tp [(.v 6), (.v 7)]) (.seq (.var 2)) .no [6, 7]) .nil) .nil)) (.cons (.ifs (.cmp .eq (.var 3) (.tup (.cons (.cint 0) (.cons (.cint 1) .nil)))) (.cons (.ret .cnon) .nil) .nil) (.cons (.asg (.v 4) (.lst .nil)) (.cons (.for_ (.v 5) (.bi .range (.cons (.bi .len (.cons (.var 0) .nil)) .nil)) (.cons (.expr (.meth .append (.var 4) (.cons (.call "_law_over" (.cons (.call "_law_sum" (.cons (.lc (.var 7) (.tp [(.v 6), (.v 7)]) (.seq (.var 2)) (.yes (.cmp .in_ (.var 5) (.var 6))) [6, 7]) .nil) .nil) (.cons (.var 3) .nil)) .nil) .nil))) .nil)) (.cons (.ret (.bi .tuple (.cons (.var 4) .nil))) .nil))))))⟩
def i__law_given : FI := ⟨"_law_given", ⟨defArgs (top 77), defBody (top 77), defScope (top 77), ["row", "many", "some", "whole_v", "found", "k", "course", "chance"], false⟩, f__law_given⟩
def f__law_given_right : Fn := ⟨["well", "row", "many"], [], 15, (.cons (.asg (.tp [(.v 3), (.v 4)]) (.tup (.cons (.call "_law_given" (.cons (.var 1) (.cons (.var 2) .nil)) .nil) (.cons (.bin .add (.cint 1) (.call "_law_draw" (.cons (.var 0) (.cons (.cint 9) .nil)) .nil)) .nil)))) (.cons (.asg (.v 5) (.bi .tuple (.cons (.lc (.call "_law_lowest" (.cons (.bin .mul (.var 4) (.var 11)) (.cons (.bin .sub (.bin .add (.bin .mul (.var 4) (.var 11)) (.var 12)) (.var 11)) .nil)) .nil) (.tp [(.v 11), (.v 12)]) (.seq (.var 1)) .no [11, 12]) .nil))) (.cons (.ifs (.not (.call "_law_same" (.cons (.tup (.cons (.call "timed" (.cons (.var 1) (.cons (.var 4) .nil)) .nil) (.cons (.call "timed" (.cons (.var 1) .nil) (.cons "number" (.var 4) .nil)) .nil))) (.cons (.tup (.cons (.var 5) (.cons (.var 5) .nil))) .nil)) .nil)) (.cons (.ret (.cbl false)) .nil) .nil) (.cons (.asg (.v 6) (.lc (.var 8) (.tp [(.v 8), (.v 10)]) (.seq (.call "_law_courses" (.cons (.var 1) .nil) .nil)) (.yes (.cmp .eq (.bi .len (.cons (.var 8) .nil)) (.var 2))) [8, 10])) (.cons (.ifs (.cmp .is (.var 3) .cnon) (.cons (.ifs (.not (.calll "_law_never" .nil 4)) (.cons (.ret (.cbl false)) .nil) .nil) (.cons (.ifs (.not (.calll "_law_never" .nil 3)) (.cons (.ret (.cbl false)) .nil) .nil) (.cons (.ret (.or (.cmp .eq (.var 6) (.lst .nil)) (.calll "_law_never" .nil 2))) .nil))) .nil) (.cons (.ifs (.not (.call "_law_same" (.cons (.tup (.cons (.call "given_shares" (.cons (.var 1) (.cons (.var 2) .nil)) .nil) (.cons (.call "given_shares" (.cons (.var 1) .nil) (.cons "many" (.var 2) .nil)) (.cons (.call "given_shares" (.cons (.var 5) (.cons (.var 2) .nil)) .nil) .nil)))) (.cons (.tup (.cons (.var 3) (.cons (.var 3) (.cons (.var 3) .nil)))) .nil)) .nil)) (.cons (.ret (.cbl false)) .nil) .nil) (.cons (.for_ (.v 7) (.bi .range (.cons (.bi .len (.cons (.var 1) .nil)) .nil)) (.cons (.ifs (.not (.call "_law_same" (.cons (.tup (.cons (.call "given_share" (.cons (.var 1) (.cons (.var 2) (.cons (.var 7) .nil))) .nil) (.cons (.call "given_share" (.cons (.var 1) (.cons (.var 2) .nil)) (.cons "moment" (.var 7) .nil)) .nil))) (.cons (.tup (.cons (.sub (.var 3) (.var 7)) (.cons (.sub (.var 3) (.var 7)) .nil))) .nil)) .nil)) (.cons (.ret (.cbl false)) .nil) .nil) .nil)) (.cons (.asg (.tp [(.v 8), (.v 9)]) (.tup (.cons (.call "_law_of" (.cons (.var 0) (.cons (.var 6) .nil)) .nil) (.cons (.sub (.call "_law_counts" (.cons (.var 1) .nil) .nil) (.var 2)) .nil)))) (.cons (.asg (.v 10) (.sub (.lc (.var 14) (.tp [(.v 13), (.v 14)]) (.seq (.call "_law_courses" (.cons (.var 1) .nil) .nil)) (.yes (.cmp .eq (.var 13) (.var 8))) [13, 14]) (.cint 0))) (.cons (.asg (.v 5) (.call "_law_over" (.cons (.var 10) (.cons (.var 9) .nil)) .nil)) (.cons (.ret (.call "_law_same" (.cons (.tup (.cons (.call "given_course" (.cons (.var 1) (.cons (.var 8) .nil)) .nil) (.cons (.call "given_course" (.cons (.var 1) .nil) (.cons "course" (.var 8) .nil)) .nil))) (.cons (.tup (.cons (.var 5) (.cons (.var 5) .nil))) .nil)) .nil)) .nil)))))))))))⟩
def i__law_given_right : FI := ⟨"_law_given_right", ⟨defArgs (top 78), defBody (top 78), defScope (top 78), ["well", "row", "many", "own", "number", "due", "some", "k", "course", "whole_v", "chance", "top", "scale", "one", "each"], true⟩, f__law_given_right⟩
def f__law_right : Fn := ⟨["well"], [], 12, (.cons (.asg (.v 1) (.call "_law_row" (.cons (.var 0) (.cons (.cint 1) (.cons (.cint 6) .nil))) .nil)) (.cons (.asg (.tp [(.v 2), (.v 3)]) (.tup (.cons (.bin .add (.cint 1) (.call "_law_draw" (.cons (.var 0) (.cons (.bi .len (.cons (.var 1) .nil)) .nil)) .nil)) (.cons (.call "_law_courses" (.cons (.var 1) .nil) .nil) .nil)))) (.cons (.ifs (.not (.call "_law_given_right" (.cons (.var 0) (.cons (.var 1) (.cons (.var 2) .nil))) .nil)) (.cons (.ret (.cbl false)) .nil) .nil) (.cons (.asg (.tp [(.v 4), (.v 5)]) (.tup (.cons (.tup (.cons (.cint 0) (.cons (.cint 1) .nil))) (.cons (.tup (.cons (.cint 0) (.cons (.cint 1) .nil))) .nil)))) (.cons (.for_ (.v 6) (.bi .range (.cons (.bi .len (.cons (.var 1) .nil)) .nil)) (.cons (.asg (.v 7) (.call "_law_sum" (.cons (.lc (.var 11) (.tp [(.v 10), (.v 11)]) (.seq (.var 3)) (.yes (.and (.cmp .ge (.bi .len (.cons (.var 10) .nil)) (.var 2)) (.cmp .eq (.sub (.var 10) (.bin .sub (.var 2) (.cint 1))) (.var 6)))) [10, 11]) .nil) .nil)) (.cons (.asg (.v 8) (.call "_law_sum" (.cons (.lc (.var 11) (.tp [(.v 10), (.v 11)]) (.seq (.var 3)) (.yes (.and (.cmp .ge (.bi .len (.cons (.var 10) .nil)) (.var 2)) (.cmp .eq (.sub (.var 10) (.bin .sub (.cint 0) (.var 2))) (.var 6)))) [10, 11]) .nil) .nil)) (.cons (.asg (.tp [(.v 4), (.v 5)]) (.tup (.cons (.call "_law_plus" (.cons (.var 4) (.cons (.call "_law_times" (.cons (.tup (.cons (.var 6) (.cons (.cint 1) .nil))) (.cons (.var 7) .nil)) .nil) .nil)) .nil) (.cons (.call "_law_plus" (.cons (.var 5) (.cons (.var 7) .nil)) .nil) .nil)))) (.cons (.ifs (.not (.call "_law_same" (.cons (.tup (.cons (.call "after_chance" (.cons (.var 1) (.cons (.var 2) (.cons (.var 6) .nil))) .nil) (.cons (.call "after_chance" (.cons (.var 1) (.cons (.var 2) .nil)) (.cons "moment" (.var 6) .nil)) .nil))) (.cons (.tup (.cons (.var 7) (.cons (.var 7) .nil))) .nil)) .nil)) (.cons (.ret (.cbl false)) .nil) .nil) (.cons (.ifs (.not (.call "_law_same" (.cons (.tup (.cons (.call "before_chance" (.cons (.var 1) (.cons (.var 2) (.cons (.var 6) .nil))) .nil) (.cons (.call "before_chance" (.cons (.var 1) (.cons (.var 2) .nil)) (.cons "moment" (.var 6) .nil)) .nil))) (.cons (.tup (.cons (.var 8) (.cons (.var 8) .nil))) .nil)) .nil)) (.cons (.ret (.cbl false)) .nil) .nil) .nil)))))) (.cons (.ifs (.cmp .eq (.var 5) (.tup (.cons (.cint 0) (.cons (.cint 1) .nil)))) (.cons (.ret (.calll "_law_never" .nil 5)) .nil) .nil) (.cons (.asg (.v 9) (.call "_law_over" (.cons (.var 4) (.cons (.var 5) .nil)) .nil)) (.cons (.ret (.call "_law_same" (.cons (.tup (.cons (.call "after_mean" (.cons (.var 1) (.cons (.var 2) .nil)) .nil) (.cons (.call "after_mean" (.cons (.var 1) .nil) (.cons "many" (.var 2) .nil)) .nil))) (.cons (.tup (.cons (.var 9) (.cons (.var 9) .nil))) .nil)) .nil)) .nil))))))))⟩
def i__law_right : FI := ⟨"_law_right", ⟨defArgs (top 79), defBody (top 79), defScope (top 79), ["well", "row", "many", "rows", "mean", "whole_v", "k", "after", "before", "due", "course", "chance"], true⟩, f__law_right⟩
def f_law : Fn := ⟨["script"], [], 4, (.cons (.asg (.v 1) (.lc (.call "_law_well" (.cons (.var 0) (.cons (.var 2) .nil)) .nil) (.v 2) (.bi .range (.cons (.cint 2) .nil)) .no [2])) (.cons (.ret (.bi .all (.cons (.lc (.call "_law_right" (.cons (.sub (.var 1) (.bin .mod (.bi .int (.cons (.var 3) .nil)) (.cint 2))) .nil) .nil) (.v 3) (.bi .range (.cons (.cint 16) .nil)) .no [3]) .nil))) .nil))⟩
def i_law : FI := ⟨"law", ⟨defArgs (top 80), defBody (top 80), defScope (top 80), ["script", "wells", "lap", "k"], false⟩, f_law⟩
def lb_row_fault_0 : Lm := ⟨[3, 4], (.and (.cmp .lt (.bi .len (.cons (.var 4) .nil)) (.var 1)) (.call "is_chance_form" (.cons (.var 3) .nil) .nil))⟩
def lb_check_course_0 : Lm := ⟨[5, 6], (.call "is_moment_behind" (.cons (.var 5) (.cons (.var 6) (.cons (.var 3) .nil))) .nil)⟩
def lb__law_given_right_0 : Lm := ⟨[], (.call "given_course" (.cons (.var 1) .nil) (.cons "course" (.sub (.var 6) (.cint 0)) .nil))⟩
def lb__law_given_right_1 : Lm := ⟨[], (.call "given_share" (.cons (.var 1) (.cons (.var 2) (.cons (.cint 0) .nil))) .nil)⟩
def lb__law_given_right_2 : Lm := ⟨[], (.call "given_shares" (.cons (.var 1) (.cons (.var 2) .nil)) .nil)⟩
def lb__law_right_0 : Lm := ⟨[], (.call "after_mean" (.cons (.var 1) (.cons (.var 2) .nil)) .nil)⟩
abbrev lam_row_fault_0 : Nat := 0
abbrev lam_check_course_0 : Nat := 1
abbrev lam__law_given_right_0 : Nat := 2
abbrev lam__law_given_right_1 : Nat := 3
abbrev lam__law_given_right_2 : Nat := 4
abbrev lam__law_right_0 : Nat := 5
def lams : Nat → Option Lm
  | 0 => some lb_row_fault_0
  | 1 => some lb_check_course_0
  | 2 => some lb__law_given_right_0
  | 3 => some lb__law_given_right_1
  | 4 => some lb__law_given_right_2
  | 5 => some lb__law_right_0
  | _ => none
def fi0 : List FI := [i_is_whole, i_is_number, i_is_tuple_of, i_first_wrong, i_common_divisor, i_lowest, i_whole, i_is_fraction, i_added, i_multiplied, i_divided, i_rest_of, i_sum_of, i_product_of, i_is_chance_form, i_odds_in, i_odds_row, i_products_of, i_counts_in, i_is_moment_behind, i_row_fault, i_check_row, i_check_number, i_check_many, i_check_moment, i_check_within, i_check_moment_there, i_check_course, i_check_some, i_check_can_come]
def fi1 : List FI := [i_all_products, i_share_in, i_timed_in, i_given_share, i_given_shares, i_given_course, i_timed, i_check_after, i_just_in, i_after_in, i_afters_in, i_after_chance, i_after_mean, i_before_chance, i__law_well, i__law_draw, i__law_of, i__law_same, i__law_lowest, i__law_plus, i__law_times, i__law_over, i__law_rest, i__law_chance, i__law_row, i__law_courses, i__law_sum, i__law_counts, i__law_never, i__law_given]
def fi2 : List FI := [i__law_given_right, i__law_right, i_law]
def fi : List FI := fi0 ++ fi1 ++ fi2
def gl0 : List (String × D) := [("NONE", (.tup [(.int 0), (.int 1)])), ("ONE", (.tup [(.int 1), (.int 1)])), ("MOST_MOMENTS", (.int 12)), ("MOST_MANY", (.int 12)), ("MOST_TIMES", (.int 99))]
def gl : List (String × D) := gl0
def ecs0 : List EC := [⟨"SignError", [], ["SignError", "ValueError"]⟩, ⟨"InvalidNumber", ["given"], ["InvalidNumber", "SignError", "ValueError"]⟩, ⟨"OutOfRange", ["given"], ["OutOfRange", "SignError", "ValueError"]⟩, ⟨"InvalidRow", ["index"], ["InvalidRow", "SignError", "ValueError"]⟩, ⟨"InvalidCourse", ["index"], ["InvalidCourse", "SignError", "ValueError"]⟩, ⟨"Never", [], ["Never", "SignError", "ValueError"]⟩]
def ecs : List EC := ecs0
def bs0 : List PySem.Str := ["repr", "len", "int", "abs", "min", "max", "sum", "all", "any", "list", "tuple", "divmod", "range", "zip", "enumerate", "isinstance", "bool", "str", "super", "ValueError"]
def bs : List PySem.Str := bs0
def loose0 : List PySem.Str := ["NONE", "ONE", "is_whole", "is_number", "is_tuple_of", "first_wrong", "common_divisor", "lowest", "whole", "is_fraction", "added", "multiplied", "divided", "rest_of", "sum_of", "product_of", "MOST_MOMENTS", "is_chance_form", "odds_in", "odds_row", "products_of", "counts_in", "is_moment_behind", "SignError", "InvalidNumber", "OutOfRange", "InvalidRow", "InvalidCourse", "Never", "MOST_MANY"]
def loose1 : List PySem.Str := ["row_fault", "check_row", "check_number", "check_many", "check_moment", "check_within", "check_moment_there", "check_course", "MOST_TIMES", "check_some", "check_can_come", "all_products", "share_in", "timed_in", "given_share", "given_shares", "given_course", "timed", "check_after", "just_in", "after_in", "afters_in", "after_chance", "after_mean", "before_chance", "_law_well", "_law_draw", "_law_of", "_law_same", "_law_lowest"]
def loose2 : List PySem.Str := ["_law_plus", "_law_times", "_law_over", "_law_rest", "_law_chance", "_law_row", "_law_courses", "_law_sum", "_law_counts", "_law_never", "_law_given", "_law_given_right", "_law_right"]
def loose : List PySem.Str := loose0 ++ loose1 ++ loose2
theorem ok : okAll fi bs ecs lams = true := by kernel_rfl
end Lw
set_option Elab.async false
set_option linter.all false
set_option maxRecDepth 100000
set_option maxHeartbeats 0
namespace Lw
open PySem PySem.Spec PyProof.Rows L2 Ev Sp
def P : Prog := progOf fi gl ecs lams
theorem fn_is_whole : P.fns "is_whole" = some f_is_whole := by kernel_rfl
theorem fn_is_number : P.fns "is_number" = some f_is_number := by kernel_rfl
theorem fn_is_tuple_of : P.fns "is_tuple_of" = some f_is_tuple_of := by kernel_rfl
theorem fn_first_wrong : P.fns "first_wrong" = some f_first_wrong := by kernel_rfl
theorem fn_common_divisor : P.fns "common_divisor" = some f_common_divisor := by kernel_rfl
theorem fn_lowest : P.fns "lowest" = some f_lowest := by kernel_rfl
theorem fn_whole : P.fns "whole" = some f_whole := by kernel_rfl
theorem fn_is_fraction : P.fns "is_fraction" = some f_is_fraction := by kernel_rfl
theorem fn_added : P.fns "added" = some f_added := by kernel_rfl
theorem fn_multiplied : P.fns "multiplied" = some f_multiplied := by kernel_rfl
theorem fn_divided : P.fns "divided" = some f_divided := by kernel_rfl
theorem fn_rest_of : P.fns "rest_of" = some f_rest_of := by kernel_rfl
theorem fn_sum_of : P.fns "sum_of" = some f_sum_of := by kernel_rfl
theorem fn_product_of : P.fns "product_of" = some f_product_of := by kernel_rfl
theorem fn_is_chance_form : P.fns "is_chance_form" = some f_is_chance_form := by kernel_rfl
theorem fn_odds_in : P.fns "odds_in" = some f_odds_in := by kernel_rfl
theorem fn_odds_row : P.fns "odds_row" = some f_odds_row := by kernel_rfl
theorem fn_products_of : P.fns "products_of" = some f_products_of := by kernel_rfl
theorem fn_counts_in : P.fns "counts_in" = some f_counts_in := by kernel_rfl
theorem fn_is_moment_behind : P.fns "is_moment_behind" = some f_is_moment_behind := by kernel_rfl
theorem fn_row_fault : P.fns "row_fault" = some f_row_fault := by kernel_rfl
theorem fn_check_row : P.fns "check_row" = some f_check_row := by kernel_rfl
theorem fn_check_number : P.fns "check_number" = some f_check_number := by kernel_rfl
theorem fn_check_many : P.fns "check_many" = some f_check_many := by kernel_rfl
theorem fn_check_moment : P.fns "check_moment" = some f_check_moment := by kernel_rfl
theorem fn_check_within : P.fns "check_within" = some f_check_within := by kernel_rfl
theorem fn_check_moment_there : P.fns "check_moment_there" = some f_check_moment_there := by kernel_rfl
theorem fn_check_course : P.fns "check_course" = some f_check_course := by kernel_rfl
theorem fn_check_some : P.fns "check_some" = some f_check_some := by kernel_rfl
theorem fn_check_can_come : P.fns "check_can_come" = some f_check_can_come := by kernel_rfl
theorem fn_all_products : P.fns "all_products" = some f_all_products := by kernel_rfl
theorem fn_share_in : P.fns "share_in" = some f_share_in := by kernel_rfl
theorem fn_timed_in : P.fns "timed_in" = some f_timed_in := by kernel_rfl
theorem fn_given_share : P.fns "given_share" = some f_given_share := by kernel_rfl
theorem fn_given_shares : P.fns "given_shares" = some f_given_shares := by kernel_rfl
theorem fn_given_course : P.fns "given_course" = some f_given_course := by kernel_rfl
theorem fn_timed : P.fns "timed" = some f_timed := by kernel_rfl
theorem fn_check_after : P.fns "check_after" = some f_check_after := by kernel_rfl
theorem fn_just_in : P.fns "just_in" = some f_just_in := by kernel_rfl
theorem fn_after_in : P.fns "after_in" = some f_after_in := by kernel_rfl
theorem fn_afters_in : P.fns "afters_in" = some f_afters_in := by kernel_rfl
theorem fn_after_chance : P.fns "after_chance" = some f_after_chance := by kernel_rfl
theorem fn_after_mean : P.fns "after_mean" = some f_after_mean := by kernel_rfl
theorem fn_before_chance : P.fns "before_chance" = some f_before_chance := by kernel_rfl
theorem fn__law_well : P.fns "_law_well" = some f__law_well := by kernel_rfl
theorem fn__law_draw : P.fns "_law_draw" = some f__law_draw := by kernel_rfl
theorem fn__law_of : P.fns "_law_of" = some f__law_of := by kernel_rfl
theorem fn__law_same : P.fns "_law_same" = some f__law_same := by kernel_rfl
theorem fn__law_lowest : P.fns "_law_lowest" = some f__law_lowest := by kernel_rfl
theorem fn__law_plus : P.fns "_law_plus" = some f__law_plus := by kernel_rfl
theorem fn__law_times : P.fns "_law_times" = some f__law_times := by kernel_rfl
theorem fn__law_over : P.fns "_law_over" = some f__law_over := by kernel_rfl
theorem fn__law_rest : P.fns "_law_rest" = some f__law_rest := by kernel_rfl
theorem fn__law_chance : P.fns "_law_chance" = some f__law_chance := by kernel_rfl
theorem fn__law_row : P.fns "_law_row" = some f__law_row := by kernel_rfl
theorem fn__law_courses : P.fns "_law_courses" = some f__law_courses := by kernel_rfl
theorem fn__law_sum : P.fns "_law_sum" = some f__law_sum := by kernel_rfl
theorem fn__law_counts : P.fns "_law_counts" = some f__law_counts := by kernel_rfl
theorem fn__law_never : P.fns "_law_never" = some f__law_never := by kernel_rfl
theorem fn__law_given : P.fns "_law_given" = some f__law_given := by kernel_rfl
theorem fn__law_given_right : P.fns "_law_given_right" = some f__law_given_right := by kernel_rfl
theorem fn__law_right : P.fns "_law_right" = some f__law_right := by kernel_rfl
theorem fn_law : P.fns "law" = some f_law := by kernel_rfl
@[simp] theorem gl_NONE : P.glob "NONE" = some (.tup [(.int 0), (.int 1)]) := by kernel_rfl
@[simp] theorem gl_ONE : P.glob "ONE" = some (.tup [(.int 1), (.int 1)]) := by kernel_rfl
@[simp] theorem gl_MOST_MOMENTS : P.glob "MOST_MOMENTS" = some (.int 12) := by kernel_rfl
@[simp] theorem gl_MOST_MANY : P.glob "MOST_MANY" = some (.int 12) := by kernel_rfl
@[simp] theorem gl_MOST_TIMES : P.glob "MOST_TIMES" = some (.int 99) := by kernel_rfl
@[simp] theorem xc_SignError : P.exc "SignError" = some (["SignError", "ValueError"], []) := by kernel_rfl
@[simp] theorem xc_InvalidNumber : P.exc "InvalidNumber" = some (["InvalidNumber", "SignError", "ValueError"], ["given"]) := by kernel_rfl
@[simp] theorem xc_OutOfRange : P.exc "OutOfRange" = some (["OutOfRange", "SignError", "ValueError"], ["given"]) := by kernel_rfl
@[simp] theorem xc_InvalidRow : P.exc "InvalidRow" = some (["InvalidRow", "SignError", "ValueError"], ["index"]) := by kernel_rfl
@[simp] theorem xc_InvalidCourse : P.exc "InvalidCourse" = some (["InvalidCourse", "SignError", "ValueError"], ["index"]) := by kernel_rfl
@[simp] theorem xc_Never : P.exc "Never" = some (["Never", "SignError", "ValueError"], []) := by kernel_rfl
@[simp] theorem ix_SignError_Never (n : Nat) : (kap P n).isx "SignError" "Never" = some false := by cases n <;> kernel_rfl
@[simp] theorem ix_SignError_SignError (n : Nat) : (kap P n).isx "SignError" "SignError" = some true := by cases n <;> kernel_rfl
@[simp] theorem ix_SignError_ValueError (n : Nat) : (kap P n).isx "SignError" "ValueError" = some true := by cases n <;> kernel_rfl
@[simp] theorem ix_InvalidNumber_Never (n : Nat) : (kap P n).isx "InvalidNumber" "Never" = some false := by cases n <;> kernel_rfl
@[simp] theorem ix_InvalidNumber_SignError (n : Nat) : (kap P n).isx "InvalidNumber" "SignError" = some true := by cases n <;> kernel_rfl
@[simp] theorem ix_InvalidNumber_ValueError (n : Nat) : (kap P n).isx "InvalidNumber" "ValueError" = some true := by cases n <;> kernel_rfl
@[simp] theorem ef_InvalidNumber (n : Nat) (d : D) : (kap P n).efld "InvalidNumber" [d] "given" = some d := by cases n <;> rfl
@[simp] theorem ix_OutOfRange_Never (n : Nat) : (kap P n).isx "OutOfRange" "Never" = some false := by cases n <;> kernel_rfl
@[simp] theorem ix_OutOfRange_SignError (n : Nat) : (kap P n).isx "OutOfRange" "SignError" = some true := by cases n <;> kernel_rfl
@[simp] theorem ix_OutOfRange_ValueError (n : Nat) : (kap P n).isx "OutOfRange" "ValueError" = some true := by cases n <;> kernel_rfl
@[simp] theorem ef_OutOfRange (n : Nat) (d : D) : (kap P n).efld "OutOfRange" [d] "given" = some d := by cases n <;> rfl
@[simp] theorem ix_InvalidRow_Never (n : Nat) : (kap P n).isx "InvalidRow" "Never" = some false := by cases n <;> kernel_rfl
@[simp] theorem ix_InvalidRow_SignError (n : Nat) : (kap P n).isx "InvalidRow" "SignError" = some true := by cases n <;> kernel_rfl
@[simp] theorem ix_InvalidRow_ValueError (n : Nat) : (kap P n).isx "InvalidRow" "ValueError" = some true := by cases n <;> kernel_rfl
@[simp] theorem ef_InvalidRow (n : Nat) (d : D) : (kap P n).efld "InvalidRow" [d] "index" = some d := by cases n <;> rfl
@[simp] theorem ix_InvalidCourse_Never (n : Nat) : (kap P n).isx "InvalidCourse" "Never" = some false := by cases n <;> kernel_rfl
@[simp] theorem ix_InvalidCourse_SignError (n : Nat) : (kap P n).isx "InvalidCourse" "SignError" = some true := by cases n <;> kernel_rfl
@[simp] theorem ix_InvalidCourse_ValueError (n : Nat) : (kap P n).isx "InvalidCourse" "ValueError" = some true := by cases n <;> kernel_rfl
@[simp] theorem ef_InvalidCourse (n : Nat) (d : D) : (kap P n).efld "InvalidCourse" [d] "index" = some d := by cases n <;> rfl
@[simp] theorem ix_Never_Never (n : Nat) : (kap P n).isx "Never" "Never" = some true := by cases n <;> kernel_rfl
@[simp] theorem ix_Never_SignError (n : Nat) : (kap P n).isx "Never" "SignError" = some true := by cases n <;> kernel_rfl
@[simp] theorem ix_Never_ValueError (n : Nat) : (kap P n).isx "Never" "ValueError" = some true := by cases n <;> kernel_rfl
theorem la_row_fault_0 : P.lams lam_row_fault_0 = some lb_row_fault_0 := rfl
theorem la_check_course_0 : P.lams lam_check_course_0 = some lb_check_course_0 := rfl
theorem la__law_given_right_0 : P.lams lam__law_given_right_0 = some lb__law_given_right_0 := rfl
theorem la__law_given_right_1 : P.lams lam__law_given_right_1 = some lb__law_given_right_1 := rfl
theorem la__law_given_right_2 : P.lams lam__law_given_right_2 = some lb__law_given_right_2 := rfl
theorem la__law_right_0 : P.lams lam__law_right_0 = some lb__law_right_0 := rfl
end Lw
set_option Elab.async false
set_option linter.all false
set_option maxRecDepth 100000
set_option exponentiation.threshold 20000
set_option maxHeartbeats 1000000
namespace Lw
open PySem PySem.Spec PyProof.Rows L2 Ev Sp
theorem gcd_while {n : Nat} {ec : String → Option (List String)} {c : E} {bd : Ss} {S : Store} (hc : ∀ a b : Nat, evE (kap P n) [.int a, .int b] true c S = .ok (.bl (decide ((0 : Int) < b))) S) (hf : ∀ a b : Nat, 0 < b → evSs (kap P n) ec bd [.int a, .int b] S = .nx [.int b, .int ((a % b : Nat) : Int)] S) :
    ∀ (b a m : Nat), b < m → whB (kap P n) ec c bd m [.int a, .int b] S = .nx [.int (Nat.gcd a b), .int 0] S := by
  intro b
  induction b using Nat.strongRecOn with
  | _ b ih =>
    intro a m hn
    cases m with
    | zero => omega
    | succ m =>
      by_cases hb : b = 0
      · subst hb
        unfold whB whF
        rw [hc]
        simp
      · have hb' : 0 < b := by omega
        have := ih (a % b) (Nat.mod_lt _ hb') b m (by have := Nat.mod_lt a hb'; omega)
        unfold whB at this
        unfold whB whF
        rw [hc, decide_eq_true (by omega)]
        simp only [toB_bl, R.ok_fl, hf a b hb', this]
        rw [Nat.gcd_comm a b, Nat.gcd_rec b a, Nat.gcd_comm b (a % b)]
theorem cd_c {n : Nat} (hn : 1 ≤ n) {a b : Nat} (hb : b < 2 ^ 9000) (S : Store) : (kap P n).call "common_divisor" [.int a, .int b] [] S = .ok (.int (Nat.gcd a b)) S := by
  obtain ⟨n, rfl⟩ : ∃ m, n = m + 1 := ⟨n - 1, by omega⟩
  rw [call_eq fn_common_divisor (σ := [.int a, .int b]) (by rfl)]
  simp [f_common_divisor]
  rw [gcd_while (fun a b => by simp [cmpop]) (fun a b hb => by simp [binop, hb]) b a turns (Nat.lt_of_lt_of_le hb (Nat.pow_le_pow_right (by decide) (by decide)))]
  simp [end_rt]
theorem lowest_c {n : Nat} (hn : 2 ≤ n) {i : Int} {s : Nat} (hs : 0 < s) (hb : s < 2 ^ 9000) (S : Store) : (kap P n).call "lowest" [.int i, .int s] [] S = .ok (fr (mkRat i s)) S := by
  obtain ⟨n, rfl⟩ : ∃ m, n = m + 1 := ⟨n - 1, by omega⟩
  rw [call_eq fn_lowest (σ := [.int i, .int s]) (by rfl)]
  have ha : (if i < 0 then -i else i) = ((i.natAbs : Nat) : Int) := by split <;> omega
  have hg : 0 < Nat.gcd i.natAbs s := Nat.gcd_pos_of_pos_right _ hs
  have hg2 : Nat.gcd i.natAbs s < 2 ^ 9000 := Nat.lt_of_le_of_lt (Nat.gcd_le_right _ hs) hb
  have hd := divOk_of hg hg2
  have hneg : ¬ ((s : Int) < 0) := by omega
  simp [f_lowest, cmpop, bltD, binop, hneg, ha, cd_c (n := n) (by omega) hb, hd, end_rt, fr_mk i s hs]
theorem added_c {n : Nat} (hn : 3 ≤ n) {p q : Rat} (hp : Sm p) (hq : Sm q) (S : Store) : (kap P n).call "added" [fr p, fr q] [] S = .ok (fr (p + q)) S := by
  obtain ⟨n, rfl⟩ : ∃ m, n = m + 1 := ⟨n - 1, by omega⟩
  rw [call_eq fn_added (σ := [fr p, fr q]) (by rfl)]
  have hd : 0 < p.den * q.den := Nat.mul_pos p.den_pos q.den_pos
  have hb : p.den * q.den < 2 ^ 9000 := Nat.lt_of_lt_of_le (Nat.mul_lt_mul'' hp.den hq.den) (by rw [← Nat.pow_add]; exact Nat.pow_le_pow_right (by decide) (by decide))
  have lo := lowest_c (n := n) (by omega) (i := p.num * q.den + q.num * p.den) hd hb S
  have e : p + q = mkRat (p.num * q.den + q.num * p.den) (p.den * q.den) := Rat.add_def' p q
  have m1 : mulOk p.num q.den = true := mul_ok hp.num (by simpa using hq.den)
  have m2 : mulOk q.num p.den = true := mul_ok hq.num (by simpa using hp.den)
  have m3 : mulOk p.den q.den = true := mul_ok (by simpa using hp.den) (by simpa using hq.den)
  rw [e]
  simp [f_added, binop, m1, m2, m3] at lo ⊢
  simp [lo, end_val0]
theorem multiplied_c {n : Nat} (hn : 3 ≤ n) {p q : Rat} (hp : Sm p) (hq : Sm q) (S : Store) : (kap P n).call "multiplied" [fr p, fr q] [] S = .ok (fr (p * q)) S := by
  obtain ⟨n, rfl⟩ : ∃ m, n = m + 1 := ⟨n - 1, by omega⟩
  rw [call_eq fn_multiplied (σ := [fr p, fr q]) (by rfl)]
  have hd : 0 < p.den * q.den := Nat.mul_pos p.den_pos q.den_pos
  have hb : p.den * q.den < 2 ^ 9000 := Nat.lt_of_lt_of_le (Nat.mul_lt_mul'' hp.den hq.den) (by rw [← Nat.pow_add]; exact Nat.pow_le_pow_right (by decide) (by decide))
  have lo := lowest_c (n := n) (by omega) (i := p.num * q.num) hd hb S
  have e : p * q = mkRat (p.num * q.num) (p.den * q.den) := Rat.mul_def' p q
  have m1 : mulOk p.num q.num = true := mul_ok hp.num hq.num
  have m3 : mulOk p.den q.den = true := mul_ok (by simpa using hp.den) (by simpa using hq.den)
  rw [e]
  simp [f_multiplied, binop, m1, m3] at lo ⊢
  simp [lo, end_val0]
theorem rest_c {n : Nat} (hn : 1 ≤ n) (q : Rat) (S : Store) : (kap P n).call "rest_of" [fr q] [] S = .ok (fr (1 - q)) S := by
  obtain ⟨n, rfl⟩ : ∃ m, n = m + 1 := ⟨n - 1, by omega⟩
  rw [call_eq fn_rest_of (σ := [fr q]) (by rfl)]
  simp [f_rest_of, binop, end_val0]
  simp [fr, one_sub_rat]
theorem whole_c {n : Nat} (hn : 1 ≤ n) (i : Int) (S : Store) : (kap P n).call "is_whole" [.int i] [] S = .ok (.bl true) S := by
  obtain ⟨n, rfl⟩ : ∃ m, n = m + 1 := ⟨n - 1, by omega⟩
  rw [call_eq fn_is_whole (σ := [.int i]) (by rfl)]
  simp [f_is_whole, tyOf, refOk, isTy, end_val0]
theorem number_c {n : Nat} (hn : 2 ≤ n) (i j : Int) (S : Store) : (kap P n).call "is_number" [.int i, .int j] [] S = .ok (.bl (decide (j ≤ i))) S := by
  obtain ⟨n, rfl⟩ : ∃ m, n = m + 1 := ⟨n - 1, by omega⟩
  rw [call_eq fn_is_number (σ := [.int i, .int j, .non]) (by rfl)]
  by_cases hji : j ≤ i <;> simp [f_is_number, cmpop, whole_c (n := n) (by omega), hji, end_val0]
theorem number3_c {n : Nat} (hn : 2 ≤ n) (i j k : Int) (S : Store) : (kap P n).call "is_number" [.int i, .int j, .int k] [] S = .ok (.bl (decide (j ≤ i ∧ i ≤ k))) S := by
  obtain ⟨n, rfl⟩ : ∃ m, n = m + 1 := ⟨n - 1, by omega⟩
  rw [call_eq fn_is_number (σ := [.int i, .int j, .int k]) (by rfl)]
  by_cases hji : j ≤ i <;> by_cases hik : i ≤ k <;> simp [f_is_number, cmpop, whole_c (n := n) (by omega), hji, hik, end_val0]
theorem numbern_c {n : Nat} (hn : 2 ≤ n) (i j : Int) (S : Store) : (kap P n).call "is_number" [.int i, .int j, .non] [] S = .ok (.bl (decide (j ≤ i))) S := by
  obtain ⟨n, rfl⟩ : ∃ m, n = m + 1 := ⟨n - 1, by omega⟩
  rw [call_eq fn_is_number (σ := [.int i, .int j, .non]) (by rfl)]
  by_cases hji : j ≤ i <;> simp [f_is_number, cmpop, whole_c (n := n) (by omega), hji, end_val0]
theorem tuple_of_c {n : Nat} (hn : 1 ≤ n) (l : List D) (m : Int) (S : Store) : (kap P n).call "is_tuple_of" [.tup l, .int m] [] S = .ok (.bl (decide ((l.length : Int) = m))) S := by
  obtain ⟨n, rfl⟩ : ∃ m, n = m + 1 := ⟨n - 1, by omega⟩
  rw [call_eq fn_is_tuple_of (σ := [.tup l, .int m]) (by rfl)]
  simp [f_is_tuple_of, tyOf, refOk, isTy, bltD, items, cmpop, eqD_int, obl, end_val0]
theorem fraction_c {n : Nat} (hn : 3 ≤ n) {q : Rat} (hq : q.den < 2 ^ 9000) (S : Store) : (kap P n).call "is_fraction" [fr q] [] S = .ok (.bl true) S := by
  obtain ⟨n, rfl⟩ : ∃ m, n = m + 1 := ⟨n - 1, by omega⟩
  rw [call_eq fn_is_fraction (σ := [fr q]) (by rfl)]
  have t := tuple_of_c (n := n) (by omega) [.int q.num, .int q.den] 2 S
  rw [show D.tup [.int q.num, .int q.den] = fr q from rfl] at t
  have cd := cd_c (n := n) (by omega) (a := q.num.natAbs) hq S
  have ha : (if q.num < 0 then -q.num else q.num) = ((q.num.natAbs : Nat) : Int) := by split <;> omega
  have hg : Nat.gcd q.num.natAbs q.den = 1 := q.reduced
  have hd : (1 : Int) ≤ q.den := by have := q.den_pos; omega
  rw [hg] at cd
  simp [f_is_fraction, t, whole_c (n := n) (by omega), number_c (n := n) (by omega), cd, bltD, ha, hd, cmpop, eqD_int, obl, end_val0]
theorem chance_c {n : Nat} (hn : 4 ≤ n) {q : Rat} (hq : q.den < 2 ^ 9000) (h0 : 0 ≤ q) (h1 : q < 1) (S : Store) : (kap P n).call "is_chance_form" [fr q] [] S = .ok (.bl true) S := by
  obtain ⟨n, rfl⟩ : ∃ m, n = m + 1 := ⟨n - 1, by omega⟩
  rw [call_eq fn_is_chance_form (σ := [fr q]) (by rfl)]
  have a0 : 0 ≤ q.num := Rat.num_nonneg.mpr h0
  have a1 : q.num < q.den := by
    have := (Rat.lt_iff q 1).mp h1
    simpa using this
  simp [f_is_chance_form, fraction_c (n := n) (by omega) hq, cmpop, a0, a1, end_val0]
theorem sum_c {n : Nat} (hn : 4 ≤ n) {l : List Rat} {d : D} {S : Store} (hr : Rowd S (l.map fr) d) (hs : ∀ q ∈ l, Sm q) (hp : ∀ i, Sm (sumQ (l.take i))) :
    (kap P n).call "sum_of" [d] [] S = .ok (fr (sumQ l)) S := by
  obtain ⟨n, rfl⟩ : ∃ m, n = m + 1 := ⟨n - 1, by omega⟩
  rw [call_eq fn_sum_of (σ := [d]) (by rfl)]
  obtain ⟨src, e1, e2, e3, e4⟩ := row_src hr
  simp [f_sum_of, varD_some e4, e1]
  generalize hF : forB _ _ _ _ _ _ _ _ = F
  obtain ⟨σ', S', rfl, z, rfl, rfl⟩ := for_all hF (fun i σ S1 => ∃ z, σ = [d, fr (sumQ (l.take i)), z] ∧ S1 = S) (fun i σ S1 h => by
      obtain ⟨_, _, rfl⟩ := h
      exact e3 _ (List.prefix_refl _)) ⟨_, rfl, rfl⟩ (fun i x σ S1 hx h => by
      obtain ⟨z, rfl, rfl⟩ := h
      rw [e2, List.getElem?_map] at hx
      obtain ⟨q, hq, rfl⟩ := Option.map_eq_some_iff.mp hx
      refine ⟨_, rfl, ?_⟩
      rw [sumQ_succ hq]
      simp [added_c (n := n) (by omega) (hp i) (hs q (List.mem_of_getElem? hq))])
  simp [e2, end_val0]
theorem product_c {n : Nat} (hn : 4 ≤ n) {l : List Rat} {d : D} {S : Store} (hr : Rowd S (l.map fr) d) (hs : ∀ q ∈ l, Sm q) (hp : ∀ i, Sm (prodQ (l.take i))) :
    (kap P n).call "product_of" [d] [] S = .ok (fr (prodQ l)) S := by
  obtain ⟨n, rfl⟩ : ∃ m, n = m + 1 := ⟨n - 1, by omega⟩
  rw [call_eq fn_product_of (σ := [d]) (by rfl)]
  obtain ⟨src, e1, e2, e3, e4⟩ := row_src hr
  simp [f_product_of, varD_some e4, e1]
  generalize hF : forB _ _ _ _ _ _ _ _ = F
  obtain ⟨σ', S', rfl, z, rfl, rfl⟩ := for_all hF (fun i σ S1 => ∃ z, σ = [d, fr (prodQ (l.take i)), z] ∧ S1 = S) (fun i σ S1 h => by
      obtain ⟨_, _, rfl⟩ := h
      exact e3 _ (List.prefix_refl _)) ⟨_, rfl, rfl⟩ (fun i x σ S1 hx h => by
      obtain ⟨z, rfl, rfl⟩ := h
      rw [e2, List.getElem?_map] at hx
      obtain ⟨q, hq, rfl⟩ := Option.map_eq_some_iff.mp hx
      refine ⟨_, rfl, ?_⟩
      rw [prodQ_succ hq]
      simp [multiplied_c (n := n) (by omega) (hp i) (hs q (List.mem_of_getElem? hq))])
  simp [e2, end_val0]
end Lw
set_option Elab.async false
set_option linter.all false
set_option maxRecDepth 100000
set_option exponentiation.threshold 20000
set_option maxHeartbeats 1000000
namespace Lw
open PySem PySem.Spec PyProof.Rows L2 Ev Sp
def cloE (S : Store) : R D → R D
  | .ok d S' => R.when (D.flat d) (gc S d S')
  | .ex c l S' => .ex c l S'
  | .bad => .bad
@[simp] theorem cloE_ok (S S' : Store) (d : D) : cloE S (.ok d S') = R.when (D.flat d) (gc S d S') := nr rfl
theorem clo_eq {n k : Nat} {f : Lm} {σ σ' l : List D} {S : Store} (h : P.lams k = some f) (hl : D.flats l = true) (hp : putAt (noClo σ) f.ps l = some σ') : (kap P (n + 1)).clo k σ l S = cloE S (evE (kap P n) σ' false f.body S) := by
  show cloD P (kap P n) k σ l S = _
  unfold cloD
  rw [h]
  simp only [hl, R.when_true, hp]
  cases evE (kap P n) σ' false f.body S <;> rfl
def fwD (n : Nat) (r : Nat → Bool) : D := match (List.range n).find? (fun i => !r i) with
  | some i => .int i
  | none => .non
theorem fw_none {n : Nat} {r : Nat → Bool} (h : ∀ i < n, r i = true) : fwD n r = .non := by
  unfold fwD
  rw [List.find?_eq_none.mpr]
  intro i hi
  simp [h i (by simpa using hi)]
theorem fw_some {n i : Nat} {r : Nat → Bool} (hi : i < n) (hr : r i = false) (h : ∀ j < i, r j = true) : fwD n r = .int i := by
  unfold fwD
  have e : (List.range n).find? (fun i => !r i) = some i := by
    rw [List.find?_range_eq_some]
    exact ⟨by simp [hr], by simpa using hi, fun j hj => by simp [h j hj]⟩
  rw [e]
theorem first_wrong_c {n : Nat} (hn : 1 ≤ n) {l : List D} {j : Nat} {σ' : List D} {r : Nat → Bool} {S : Store} (hf : D.flats l = true)
    (h : ∀ (i : Nat) (d : D), l[i]? = some d → (kap P (n - 1)).clo j σ' [d, .tup (l.take i)] S = .ok (.bl (r i)) S) : (kap P n).call "first_wrong" [.tup l, .clo j σ'] [] S = .ok (fwD l.length r) S := by
  obtain ⟨n, rfl⟩ : ∃ m, n = m + 1 := ⟨n - 1, by omega⟩
  simp only [Nat.add_sub_cancel] at h
  rw [call_eq fn_first_wrong (σ := [.tup l, .clo j σ']) (by rfl)]
  simp [f_first_wrong, srcB_enum]
  generalize hF : forB _ _ _ _ _ _ _ _ = F
  rcases for_rule hF (fun i σ S1 => (∃ z1 z2, σ = [.tup l, .clo j σ', z1, z2]) ∧ S1 = S ∧ ∀ k < i, r k = true) (fun d S1 => S1 = S ∧ d = fwD l.length r) (fun i σ S1 h => rfl) ⟨⟨_, _, rfl⟩, rfl, by simp⟩ (fun i x σ S1 hx hI => by
      obtain ⟨⟨z1, z2, rfl⟩, rfl, hk⟩ := hI
      rw [List.getElem?_mapIdx] at hx
      obtain ⟨d, hd, rfl⟩ := Option.map_eq_some_iff.mp hx
      have hil : i < l.length := (List.getElem?_eq_some_iff.mp hd).1
      have hdf : d.flat = true := flats_all.mp hf d (List.mem_of_getElem? hd)
      refine ⟨_, rfl, ?_⟩
      have c1 := h i d hd
      simp [ev_callv_clo (k := j) (σ' := σ'), slD, cutD_take, varD_some (isUns_flat hdf), c1]
      cases hri : r i with
      | true =>
        simp
        intro k hk'
        rcases Nat.lt_or_ge k i with h | h
        · exact hk k h
        · rw [show k = i by omega]; exact hri
      | false =>
        simp
        exact (fw_some hil hri hk).symm) with ⟨σ2, S2, rfl, ⟨z1, z2, rfl⟩, rfl, hk⟩ | ⟨d, S2, rfl, rfl, rfl⟩
  · rw [fw_none (by simpa using hk)]
    simp [end_val0]
  · simp
    refine end_val0 ?_
    unfold fwD
    split <;> rfl
theorem row_fault_c {n : Nat} (hn : 7 ≤ n) {l : List Rat} (hl : l.length ≤ 12) (hc : ∀ q ∈ l, q.den < 2 ^ 9000 ∧ 0 ≤ q ∧ q < 1) (S : Store) : (kap P n).call "row_fault" [.tup (l.map fr)] [] S = .ok (.tup []) S := by
  obtain ⟨n, rfl⟩ : ∃ m, n = m + 1 := ⟨n - 1, by omega⟩
  rw [call_eq fn_row_fault (σ := [.tup (l.map fr), .int 12]) (by rfl)]
  have fw := first_wrong_c (n := n) (by omega) (l := l.map fr) (j := lam_row_fault_0) (σ' := [.tup (l.map fr), .int 12, .uns, .uns, .uns]) (r := fun _ => true) (S := S) (by simp) (fun i d hd => by
    rw [List.getElem?_map] at hd
    obtain ⟨q, hq, rfl⟩ := Option.map_eq_some_iff.mp hd
    obtain ⟨h1, h2, h3⟩ := hc q (List.mem_of_getElem? hq)
    have hil : i < l.length := (List.getElem?_eq_some_iff.mp hq).1
    obtain ⟨m, hm⟩ : ∃ m, n - 1 = m + 1 := ⟨n - 2, by omega⟩
    rw [hm, clo_eq la_row_fault_0 (σ' := [.tup (l.map fr), .int 12, .uns, fr q, .tup ((l.map fr).take i)]) (by simp; exact flats_all.mpr fun d hd => flats_all.mp (flats_fr l) d (List.mem_of_mem_take hd)) (by simp [noClo, D.flat]; rfl)]
    have : ((min i l.length : Nat) : Int) < 12 := by omega
    simp [lb_row_fault_0, bltD, items, cmpop, this, chance_c (n := m) (by omega) h1 h2 h3])
  rw [fw_none (fun _ _ => rfl)] at fw
  have hcut : Ev.cutD (l.map fr) none (some 13) = l.map fr := by
    have := cutD_take (l.map fr) 13
    rw [List.take_of_length_le (by simp; omega)] at this
    exact this
  simp only [lam_row_fault_0] at fw
  simp [f_row_fault, tyOf, refOk, isTy, binop, slD, hcut, fw, cmpop, end_val0]
theorem check_row_c {n : Nat} (hn : 8 ≤ n) {l : List Rat} (hl : l.length ≤ 12) (hc : ∀ q ∈ l, q.den < 2 ^ 9000 ∧ 0 ≤ q ∧ q < 1) (S : Store) : (kap P n).call "check_row" [.tup (l.map fr)] [] S = .ok .non S := by
  obtain ⟨n, rfl⟩ : ∃ m, n = m + 1 := ⟨n - 1, by omega⟩
  rw [call_eq fn_check_row (σ := [.tup (l.map fr)]) (by rfl)]
  simp [f_check_row, row_fault_c (n := n) (by omega) hl hc, bltD, items, cmpop]
theorem check_number3_c {n : Nat} (hn : 3 ≤ n) {i j k : Int} (h1 : j ≤ i) (h2 : i ≤ k) (S : Store) : (kap P n).call "check_number" [.int i, .int j, .int k] [] S = .ok .non S := by
  obtain ⟨n, rfl⟩ : ∃ m, n = m + 1 := ⟨n - 1, by omega⟩
  rw [call_eq fn_check_number (σ := [.int i, .int j, .int k]) (by rfl)]
  simp [f_check_number, number3_c (n := n) (by omega), h1, h2]
theorem check_number_c {n : Nat} (hn : 3 ≤ n) {i j : Int} (h1 : j ≤ i) (S : Store) : (kap P n).call "check_number" [.int i, .int j] [] S = .ok .non S := by
  obtain ⟨n, rfl⟩ : ∃ m, n = m + 1 := ⟨n - 1, by omega⟩
  rw [call_eq fn_check_number (σ := [.int i, .int j, .non]) (by rfl)]
  simp [f_check_number, numbern_c (n := n) (by omega), h1]
theorem check_moment_c {n : Nat} (hn : 4 ≤ n) {i : Int} (h1 : 0 ≤ i) (S : Store) : (kap P n).call "check_moment" [.int i] [] S = .ok .non S := by
  obtain ⟨n, rfl⟩ : ∃ m, n = m + 1 := ⟨n - 1, by omega⟩
  rw [call_eq fn_check_moment (σ := [.int i]) (by rfl)]
  simp [f_check_moment, check_number_c (n := n) (by omega) h1]
theorem check_within_c {n : Nat} (hn : 1 ≤ n) {i k : Int} (h1 : i ≤ k) (S : Store) : (kap P n).call "check_within" [.int i, .int k] [] S = .ok .non S := by
  obtain ⟨n, rfl⟩ : ∃ m, n = m + 1 := ⟨n - 1, by omega⟩
  rw [call_eq fn_check_within (σ := [.int i, .int k]) (by rfl)]
  have : ¬ k < i := by omega
  simp [f_check_within, cmpop, this]
theorem check_moment_there_c {n : Nat} (hn : 2 ≤ n) {l : List D} {i : Int} (h1 : i < l.length) (S : Store) : (kap P n).call "check_moment_there" [.tup l, .int i] [] S = .ok .non S := by
  obtain ⟨n, rfl⟩ : ∃ m, n = m + 1 := ⟨n - 1, by omega⟩
  rw [call_eq fn_check_moment_there (σ := [.tup l, .int i]) (by rfl)]
  simp [f_check_moment_there, bltD, items, binop, check_within_c (n := n) (by omega) (show i ≤ (l.length : Int) - 1 by omega)]
/-- ascending numbers below a bound -/
def lastD (l : List Nat) : Option Nat := l.getLast?
theorem moment_behind_c {n : Nat} (hn : 3 ≤ n) {i m : Nat} {l : List Nat} (hi : i < m) (ha : ∀ x, l.getLast? = some x → x < i) (S : Store) : (kap P n).call "is_moment_behind" [.int i, .tup (l.map fun (k : Nat) => .int k), .int m] [] S = .ok (.bl true) S := by
  obtain ⟨n, rfl⟩ : ∃ m, n = m + 1 := ⟨n - 1, by omega⟩
  rw [call_eq fn_is_moment_behind (σ := [.int i, .tup (l.map fun (k : Nat) => .int k), .int m]) (by rfl)]
  have h1 : (i : Int) ≤ m - 1 := by omega
  rcases List.eq_nil_or_concat l with rfl | ⟨l', x, rfl⟩
  · simp [f_is_moment_behind, binop, number3_c (n := n) (by omega), h1, bltD, items, cmpop, eqD_int, obl, end_val0]
  · have hx : (x : Int) < i := by have := ha x (by simp); omega
    have h0 : ¬ ((l'.length : Int) + 1 = 0) := by omega
    have hat : atD (l'.map (fun (k : Nat) => D.int k) ++ [D.int x]) (-1) = some (.int x) := by
      unfold atD
      rw [if_neg (by decide), if_pos (by simp; omega)]
      have : (-1 + ((l'.map (fun (k : Nat) => D.int k) ++ [D.int x]).length : Int)).toNat = (l'.map (fun (k : Nat) => D.int k)).length := by simp; omega
      rw [this, List.getElem?_append_right (Nat.le_refl _)]
      simp
    simp [f_is_moment_behind, binop, number3_c (n := n) (by omega), h1, bltD, items, cmpop, eqD_int, obl, end_val0, h0, subD, hat, hx]
def nat (k : Nat) : D := .int k
/-- a course: ascending moments -/
def Crs (m : Nat) (c : List Nat) : Prop := c.Pairwise (· < ·) ∧ ∀ k ∈ c, k < m
theorem check_course_c {n : Nat} (hn : 6 ≤ n) {l : List D} {c : List Nat} (hlf : D.flats l = true) (hc : Crs l.length c) (S : Store) : (kap P n).call "check_course" [.tup l, .tup (c.map fun (k : Nat) => .int k)] [] S = .ok .non S := by
  obtain ⟨n, rfl⟩ : ∃ m, n = m + 1 := ⟨n - 1, by omega⟩
  rw [call_eq fn_check_course (σ := [.tup l, .tup (c.map fun (k : Nat) => .int k), .non]) (by rfl)]
  · have fw := first_wrong_c (n := n) (by omega) (l := c.map fun (k : Nat) => .int k) (j := lam_check_course_0) (σ' := [.tup l, .tup (c.map fun (k : Nat) => .int k), .non, .int l.length, .uns, .uns, .uns]) (r := fun _ => true) (S := S) (by simp [flats_all]) (fun i d hd => by
      rw [List.getElem?_map] at hd
      obtain ⟨q, hq, rfl⟩ := Option.map_eq_some_iff.mp hd
      have hil : i < c.length := (List.getElem?_eq_some_iff.mp hq).1
      obtain ⟨m, hm⟩ : ∃ m, n - 1 = m + 1 := ⟨n - 2, by omega⟩
      have hff : ∀ c : List Nat, D.flats (c.map fun (k : Nat) => .int k) = true := fun c => by simp [flats_all]
      rw [hm, clo_eq la_check_course_0 (σ' := [.tup l, .tup (c.map fun (k : Nat) => .int k), .non, .int l.length, .uns, .int q, .tup ((c.take i).map fun (k : Nat) => .int k)]) (by simp [← List.map_take, hff]) (by simp [noClo, D.flat, hlf, hff, ← List.map_take]; rfl)]
      have := moment_behind_c (n := m) (by omega) (i := q) (m := l.length) (l := c.take i) (hc.2 q (List.mem_of_getElem? hq)) (fun x hx => by
        obtain ⟨j, hj⟩ := List.getLast?_eq_some_iff.mp hx
        have hxm : x ∈ c.take i := by rw [hj]; simp
        obtain ⟨k, hk1, hk2⟩ := List.mem_take_iff_getElem.mp hxm
        have e1 := List.getElem?_eq_some_iff.mp hq
        obtain ⟨_, e1⟩ := e1
        rw [← hk2, ← e1]
        exact List.pairwise_iff_getElem.mp hc.1 k i (by omega) hil (by omega)) S
      rw [List.map_take] at this
      simp [lb_check_course_0, this])
    rw [fw_none (fun _ _ => rfl)] at fw
    simp only [lam_check_course_0] at fw
    simp [f_check_course, tyOf, refOk, isTy, bltD, items, cmpop, fw]
end Lw
set_option Elab.async false
set_option linter.all false
set_option maxRecDepth 100000
set_option exponentiation.threshold 20000
set_option maxHeartbeats 1000000
namespace Lw
open PySem PySem.Spec PyProof.Rows L2 Ev Sp
theorem counts_c {n : Nat} (hn : 5 ≤ n) {c : Nat} {l : List Rat} {d : D} {S : Store} (hr : Rowd S (l.map fr) d) (hs : ∀ q ∈ l, Cn c q) (hc : (c + 1) * l.length + c ≤ 200) (h12 : l.length ≤ 100) :
    (kap P n).call "counts_in" [d] [] S = .ok (.ref S.length) (S ++ [.lst ((countsQ l).map fr)]) := by
  obtain ⟨n, rfl⟩ : ∃ m, n = m + 1 := ⟨n - 1, by omega⟩
  rw [call_eq fn_counts_in (σ := [d]) (by rfl)]
  obtain ⟨src, e1, e2, e3, e4⟩ := row_src hr
  have e1' : ∀ G, ∃ src', srcD d (S ++ G) = some src' ∧ src'.l = l.map fr ∧ ∀ S', S <+: S' → src'.ok S' = true := fun G => by
    rcases hr with rfl | ⟨r, rfl, h⟩
    · exact ⟨_, rfl, rfl, fun _ _ => rfl⟩
    · exact ⟨_, srcD_ref (lstOf_app_left h), rfl, fun S' hp => src_ref_ok h hp⟩
  obtain ⟨src, e1, e2, e3⟩ := e1' [.lst [fr 1]]
  simp [f_counts_in, newD_ok, varD_some e4, e1]
  generalize hF : forB _ _ _ _ _ _ _ _ = F
  obtain ⟨σ', S', rfl, f, z1, z2, z3, rfl, G, rfl, hf⟩ := for_all hF (fun i σ S1 => ∃ f z1 z2 z3, σ = [d, .ref (S.length + f), z1, z2, z3, .uns, .uns, .uns] ∧ ∃ G, S1 = S ++ G ∧ lstOf G f = some ((countsQ (l.take i)).map fr)) (fun i σ S1 h => by
      obtain ⟨_, _, _, _, _, G, rfl, _⟩ := h
      exact e3 _ ⟨G, rfl⟩) ⟨0, .uns, .uns, .uns, by simp, [.lst [fr 1]], rfl, rfl⟩ (fun i x σ S1 hx h => by
      obtain ⟨f, z1, z2, z3, rfl, G, rfl, hf⟩ := h
      rw [e2, List.getElem?_map] at hx
      obtain ⟨q, hq, rfl⟩ := Option.map_eq_some_iff.mp hx
      have hq2 := hs q (List.mem_of_getElem? hq)
      refine ⟨_, rfl, ?_⟩
      have hf0 : lstOf (S ++ G) (S.length + f) = some ((countsQ (l.take i)).map fr) := by simpa using hf
      generalize hS1 : S ++ G = S1 at *
      have hff : ∀ G, lstOf (S1 ++ G) (S.length + f) = some ((countsQ (l.take i)).map fr) := fun G => lstOf_app_left hf0
      have nc := countsQ_nc hs i
      have len : (countsQ (l.take i)).length ≤ 101 := by rw [countsQ_len]; have := List.length_take_le i l; simp; omega
      generalize hcq : countsQ (l.take i) = cq at *
      have h1 : ∀ p ∈ cq, Sp.Sm p ∧ Sp.Sm (p * q) ∧ Sp.Sm (p * (1 - q)) := fun p hp => ⟨(nc p hp).sm (by omega), ((nc p hp).mul hq2.1).sm hc, ((nc p hp).mul hq2.2).sm hc⟩
      have hqs : Sp.Sm q := hq2.1.sm (by omega)
      have hqr : Sp.Sm (1 - q) := hq2.2.sm (by omega)
      have hfl : ∀ (h : Rat → Rat) (l : List Rat), D.flats (l.map fun p => fr (h p)) = true := fun h l => by simp [flats_all]
      simp [newD_ok, hff, hf0]
      generalize hC : lcB _ _ _ _ _ _ _ _ _ = C
      have e := lc_map (S1 ++ [.lst [fr 0]]) hC (xs := cq) (g := fun p => fr (p * q)) rfl (by omega) (src_ref_okG (hff _)) (fun p hp => ⟨by simp, _, rfl, fun S' _ => by simp [noClo, wipeD, multiplied_c (n := n) (by omega) (h1 p hp).1 hqs]⟩)
      subst e
      clear hC
      simp
      rw [add_ref (l := [fr 0]) (m := cq.map fun p => fr (p * q)) (by simp) (by simp) (by simp; omega) (by simp) (hfl (· * q) _)]
      simp [hff]
      generalize hC : lcB _ _ _ _ _ _ _ _ _ = C
      have e := lc_map (S1 ++ [.lst [fr 0], .lst (cq.map fun p => fr (p * q)), .lst (fr 0 :: cq.map fun p => fr (p * q))]) hC (xs := cq) (g := fun p => fr (p * (1 - q))) rfl (by omega) (src_ref_okG (hff _)) (fun p hp => ⟨by simp, _, rfl, fun S' _ => by simp [noClo, wipeD, rest_c (n := n) (by omega), multiplied_c (n := n) (by omega) (h1 p hp).1 hqr]⟩)
      subst e
      clear hC
      simp [newD_ok]
      rw [add_ref (l := cq.map fun p => fr (p * (1 - q))) (m := [fr 0]) (by simp) (by simp) (by simp; omega) (hfl (· * (1 - q)) _) (by simp)]
      simp [srcB]
      generalize hC : lcB _ _ _ _ _ _ _ _ _ = C
      have ez : ∀ a b : List Rat, List.zipWith (fun x y => D.tup [x, y]) (a.map fr) (b.map fr) = (a.zip b).map fun p => D.tup [fr p.1, fr p.2] := zip_fr
      have hz := ez (0 :: cq.map (· * q)) (cq.map (· * (1 - q)) ++ [0])
      simp [Function.comp_def] at hz
      have e := lc_map (S1 ++ [.lst [fr 0], .lst (cq.map fun p => fr (p * q)), .lst (fr 0 :: cq.map fun p => fr (p * q)), .lst (cq.map fun p => fr (p * (1 - q))), .lst [fr 0], .lst ((cq.map fun p => fr (p * (1 - q))) ++ [fr 0])]) hC (xs := (0 :: cq.map (· * q)).zip (cq.map (· * (1 - q)) ++ [0])) (g := fun p => fr (p.1 + p.2)) hz (by simp; omega) (fun S' hp => src_ref2_ok (S := S1 ++ [.lst [fr 0], .lst (cq.map fun p => fr (p * q)), .lst (fr 0 :: cq.map fun p => fr (p * q)), .lst (cq.map fun p => fr (p * (1 - q))), .lst [fr 0], .lst ((cq.map fun p => fr (p * (1 - q))) ++ [fr 0])]) (by simp) (by simp) hp) (fun p hp => ⟨by simp, _, rfl, fun S' _ => by
        have hp1 : Sp.Sm p.1 := by
          have := (List.of_mem_zip hp).1
          rcases List.mem_cons.mp this with h | h
          · rw [h]; exact (nc0 0).sm
          · obtain ⟨x, hx, e⟩ := List.mem_map.mp h
            rw [← e]; exact (h1 x hx).2.1
        have hp2 : Sp.Sm p.2 := by
          have := (List.of_mem_zip hp).2
          rcases List.mem_append.mp this with h | h
          · obtain ⟨x, hx, e⟩ := List.mem_map.mp h
            rw [← e]; exact (h1 x hx).2.2
          · simp at h; rw [h]; exact (nc0 0).sm
        simp [noClo, wipeD, added_c (n := n) (by omega) hp1 hp2]⟩)
      subst e
      clear hC
      rw [zip_add]
      simp
      have hlen : S1.length = S.length + G.length := by rw [← hS1]; simp
      refine ⟨G.length + 6, by rw [hlen, Nat.add_assoc], _, by rw [← hS1, List.append_assoc], ?_⟩
      rw [countsQ_succ hq, hcq]
      simp [stepC])
  simp
  rw [e2, List.length_map, List.take_length] at hf
  exact end_ref hf (by simp)
end Lw
set_option Elab.async false
set_option linter.all false
set_option maxRecDepth 100000
set_option exponentiation.threshold 20000
set_option maxHeartbeats 1000000
namespace Lw
open PySem PySem.Spec PyProof.Rows L2 Ev Sp
theorem draw_c {n : Nat} (hn : 1 ≤ n) {S : Store} {r N L : Nat} {w : List D} (hw : lstOf S r = some w) (hW : WlL w N) (hN : N < 1000000) (hL : 0 < L) (hL2 : L < 1073741824) :
    ∃ d < L, ∃ w', (kap P n).call "_law_draw" [.ref r, .int L] [] S = .ok (.int (d : Nat)) (S.set r (.lst w')) ∧ WlL w' (N + 1) := by
  obtain ⟨n, rfl⟩ : ∃ m, n = m + 1 := ⟨n - 1, by omega⟩
  rw [call_eq fn__law_draw (σ := [.ref r, .int L]) (by rfl)]
  obtain ⟨a, b, c, rfl, ha, hb, hb2, hc, hc2⟩ := hW
  have hr := lstOf_lt hw
  have s0' : subD (.ref r) (.int 0) S = .ok (.int a) S := sub_refI hw (by decide) rfl
  by_cases h : 0 < a
  · refine ⟨(a % (L : Int)).toNat, ?_, [.int (a / (L : Int)), .int b, .int c], ?_, _, _, _, rfl, ?_, hb, hb2, hc, by omega⟩
    · have := Int.emod_lt_of_pos a (show (0 : Int) < L by omega)
      have := Int.emod_nonneg a (show (L : Int) ≠ 0 by omega)
      omega
    · have e : ((a % (L : Int)).toNat : Int) = a % (L : Int) := Int.toNat_of_nonneg (Int.emod_nonneg a (by omega))
      have hdm : bltD .divmod [.int a, .int L] S = .ok (.tup [.int (a / L), .int (a % L)]) S := by
        unfold bltD
        simp [hL, show (L : Int) < 1073741824 by omega]
      rw [e]
      simp [f__law_draw, s0', h, hdm, ixPut_ok hw (k := 0)]
      rw [end_len (by simp) (by simp)]
    · exact Int.ediv_nonneg ha (by omega)
  · have h0 : a = 0 := by omega
    have s2 : subD (.ref r) (.int 2) S = .ok (.int c) S := sub_refI hw (by decide) rfl
    have w1 : lstOf (S.set r (.lst [.int a, .int b, .int (c + 1)])) r = some [.int a, .int b, .int (c + 1)] := lstOf_set_self hr
    have s11 : subD (.ref r) (.int 1) (S.set r (.lst [.int a, .int b, .int (c + 1)])) = .ok (.int b) _ := sub_refI w1 (by decide) rfl
    have s12 : subD (.ref r) (.int 2) (S.set r (.lst [.int a, .int b, .int (c + 1)])) = .ok (.int (c + 1)) _ := sub_refI w1 (by decide) rfl
    have hb40 : (2 : Int) ^ 40 = 1099511627776 := by decide
    have m1 : mulOk b 40037 = true := mul_ok1 hb (by omega) (by decide) (by decide)
    have m2 : mulOk 13001 (c + 1) = true := mul_ok1 (by decide) (by decide) (by omega) (by omega)
    generalize hst : (b * 40037 + 13001 * (c + 1) + 7) % 2147483563 = st
    have hst1 : 0 ≤ st := by omega
    have hst2 : st < 2147483563 := by omega
    have m3 : mulOk st (st % 5009 + 20023) = true := mul_ok1 (by omega) (by omega) (by omega) (by omega)
    generalize hb' : (st * (st % 5009 + 20023) + (c + 1)) % 2147483563 = b'
    have hb1 : 0 ≤ b' := by omega
    have hb2' : b' < 2147483563 := by omega
    have w2 : lstOf (S.set r (.lst [.int a, .int b', .int (c + 1)])) r = some [.int a, .int b', .int (c + 1)] := lstOf_set_self hr
    have s21 : subD (.ref r) (.int 1) (S.set r (.lst [.int a, .int b', .int (c + 1)])) = .ok (.int b') _ := sub_refI w2 (by decide) rfl
    refine ⟨(b' / 1013 % (L : Int)).toNat, ?_, [.int a, .int b', .int (c + 1)], ?_, _, _, _, rfl, ha, hb1, by omega, by omega, by omega⟩
    · have := Int.emod_lt_of_pos (b' / 1013) (show (0 : Int) < L by omega)
      have := Int.emod_nonneg (b' / 1013) (show (L : Int) ≠ 0 by omega)
      omega
    · have e : ((b' / 1013 % (L : Int)).toNat : Int) = b' / 1013 % (L : Int) := Int.toNat_of_nonneg (Int.emod_nonneg _ (by omega))
      rw [e]
      simp [f__law_draw, hL, s0', h, s2, ixPut_ok hw (k := 2), s11, s12, m1, m2, m3, bin_mul_int, bin_mod_int, bin_fdiv_int, hst, hb', ixPut_ok w1 (k := 1), s21, show divOk 1013 = true by decide, show (0 : Int) < L by omega]
      rw [end_len (by simp) (by simp)]
theorem of_c {n : Nat} (hn : 2 ≤ n) {S : Store} {r N : Nat} {w l : List D} (hw : lstOf S r = some w) (hW : WlL w N) (hN : N < 1000000) (hL : 0 < l.length) (hL2 : l.length < 1000) (hf : D.flats l = true) :
    ∃ d ∈ l, ∃ w', (kap P n).call "_law_of" [.ref r, .tup l] [] S = .ok d (S.set r (.lst w')) ∧ WlL w' (N + 1) := by
  obtain ⟨n, rfl⟩ : ∃ m, n = m + 1 := ⟨n - 1, by omega⟩
  rw [call_eq fn__law_of (σ := [.ref r, .tup l]) (by rfl)]
  obtain ⟨k, hk, w', e, hw'⟩ := draw_c (n := n) (by omega) hw hW hN hL (by omega)
  refine ⟨l[k], List.getElem_mem hk, w', ?_, hw'⟩
  simp [f__law_of, e, List.getElem?_eq_getElem hk]
  rw [end_len (flats_all.mp hf _ (List.getElem_mem hk)) (by simp)]
theorem ofr_c {n : Nat} (hn : 2 ≤ n) {S : Store} {r a N : Nat} {w l : List D} (hw : lstOf S r = some w) (hW : WlL w N) (hN : N < 1000000) (ha : lstOf S a = some l) (hra : r ≠ a) (hL : 0 < l.length) (hL2 : l.length < 1000) (hf : D.flats l = true) :
    ∃ d ∈ l, ∃ w', (kap P n).call "_law_of" [.ref r, .ref a] [] S = .ok d (S.set r (.lst w')) ∧ WlL w' (N + 1) := by
  obtain ⟨n, rfl⟩ : ∃ m, n = m + 1 := ⟨n - 1, by omega⟩
  rw [call_eq fn__law_of (σ := [.ref r, .ref a]) (by rfl)]
  obtain ⟨k, hk, w', e, hw'⟩ := draw_c (n := n) (by omega) hw hW hN hL (by omega)
  refine ⟨l[k], List.getElem_mem hk, w', ?_, hw'⟩
  have ha' : lstOf (S.set r (.lst w')) a = some l := by rw [lstOf_set_ne hra]; exact ha
  simp [f__law_of, e, len_ref ha, sub_ref ha' (List.getElem?_eq_getElem hk)]
  rw [end_len (flats_all.mp hf _ (List.getElem_mem hk)) (by simp)]
theorem lchance_c {n : Nat} (hn : 3 ≤ n) {S : Store} {r N : Nat} {w : List D} (hw : lstOf S r = some w) (hW : WlL w N) (hN : N < 1000000) :
    ∃ q : Rat, Ch q ∧ ∃ w', (kap P n).call "_law_chance" [.ref r] [] S = .ok (fr q) (S.set r (.lst w')) ∧ WlL w' (N + 1) := by
  obtain ⟨n, rfl⟩ : ∃ m, n = m + 1 := ⟨n - 1, by omega⟩
  rw [call_eq fn__law_chance (σ := [.ref r]) (by rfl)]
  obtain ⟨d, hd, w', e, hw'⟩ := of_c (n := n) (by omega) hw hW hN (l := [0, 1/2, 1/2, 1/3, 2/3, 1/4, 3/4, 1/5, 2/5, 1/6, 1/10, (9 : Rat)/10].map fr) (by decide) (by decide) (by decide)
  obtain ⟨q, hq, rfl⟩ := List.mem_map.mp hd
  refine ⟨q, ?_, w', ?_, hw'⟩
  · simp only [List.mem_cons, List.not_mem_nil, or_false] at hq
    rcases hq with rfl | rfl | rfl | rfl | rfl | rfl | rfl | rfl | rfl | rfl | rfl | rfl <;> exact ⟨⟨by decide +kernel, by decide +kernel⟩, by decide +kernel, by decide +kernel, ⟨by decide +kernel, by decide +kernel⟩⟩
  · have e2 : ([0, 1/2, 1/2, 1/3, 2/3, 1/4, 3/4, 1/5, 2/5, 1/6, 1/10, (9 : Rat)/10].map fr) = [fr 0, .tup [.int 1, .int 2], .tup [.int 1, .int 2], .tup [.int 1, .int 3], .tup [.int 2, .int 3], .tup [.int 1, .int 4], .tup [.int 3, .int 4], .tup [.int 1, .int 5], .tup [.int 2, .int 5], .tup [.int 1, .int 6], .tup [.int 1, .int 10], .tup [.int 9, .int 10]] := by kernel_rfl
    rw [e2] at e
    simp [f__law_chance, e]
    rw [end_len (by simp) (by simp)]
theorem lrow_c {n : Nat} (hn : 4 ≤ n) {S : Store} {r N a b : Nat} {w : List D} (hw : lstOf S r = some w) (hW : WlL w N) (hN : N + b < 900000) (hab : a ≤ b) (hb : b ≤ 100) :
    ∃ l : List Rat, (∀ q ∈ l, Ch q) ∧ a ≤ l.length ∧ l.length ≤ b ∧ ∃ w', (kap P n).call "_law_row" [.ref r, .int a, .int b] [] S = .ok (.tup (l.map fr)) (S.set r (.lst w')) ∧ WlL w' (N + b + 1) := by
  obtain ⟨n, rfl⟩ : ∃ m, n = m + 1 := ⟨n - 1, by omega⟩
  rw [call_eq fn__law_row (σ := [.ref r, .int a, .int b]) (by rfl)]
  have hr := lstOf_lt hw
  obtain ⟨d, hd, w1, e, hw1⟩ := draw_c (n := n) (by omega) hw hW (by omega) (L := b - a + 1) (by omega) (by omega)
  have eL : ((b - a + 1 : Nat) : Int) = b - a + 1 := by omega
  rw [eL] at e
  have eR : (a : Int) + (d : Nat) = ((a + d : Nat) : Int) := by omega
  simp [f__law_row]
  rw [e]
  simp
  rw [eR, srcB_rng (by omega)]
  simp
  generalize hC : lcB _ _ _ _ _ _ _ _ _ = C
  obtain ⟨acc, S', rfl, l, w2, rfl, rfl, h1, h2, h3⟩ := lc_inv hC (fun i acc S1 => ∃ (l : List Rat) (w2 : List D), acc = l.map fr ∧ S1 = S.set r (.lst w2) ++ [.lst (l.map fr)] ∧ WlL w2 (N + 1 + i) ∧ l.length = i ∧ ∀ q ∈ l, Ch q) (fun i acc S1 h => rfl) (acc := []) ⟨[], w1, rfl, rfl, hw1, rfl, by simp⟩ (fun i x acc S1 hx h => by
    obtain ⟨l, w2, rfl, rfl, h1, h2, h3⟩ := h
    have hil : i < a + d := by
      have := (List.getElem?_eq_some_iff.mp hx).1
      simpa using this
    rw [List.getElem?_map, List.getElem?_range hil] at hx
    obtain rfl : D.int i = x := by simpa using hx
    refine ⟨rfl, _, rfl, ?_⟩
    have hw2 : lstOf (S.set r (.lst w2) ++ [.lst (l.map fr)]) r = some w2 := lstOf_app_left (lstOf_set_self hr)
    obtain ⟨q, hq, w3, e3, hw3⟩ := lchance_c (n := n) (by omega) hw2 h1 (by omega)
    simp [noClo, wipeD]
    rw [e3]
    simp
    refine ⟨l.map fr, ?_, by simp; omega, l ++ [q], by simp, w3, ?_, by rw [← Nat.add_assoc]; exact hw3, by simp [h2], ?_⟩
    · rw [set_app_left (by simpa using hr)]
      simp
      have := lstOf_app0 (S.set r (.lst w3)) [.lst (l.map fr)]
      simpa using this
    · rw [set_app_left (by simpa using hr)]
      have := set_app (S.set r (.lst w3)) (.lst (l.map fr)) (.lst (l.map fr ++ [fr q])) []
      simpa using this
    · intro p hp
      rcases List.mem_append.mp hp with hp | hp
      · exact h3 p hp
      · simp at hp; subst hp; exact hq)
  simp at h2 h1
  refine ⟨l, h3, by omega, by omega, w2, ?_, h1.mono (by omega)⟩
  have := lstOf_app0 (S.set r (.lst w2)) [.lst (l.map fr)]
  simp at this
  simp [tuple_ref this]
  exact end_set (by simp) (by simp) (h1.unders _)
theorem lgcd_while {n : Nat} {ec : String → Option (List String)} {c : E} {bd : Ss} {S : Store} {u v : D} (hc : ∀ a b : Nat, evE (kap P n) [u, v, .int a, .int b] true c S = .ok (.bl (decide ((0 : Int) < b))) S) (hf : ∀ a b : Nat, 0 < b → evSs (kap P n) ec bd [u, v, .int a, .int b] S = .nx [u, v, .int b, .int ((a % b : Nat) : Int)] S) :
    ∀ (b a m : Nat), b < m → whB (kap P n) ec c bd m [u, v, .int a, .int b] S = .nx [u, v, .int (Nat.gcd a b), .int 0] S := by
  intro b
  induction b using Nat.strongRecOn with
  | _ b ih =>
    intro a m hn
    cases m with
    | zero => omega
    | succ m =>
      by_cases hb : b = 0
      · subst hb
        unfold whB whF
        rw [hc]
        simp
      · have hb' : 0 < b := by omega
        have := ih (a % b) (Nat.mod_lt _ hb') b m (by have := Nat.mod_lt a hb'; omega)
        unfold whB at this
        unfold whB whF
        rw [hc, decide_eq_true (by omega)]
        simp only [toB_bl, R.ok_fl, hf a b hb', this]
        rw [Nat.gcd_comm a b, Nat.gcd_rec b a, Nat.gcd_comm b (a % b)]
theorem llowest_c {n : Nat} (hn : 1 ≤ n) {i : Int} {s : Nat} (hs : 0 < s) (hb : s < 2 ^ 9000) (S : Store) : (kap P n).call "_law_lowest" [.int i, .int s] [] S = .ok (fr (mkRat i s)) S := by
  obtain ⟨n, rfl⟩ : ∃ m, n = m + 1 := ⟨n - 1, by omega⟩
  rw [call_eq fn__law_lowest (σ := [.int i, .int s]) (by rfl)]
  have ha : (if i < 0 then -i else i) = ((i.natAbs : Nat) : Int) := by split <;> omega
  have hg : 0 < Nat.gcd i.natAbs s := Nat.gcd_pos_of_pos_right _ hs
  have hg2 : Nat.gcd i.natAbs s < 2 ^ 9000 := Nat.lt_of_le_of_lt (Nat.gcd_le_right _ hs) hb
  have hd := divOk_of hg hg2
  have hab : ∀ S, bltD .abs [.int i] S = .ok (.int (i.natAbs : Nat)) S := fun S => by simp [bltD, ha]
  simp only [f__law_lowest, evSs_cons, evS1, ev7, evEs1, evEs2, ev19, ev_var, List.length_cons, List.length_nil, List.replicate, List.cons_append, List.nil_append]
  simp [hab]
  rw [lgcd_while (fun a b => by simp) (fun a b hb => by simp [bin_mod_int, hb]) s i.natAbs turns (Nat.lt_of_lt_of_le hb (Nat.pow_le_pow_right (by decide) (by decide)))]
  have hg' : (0 : Int) < (Nat.gcd i.natAbs s : Nat) := by omega
  simp only [seq_nx, evS3, ev_ifx, ev11, ev_var, List.getElem?_cons_succ, List.getElem?_cons_zero, varD_int, fin_false, R.ok_bind, ev2, cmp_gt_int, decide_eq_true hg', toB_bl, if_true, ev7, evEs2, evEs1, ev9, bin_fdiv_int hd, List.length_cons, List.length_nil, sz2, R.when_true, R.ok_fl, seq_rt, Nat.zero_add, Nat.reduceAdd, evSs_cons]
  rw [← Int.natCast_ediv, ← fr_mk i s hs, end_val0 (by simp)]
theorem lplus_c {n : Nat} (hn : 2 ≤ n) {p q : Rat} (hp : Sm p) (hq : Sm q) (S : Store) : (kap P n).call "_law_plus" [fr p, fr q] [] S = .ok (fr (p + q)) S := by
  obtain ⟨n, rfl⟩ : ∃ m, n = m + 1 := ⟨n - 1, by omega⟩
  rw [call_eq fn__law_plus (σ := [fr p, fr q]) (by rfl)]
  have hd : 0 < p.den * q.den := Nat.mul_pos p.den_pos q.den_pos
  have hb : p.den * q.den < 2 ^ 9000 := Nat.lt_of_lt_of_le (Nat.mul_lt_mul'' hp.den hq.den) (by rw [← Nat.pow_add]; exact Nat.pow_le_pow_right (by decide) (by decide))
  have lo := llowest_c (n := n) (by omega) (i := p.num * q.den + q.num * p.den) hd hb S
  have e : p + q = mkRat (p.num * q.den + q.num * p.den) (p.den * q.den) := Rat.add_def' p q
  have m1 : mulOk p.num q.den = true := mul_ok hp.num (by simpa using hq.den)
  have m2 : mulOk q.num p.den = true := mul_ok hq.num (by simpa using hp.den)
  have m3 : mulOk p.den q.den = true := mul_ok (by simpa using hp.den) (by simpa using hq.den)
  rw [e]
  simp [f__law_plus, bin_mul_int, m1, m2, m3] at lo ⊢
  simp [lo, end_val0]
theorem ltimes_c {n : Nat} (hn : 2 ≤ n) {p q : Rat} (hp : Sm p) (hq : Sm q) (S : Store) : (kap P n).call "_law_times" [fr p, fr q] [] S = .ok (fr (p * q)) S := by
  obtain ⟨n, rfl⟩ : ∃ m, n = m + 1 := ⟨n - 1, by omega⟩
  rw [call_eq fn__law_times (σ := [fr p, fr q]) (by rfl)]
  have hd : 0 < p.den * q.den := Nat.mul_pos p.den_pos q.den_pos
  have hb : p.den * q.den < 2 ^ 9000 := Nat.lt_of_lt_of_le (Nat.mul_lt_mul'' hp.den hq.den) (by rw [← Nat.pow_add]; exact Nat.pow_le_pow_right (by decide) (by decide))
  have lo := llowest_c (n := n) (by omega) (i := p.num * q.num) hd hb S
  have e : p * q = mkRat (p.num * q.num) (p.den * q.den) := Rat.mul_def' p q
  have m1 : mulOk p.num q.num = true := mul_ok hp.num hq.num
  have m3 : mulOk p.den q.den = true := mul_ok (by simpa using hp.den) (by simpa using hq.den)
  rw [e]
  simp [f__law_times, bin_mul_int, m1, m3] at lo ⊢
  simp [lo, end_val0]
theorem lrest_c {n : Nat} (hn : 2 ≤ n) {q : Rat} (hq : q.den < 2 ^ 9000) (S : Store) : (kap P n).call "_law_rest" [fr q] [] S = .ok (fr (1 - q)) S := by
  obtain ⟨n, rfl⟩ : ∃ m, n = m + 1 := ⟨n - 1, by omega⟩
  rw [call_eq fn__law_rest (σ := [fr q]) (by rfl)]
  have lo := llowest_c (n := n) (by omega) (i := q.den - q.num) q.den_pos hq S
  obtain ⟨e1, e2⟩ := one_sub_rat q
  have e : mkRat (q.den - q.num) q.den = 1 - q := by rw [← e1, ← e2]; exact Rat.mkRat_self _
  rw [e] at lo
  simp [f__law_rest, lo, end_val0]
end Lw
set_option Elab.async false
set_option linter.all false
set_option maxRecDepth 100000
set_option exponentiation.threshold 20000
set_option maxHeartbeats 1000000
namespace Lw
open PySem PySem.Spec PyProof.Rows L2 Ev Sp
/-- plain data that _law_same can look at, d deep at most -/
def okS : Nat → D → Bool
  | _, .int _ => true
  | _, .bl _ => true
  | _, .non => true
  | _, .str _ => true
  | d + 1, .tup l => decide (l.length < 1000) && l.all (okS d)
  | _, _ => false
theorem okS_flat : ∀ (d : Nat) (x : D), okS d x = true → x.flat = true := by
  intro d
  induction d with
  | zero => intro x h; cases x <;> simp [okS] at h <;> simp
  | succ d ih =>
    intro x h
    cases x with
    | tup l =>
      simp [okS] at h
      simp only [flat_tup, flats_all]
      exact fun x hx => ih x (h.2 x hx)
    | _ => simp [okS] at h <;> simp
theorem eqD_self_small {S : Store} {x : D} (h : small x = true) (hs : ∀ s, x = .str s → True) : eqD S x x = some true := by
  cases x <;> simp [small] at h
  · simp [eqD, pyN, PyData.eqv]
  · simp [eqD, pyN, PyData.eqv]
  · simp [eqD, pyN, PyData.eqv]
  · simp [eqD]
theorem same_c : ∀ (d : Nat) {n : Nat} (hn : d + 1 ≤ n) {x : D} (h : okS d x = true) (S : Store), (kap P n).call "_law_same" [x, x] [] S = .ok (.bl true) S := by
  intro d
  induction d with
  | zero =>
    intro n hn x h S
    obtain ⟨n, rfl⟩ : ∃ m, n = m + 1 := ⟨n - 1, by omega⟩
    rw [call_eq fn__law_same (σ := [x, x]) (by rfl)]
    cases x <;> simp [okS] at h <;> simp [f__law_same, tyOf, refOk, isTy, cmpop, obl, eqD_self_small, small, end_val0] <;> simp [eqD, pyN, PyData.eqv, end_val0]
  | succ d ih =>
    intro n hn x h S
    obtain ⟨n, rfl⟩ : ∃ m, n = m + 1 := ⟨n - 1, by omega⟩
    rw [call_eq fn__law_same (σ := [x, x]) (by rfl)]
    cases x with
    | tup l =>
      simp [okS] at h
      simp [f__law_same, tyOf, refOk, isTy]
      rw [srcB_rng (by omega)]
      simp
      generalize hC : lcB _ _ _ _ _ _ _ _ _ = C
      have hfl : D.flats l = true := flats_all.mpr fun x hx => okS_flat d x (h.2 x hx)
      have e := lc_map S hC (enc := fun (i : Nat) => .int i) (xs := List.range l.length) (g := fun _ => .bl true) rfl (by simpa using h.1) (fun _ _ => rfl) (fun i hi => ⟨rfl, _, rfl, fun S' _ => by
        have hi : i < l.length := by simpa using hi
        simp [noClo, wipeD, hfl, List.getElem?_eq_getElem hi, ih (n := n) (by omega) (h.2 _ (List.getElem_mem hi))]⟩)
      subst e
      have hb : ∀ m, blsOf (List.replicate m (D.bl true)) = some (List.replicate m true) := fun m => by
        induction m with
        | zero => rfl
        | succ m ih => simp [List.replicate_succ, blsOf, ih]
      have hb2 : (List.range l.length).map (fun _ => D.bl true) = List.replicate l.length (.bl true) := by apply List.ext_getElem <;> simp
      rw [hb2]
      simp [bltD, hb, end_val]
    | _ => simp [okS] at h <;> simp [f__law_same, tyOf, refOk, isTy, cmpop, obl, eqD_self_small, small, end_val0] <;> simp [eqD, pyN, PyData.eqv, end_val0]
theorem okS_fr (d : Nat) (q : Rat) : okS (d + 1) (fr q) = true := by simp [okS, fr]
theorem okS_frs (d : Nat) {l : List Rat} (h : l.length < 1000) : okS (d + 2) (.tup (l.map fr)) = true := by simp [okS, okS_fr, h]
theorem lsum_c {n : Nat} (hn : 3 ≤ n) {l : List Rat} {d : D} {S : Store} (hr : Rowd S (l.map fr) d) (hs : ∀ q ∈ l, Sm q) (hp : ∀ i, Sm (sumQ (l.take i))) :
    (kap P n).call "_law_sum" [d] [] S = .ok (fr (sumQ l)) S := by
  obtain ⟨n, rfl⟩ : ∃ m, n = m + 1 := ⟨n - 1, by omega⟩
  rw [call_eq fn__law_sum (σ := [d]) (by rfl)]
  obtain ⟨src, e1, e2, e3, e4⟩ := row_src hr
  simp [f__law_sum, varD_some e4, e1]
  generalize hF : forB _ _ _ _ _ _ _ _ = F
  obtain ⟨σ', S', rfl, z, rfl, rfl⟩ := for_all hF (fun i σ S1 => ∃ z, σ = [d, fr (sumQ (l.take i)), z] ∧ S1 = S) (fun i σ S1 h => by
      obtain ⟨_, _, rfl⟩ := h
      exact e3 _ (List.prefix_refl _)) ⟨_, rfl, rfl⟩ (fun i x σ S1 hx h => by
      obtain ⟨z, rfl, rfl⟩ := h
      rw [e2, List.getElem?_map] at hx
      obtain ⟨q, hq, rfl⟩ := Option.map_eq_some_iff.mp hx
      refine ⟨_, rfl, ?_⟩
      rw [sumQ_succ hq]
      simp [lplus_c (n := n) (by omega) (hp i) (hs q (List.mem_of_getElem? hq))])
  simp [e2, end_val0]
/-- what the law has of its new list behind j turns -/
def partC (f : List Rat) (q : Rat) (j : Nat) : List Rat := (List.range (f.length + 1)).map fun i => (if 0 < i ∧ i ≤ j then f.getD (i - 1) 0 * q else 0) + (if i < j then f.getD i 0 * (1 - q) else 0)
theorem partC_0 (f : List Rat) (q : Rat) : partC f q 0 = List.replicate (f.length + 1) 0 := by
  unfold partC
  apply List.ext_getElem
  · simp
  · intro i h1 h2
    rw [List.getElem_map, List.getElem_range, if_neg (by omega), if_neg (by omega)]
    simp [Rat.add_zero]
theorem partC_end (f : List Rat) (q : Rat) : partC f q f.length = stepC f q := by
  unfold partC stepC
  apply List.ext_getElem
  · simp
  · intro i h1 h2
    simp at h1
    simp only [List.getElem_map, List.getElem_range, List.getElem_zipWith]
    congr 1
    · cases i with
      | zero => simp
      | succ i => simp [show i + 1 ≤ f.length by omega, List.getElem?_eq_getElem (show i < f.length by omega)]
    · by_cases h : i < f.length
      · simp [h, List.getElem_append, List.getElem?_eq_getElem h]
      · simp [h, List.getElem_append]
theorem partC_len (f : List Rat) (q : Rat) (j : Nat) : (partC f q j).length = f.length + 1 := by simp [partC]
theorem partC_at (f : List Rat) (q : Rat) (j i : Nat) (h : i < f.length + 1) : (partC f q j)[i]? = some ((if 0 < i ∧ i ≤ j then f.getD (i - 1) 0 * q else 0) + (if i < j then f.getD i 0 * (1 - q) else 0)) := by
  simp [partC, List.getElem?_range h]
theorem partC_succ (f : List Rat) (q : Rat) (j : Nat) (h : j < f.length) {a b : Rat} (ha : (partC f q j)[j]? = some a) (hb : (partC f q j)[j + 1]? = some b) : ((partC f q j).set j (a + f.getD j 0 * (1 - q))).set (j + 1) (b + f.getD j 0 * q) = partC f q (j + 1) := by
  rw [partC_at f q j j (by omega)] at ha
  rw [partC_at f q j (j + 1) (by omega)] at hb
  obtain rfl := Option.some.inj ha
  obtain rfl := Option.some.inj hb
  apply List.ext_getElem?
  intro i
  rw [List.getElem?_set, List.getElem?_set]
  simp only [List.length_set, partC_len]
  by_cases h1 : j + 1 = i
  · subst h1
    rw [if_pos rfl, if_pos (by omega), partC_at f q (j + 1) (j + 1) (by omega)]
    rw [if_neg (by omega), if_neg (by omega), if_pos (by omega), if_neg (by omega)]
    simp [Rat.add_zero, Rat.zero_add]
  · rw [if_neg h1]
    by_cases h2 : j = i
    · subst h2
      rw [if_pos rfl, if_pos (by omega), partC_at f q (j + 1) j (by omega)]
      by_cases h3 : 0 < j
      · simp [h3, Rat.add_zero]
      · simp [h3, Rat.add_zero]
    · rw [if_neg h2]
      by_cases h3 : i < f.length + 1
      · rw [partC_at f q j i h3, partC_at f q (j + 1) i h3]
        have e1 : (0 < i ∧ i ≤ j) ↔ (0 < i ∧ i ≤ j + 1) := by omega
        have e2 : i < j ↔ i < j + 1 := by omega
        simp only [e1, e2]
      · rw [List.getElem?_eq_none (by rw [partC_len]; omega), List.getElem?_eq_none (by rw [partC_len]; omega)]
theorem partC_nc {c k j : Nat} {f : List Rat} {q : Rat} (hf : ∀ p ∈ f, Nc k p) (hq : Cn c q) : ∀ p ∈ partC f q j, Nc (k + c + 1) p := by
  intro p hp
  obtain ⟨i, _, rfl⟩ := List.mem_map.mp hp
  have hg : ∀ i, Nc k (f.getD i 0) := fun i => by
    by_cases h : i < f.length
    · rw [List.getD_eq_getElem?_getD, List.getElem?_eq_getElem h]; exact hf _ (List.getElem_mem h)
    · rw [List.getD_eq_getElem?_getD, List.getElem?_eq_none (by omega)]; exact nc0 _
  refine Nc.add (a := k + c) (b := k + c) ?_ ?_ (by omega) (by omega)
  · split
    · exact (hg _).mul hq.1
    · exact nc0 _
  · split
    · exact (hg _).mul hq.2
    · exact nc0 _
theorem lcounts_c {n : Nat} (hn : 3 ≤ n) {c : Nat} {l : List Rat} {S : Store} (hs : ∀ q ∈ l, Cn c q) (hc : (c + 1) * l.length + c + 2 ≤ 200) (h12 : l.length ≤ 100) :
    (kap P n).call "_law_counts" [.tup (l.map fr)] [] S = .ok (.tup ((countsQ l).map fr)) S := by
  obtain ⟨n, rfl⟩ : ∃ m, n = m + 1 := ⟨n - 1, by omega⟩
  rw [call_eq fn__law_counts (σ := [.tup (l.map fr)]) (by rfl)]
  simp [f__law_counts, newD_ok]
  generalize hF : forB _ _ _ _ _ _ _ _ = F
  obtain ⟨σ', S', rfl, f, z1, z2, z3, rfl, G, rfl, hf⟩ := for_all hF (fun i σ S1 => ∃ f z1 z2 z3, σ = [.tup (l.map fr), .ref (S.length + f), z1, z2, z3] ∧ ∃ G, S1 = S ++ G ∧ lstOf G f = some ((countsQ (l.take i)).map fr)) (fun i σ S1 h => rfl) ⟨0, .uns, .uns, .uns, by simp, [.lst [fr 1]], rfl, rfl⟩ (fun i x σ S1 hx h => by
      obtain ⟨f, z1, z2, z3, rfl, G, rfl, hf⟩ := h
      rw [List.getElem?_map] at hx
      obtain ⟨q, hq, rfl⟩ := Option.map_eq_some_iff.mp hx
      have hq2 := hs q (List.mem_of_getElem? hq)
      refine ⟨_, rfl, ?_⟩
      have hf0 : lstOf (S ++ G) (S.length + f) = some ((countsQ (l.take i)).map fr) := by simpa using hf
      have hlen0 : (S ++ G).length = S.length + G.length := by simp
      have hfG : f < G.length := lstOf_lt hf
      generalize hS1 : S ++ G = S1 at *
      have hff : ∀ G, lstOf (S1 ++ G) (S.length + f) = some ((countsQ (l.take i)).map fr) := fun G => lstOf_app_left hf0
      have nc := countsQ_nc hs i
      have len : (countsQ (l.take i)).length ≤ 101 := by rw [countsQ_len]; have := List.length_take_le i l; simp; omega
      generalize hcq : countsQ (l.take i) = cq at *
      have hqs : Sp.Sm q := hq2.1.sm (by omega)
      have hqr : Sp.Sm (1 - q) := hq2.2.sm (by omega)
      have eL : (cq.length : Int) + 1 = ((cq.length + 1 : Nat) : Int) := by omega
      simp [newD_ok, len_ref (hff _)]
      rw [eL, mul_ref1 (x := fr 0) (by simp) (by omega) (by simp)]
      simp [len_ref (hff _)]
      rw [srcB_rng (by omega)]
      simp
      generalize hF2 : forB _ _ _ _ _ _ _ _ = F2
      obtain ⟨σ2, S2, rfl, z4, rfl, rfl⟩ := for_all hF2 (fun j σ S2 => ∃ z4, σ = [.tup (l.map fr), .ref (S.length + f), fr q, .ref (S1.length + 1), z4] ∧ S2 = S1 ++ [.lst [fr 0], .lst ((partC cq q j).map fr)]) (fun i σ S1 h => rfl) ⟨_, rfl, by rw [partC_0]; simp⟩ (fun j x σ S2 hx h => by
        obtain ⟨z4, rfl, rfl⟩ := h
        have hj : j < cq.length := by
          have := (List.getElem?_eq_some_iff.mp hx).1
          simpa using this
        rw [List.getElem?_map, List.getElem?_range hj] at hx
        obtain rfl : D.int j = x := by simpa using hx
        refine ⟨_, rfl, ?_⟩
        have ha := partC_at cq q j j (by omega)
        have hb := partC_at cq q j (j + 1) (by omega)
        have hs1 := partC_succ cq q j hj ha hb
        have pnc := partC_nc (j := j) nc hq2
        generalize hpa : ((if 0 < j ∧ j ≤ j then cq.getD (j - 1) 0 * q else 0) + (if j < j then cq.getD j 0 * (1 - q) else 0) : Rat) = a at *
        generalize hpb : ((if 0 < j + 1 ∧ j + 1 ≤ j then cq.getD (j + 1 - 1) 0 * q else 0) + (if j + 1 < j then cq.getD (j + 1) 0 * (1 - q) else 0) : Rat) = b at *
        have plen := partC_len cq q j
        have hpc := pnc a (List.mem_of_getElem? ha)
        have hpd := pnc b (List.mem_of_getElem? hb)
        generalize partC cq q j = pc at *
        have hcj : cq[j]? = some cq[j] := List.getElem?_eq_getElem hj
        have hgj : cq.getD j 0 = cq[j] := by rw [List.getD_eq_getElem?_getD, hcj]; rfl
        rw [hgj] at hs1
        have ncj := nc cq[j] (List.getElem_mem hj)
        generalize cq[j] = u at *
        have t1 : ∀ G, subD (.ref (S1.length + 1)) (.int (j : Nat)) (S1 ++ .lst [fr 0] :: .lst (pc.map fr) :: G) = .ok (fr a) (S1 ++ .lst [fr 0] :: .lst (pc.map fr) :: G) := fun G => sub_ref (l := pc.map fr) (by simp) (by simp [ha])
        have t2 : ∀ G, subD (.ref (S.length + f)) (.int (j : Nat)) (S1 ++ G) = .ok (fr u) (S1 ++ G) := fun G => sub_ref (l := cq.map fr) (hff G) (by simp [hcj])
        have e1 : ((j : Int) + 1) = ((j + 1 : Nat) : Int) := by omega
        have sm0 : Sp.Sm u := ncj.sm (by omega)
        have sm1 : Sp.Sm (u * (1 - q)) := (ncj.mul hq2.2).sm (by omega)
        have sm2 : Sp.Sm (u * q) := (ncj.mul hq2.1).sm (by omega)
        have i1 : ∀ σ d, d.flat = true → ixPut d σ (.ref (S1.length + 1)) (.int (j : Nat)) (S1 ++ [.lst [fr 0], .lst (pc.map fr)]) = .nx σ (S1 ++ [.lst [fr 0], .lst ((pc.map fr).set j d)]) := fun σ d hd => by
          rw [ixPut_ok (l := pc.map fr) (by simp) (by omega) (by simp; omega) hd]
          rw [List.set_append_right _ _ (by omega)]
          simp
        have i2 : ∀ σ d d2, d2.flat = true → ixPut d2 σ (.ref (S1.length + 1)) (.int (j + 1 : Nat)) (S1 ++ [.lst [fr 0], .lst ((pc.map fr).set j d)]) = .nx σ (S1 ++ [.lst [fr 0], .lst (((pc.map fr).set j d).set (j + 1) d2)]) := fun σ d d2 hd => by
          rw [ixPut_ok (l := (pc.map fr).set j d) (by simp) (by omega) (by simp; omega) hd]
          rw [List.set_append_right _ _ (by omega)]
          simp
        have t3 : ∀ d, subD (.ref (S1.length + 1)) (.int (j + 1 : Nat)) (S1 ++ [.lst [fr 0], .lst ((pc.map fr).set j d)]) = .ok (fr b) _ := fun d => sub_ref (l := (pc.map fr).set j d) (by simp) (by simp [hb])
        simp [t1, t2, lrest_c (n := n) (by omega) (Nc.small hq2.1 (by omega)), ltimes_c (n := n) (by omega) sm0 hqr, lplus_c (n := n) (by omega) (hpc.sm (by omega)) sm1, i1]
        rw [e1, t3]
        simp [t2, ltimes_c (n := n) (by omega) sm0 hqs, lplus_c (n := n) (by omega) (hpd.sm (by omega)) sm2]
        rw [e1, i2 _ _ _ (by simp)]
        simp [← hs1, List.map_set])
      have h3 : lstOf (G ++ [.lst [fr 0], .lst ((stepC cq q).map fr)]) (G.length + 1) = some ((stepC cq q).map fr) := by simp
      simp
      refine ⟨G.length + 1, by rw [hlen0, Nat.add_assoc], _, by rw [← hS1, List.append_assoc], ?_⟩
      rw [countsQ_succ hq, hcq, partC_end]
      exact h3)
  have hfG : f < G.length := lstOf_lt hf
  rw [List.length_map, List.take_length] at hf
  simp [tuple_ref (l := (countsQ l).map fr) (show lstOf (S ++ G) (S.length + f) = _ by simpa using hf), end_val]
end Lw
set_option Elab.async false
set_option linter.all false
set_option maxRecDepth 100000
set_option exponentiation.threshold 20000
set_option maxHeartbeats 1000000
namespace Lw
open PySem PySem.Spec PyProof.Rows L2 Ev Sp
theorem divided_c {n : Nat} (hn : 3 ≤ n) {p q : Rat} (hp : Sm p) (hq : Sm q) (h0 : 0 < q) (S : Store) : (kap P n).call "divided" [fr p, fr q] [] S = .ok (fr (p / q)) S := by
  obtain ⟨n, rfl⟩ : ∃ m, n = m + 1 := ⟨n - 1, by omega⟩
  rw [call_eq fn_divided (σ := [fr p, fr q]) (by rfl)]
  have hn0 : 0 < q.num := by have := (Rat.lt_iff 0 q).mp h0; simpa using this
  have hd : 0 < p.den * q.num.toNat := Nat.mul_pos p.den_pos (by omega)
  have hq1 : q.num.toNat < 2 ^ 4000 := by have := hq.num; omega
  have hb : p.den * q.num.toNat < 2 ^ 9000 := Nat.lt_of_lt_of_le (Nat.mul_lt_mul'' hp.den hq1) (by rw [← Nat.pow_add]; exact Nat.pow_le_pow_right (by decide) (by decide))
  have lo := lowest_c (n := n) (by omega) (i := p.num * q.den) hd hb S
  have m1 : mulOk p.num q.den = true := mul_ok hp.num (by simpa using hq.den)
  have m2 : mulOk p.den q.num = true := mul_ok (by simpa using hp.den) hq.num
  have e : ((p.den * q.num.toNat : Nat) : Int) = p.den * q.num := by rw [Int.natCast_mul, Int.toNat_of_nonneg (by omega)]
  rw [e] at lo
  rw [div_mk hn0]
  simp [f_divided, bin_mul_int, m1, m2, lo, end_val0]
theorem odds_in_c {n : Nat} (hn : 4 ≤ n) {q : Rat} (hq : Ch q) (S : Store) : (kap P n).call "odds_in" [fr q] [] S = .ok (fr (q / (1 - q))) S := by
  obtain ⟨n, rfl⟩ : ∃ m, n = m + 1 := ⟨n - 1, by omega⟩
  rw [call_eq fn_odds_in (σ := [fr q]) (by rfl)]
  have h0 : 0 < 1 - q := by have := hq.hi; grind
  simp [f_odds_in, rest_c (n := n) (by omega), divided_c (n := n) (by omega) hq.nc.sm hq.rest.sm h0, end_val0]
theorem odds_row_c {n : Nat} (hn : 5 ≤ n) {l : List Rat} (h : ∀ q ∈ l, Ch q) (h12 : l.length < 900) (S : Store) : (kap P n).call "odds_row" [.tup (l.map fr)] [] S = .ok (.ref S.length) (S ++ [.lst ((oddsQ l).map fr)]) := by
  obtain ⟨n, rfl⟩ : ∃ m, n = m + 1 := ⟨n - 1, by omega⟩
  rw [call_eq fn_odds_row (σ := [.tup (l.map fr)]) (by rfl)]
  simp [f_odds_row]
  generalize hC : lcB _ _ _ _ _ _ _ _ _ = C
  have e := lc_map S hC (enc := fr) (xs := l) (g := fun q => fr (q / (1 - q))) rfl (by omega) (fun _ _ => rfl) (fun q hq => ⟨by simp, _, rfl, fun S' _ => by simp [noClo, wipeD, odds_in_c (n := n) (by omega) (h q hq)]⟩)
  subst e
  have e2 : (l.map fun q => fr (q / (1 - q))) = (oddsQ l).map fr := by simp [oddsQ, Function.comp_def]
  rw [e2]
  simp
  exact end_ref (k := 0) rfl (by simp)
/-- with many = 1: 1 and the sum -/
theorem srcB_rng2 {a b : Int} {S : Store} (h1 : -1000 ≤ a) (h2 : a ≤ 1000) (h3 : -1000 ≤ b) (h4 : b ≤ 1000) : srcB .range [.int a, .int b] S = some ⟨rngD a (b - a).toNat, []⟩ := by
  unfold srcB
  dsimp only
  rw [if_pos (by omega)]
theorem products1_c {n : Nat} (hn : 4 ≤ n) {l : List Rat} {d : D} {S : Store} (hr : Rowd S (l.map fr) d) (hs : ∀ q ∈ l, Nc 4 q) (h12 : l.length ≤ 100) :
    (kap P n).call "products_of" [d, .int 1] [] S = .ok (.ref S.length) (S ++ [.lst [fr 1, fr (sumQ l)]]) := by
  obtain ⟨n, rfl⟩ : ∃ m, n = m + 1 := ⟨n - 1, by omega⟩
  rw [call_eq fn_products_of (σ := [d, .int 1]) (by rfl)]
  obtain ⟨_, _, _, _, e4⟩ := row_src hr
  have e1' : ∀ G, ∃ src', srcD d (S ++ G) = some src' ∧ src'.l = l.map fr ∧ ∀ S', S <+: S' → src'.ok S' = true := fun G => by
    rcases hr with rfl | ⟨r, rfl, h⟩
    · exact ⟨_, rfl, rfl, fun _ _ => rfl⟩
    · exact ⟨_, srcD_ref (lstOf_app_left h), rfl, fun S' hp => src_ref_ok h hp⟩
  simp [f_products_of, newD_ok, varD_some e4]
  rw [show (D.int 1) = .int ((1 : Nat) : Int) from rfl, mul_ref1 (x := fr 0) (by simp) (by omega) (by simp)]
  simp
  rw [add_ref (l := [fr 1]) (m := [fr 0]) (by simp) (by simp) (by simp) (by simp) (by simp)]
  obtain ⟨src, e1, e2, e3⟩ := e1' [.lst [fr 1], .lst [fr 0], .lst [fr 0], .lst [fr 1, fr 0]]
  simp [varD_some e4, e1]
  generalize hF : forB _ _ _ _ _ _ _ _ = F
  obtain ⟨σ', S', rfl, f, z1, rfl, G, rfl, hf⟩ := for_all hF (fun i σ S1 => ∃ f z1, σ = [d, .int 1, .ref (S.length + f), z1, .uns] ∧ ∃ G, S1 = S ++ G ∧ lstOf G f = some [fr 1, fr (sumQ (l.take i))]) (fun i σ S1 h => by
      obtain ⟨_, _, _, G, rfl, _⟩ := h
      exact e3 _ ⟨G, rfl⟩) ⟨3, .uns, by simp, _, rfl, by simp [sumQ]⟩ (fun i x σ S1 hx h => by
      obtain ⟨f, z1, rfl, G, rfl, hf⟩ := h
      rw [e2, List.getElem?_map] at hx
      obtain ⟨q, hq, rfl⟩ := Option.map_eq_some_iff.mp hx
      have hq2 := hs q (List.mem_of_getElem? hq)
      refine ⟨_, rfl, ?_⟩
      have hf0 : lstOf (S ++ G) (S.length + f) = some [fr 1, fr (sumQ (l.take i))] := by simpa using hf
      have hlen : (S ++ G).length = S.length + G.length := by simp
      generalize hS1 : S ++ G = S1 at *
      have hff : ∀ S', S1 <+: S' → lstOf S' (S.length + f) = some [fr 1, fr (sumQ (l.take i))] := fun S' hp => lstOf_pre hf0 hp
      have hsn : Nc 104 (sumQ (l.take i)) := by
        have := sum_nc hs i
        exact this.mono (by omega)
      simp [newD_ok]
      rw [srcB_rng2 (by omega) (by omega) (by omega) (by omega)]
      simp [rngD]
      generalize hC : lcB _ _ _ _ _ _ _ _ _ = C
      have hsucc := sumQ_succ hq
      generalize sumQ (l.take i) = s0 at *
      have e := lc_map (S1 ++ [.lst [fr 1]]) hC (enc := fun (k : Nat) => .int (1 + (k : Int))) (xs := [0]) (g := fun _ => fr (s0 + q * 1)) (by simp) (by simp) (fun _ _ => rfl) (fun k hk => by
        have hk0 : k = 0 := by simpa using hk
        subst hk0
        refine ⟨rfl, _, rfl, fun S' hp => ?_⟩
        have hp1 : S1 <+: S' := (List.prefix_append S1 _).trans hp
        have s1 : subD (.ref (S.length + f)) (.int 1) S' = .ok (fr s0) S' := sub_refI (hff S' hp1) (by decide) rfl
        have s2 : subD (.ref (S.length + f)) (.int 0) S' = .ok (fr 1) S' := sub_refI (hff S' hp1) (by decide) rfl
        simp [noClo, wipeD, s1, s2, multiplied_c (n := n) (by omega) (hq2.sm (by omega)) (nc1 0).sm, added_c (n := n) (by omega) (hsn.sm (by omega)) (hq2.sm (by omega))])
      subst e
      clear hC
      simp
      rw [add_ref (l := [fr 1]) (m := [fr (s0 + q)]) (by simp) (by simp [Rat.mul_one]) (by simp) (by simp) (by simp)]
      simp
      refine ⟨G.length + 2, by rw [hlen, Nat.add_assoc], _, by rw [← hS1, List.append_assoc], ?_⟩
      rw [hsucc]
      simp)
  simp
  rw [e2, List.length_map, List.take_length] at hf
  exact end_ref hf (by simp)
end Lw
set_option Elab.async false
set_option linter.all false
set_option maxRecDepth 100000
set_option exponentiation.threshold 20000
set_option maxHeartbeats 1000000
namespace Lw
open PySem PySem.Spec PyProof.Rows L2 Ev Sp
/-- all courses of the first k moments, each with its chance -/
def stepK (k : Nat) (q : Rat) (x : List Nat × Rat) : List (List Nat × Rat) := [(x.1, x.2 * (1 - q)), (x.1 ++ [k], x.2 * q)]
def coursesN (f : Nat → Rat) : Nat → List (List Nat × Rat)
  | 0 => [([], 1)]
  | k + 1 => (coursesN f k).flatMap (stepK k (f k))
def encC (x : List Nat × Rat) : D := .tup [.tup (nats x.1), fr x.2]
theorem flatMap_len {α β : Type} (g : α → List β) (l : List α) (m : Nat) (hg : ∀ x, (g x).length = m) : (l.flatMap g).length = l.length * m := by
  induction l with
  | nil => simp
  | cons a l ih => rw [List.flatMap_cons, List.length_append, ih, hg, List.length_cons, Nat.add_mul]; omega
theorem coursesN_len (f : Nat → Rat) (k : Nat) : (coursesN f k).length = 2 ^ k := by
  induction k with
  | zero => rfl
  | succ k ih =>
    rw [coursesN, flatMap_len _ _ 2 (fun _ => rfl), ih, Nat.pow_succ]
theorem coursesN_in {f : Nat → Rat} {k : Nat} (hf : ∀ i < k, Cn 1 (f i)) : ∀ x ∈ coursesN f k, Crs k x.1 ∧ x.1.length ≤ k ∧ Nc k x.2 := by
  induction k with
  | zero =>
    intro x hx
    simp [coursesN] at hx
    subst hx
    exact ⟨⟨List.Pairwise.nil, by simp⟩, by simp, nc1 0⟩
  | succ k ih =>
    intro x hx
    simp only [coursesN, List.mem_flatMap] at hx
    obtain ⟨y, hy, hx⟩ := hx
    obtain ⟨⟨h1, h2⟩, h3, h4⟩ := ih (fun i hi => hf i (by omega)) y hy
    simp [stepK] at hx
    rcases hx with rfl | rfl
    · exact ⟨⟨h1, fun i hi => by have := h2 i hi; omega⟩, by simp; omega, h4.mul (hf k (by omega)).2⟩
    · refine ⟨⟨?_, ?_⟩, by simp; omega, h4.mul (hf k (by omega)).1⟩
      · rw [List.pairwise_append]
        exact ⟨h1, by simp, fun a ha b hb => by simp at hb; subst hb; exact h2 a ha⟩
      · intro i hi
        rcases List.mem_append.mp hi with hi | hi
        · have := h2 i hi; omega
        · simp at hi; omega
theorem flatMap_take {α β : Type} (g : α → List β) (l : List α) (i : Nat) {x : α} (h : l[i]? = some x) : (l.take (i + 1)).flatMap g = (l.take i).flatMap g ++ g x := by
  rw [List.take_add_one, h]
  simp [List.flatMap_append]
theorem flatMap_take_len {α β : Type} (g : α → List β) (l : List α) (i : Nat) (m : Nat) (hg : ∀ x, (g x).length = m) : ((l.take i).flatMap g).length ≤ l.length * m := by
  rw [flatMap_len _ _ m hg]
  exact Nat.mul_le_mul_right _ (List.length_take_le' _ _)
@[simp] theorem flat_encC (x : List Nat × Rat) : (encC x).flat = true := by simp [encC]
@[simp] theorem flats_encC (l : List (List Nat × Rat)) : D.flats (l.map encC) = true := flats_all.mpr fun d hd => by
  obtain ⟨x, _, rfl⟩ := List.mem_map.mp hd
  simp
@[simp] theorem under_encC (n : Nat) (x : List Nat × Rat) : (encC x).under n = true := by simp [encC]
@[simp] theorem unders_encC (n : Nat) (l : List (List Nat × Rat)) : D.unders n (l.map encC) = true := unders_all.mpr fun d hd => by
  obtain ⟨x, _, rfl⟩ := List.mem_map.mp hd
  simp
theorem lcourses_c {n : Nat} (hn : 3 ≤ n) {l : List Rat} {S : Store} (hs : ∀ q ∈ l, Cn 1 q) (h8 : l.length ≤ 8) :
    (kap P n).call "_law_courses" [.tup (l.map fr)] [] S = .ok (.ref S.length) (S ++ [.lst ((coursesN (fun k => l.getD k 0) l.length).map encC)]) := by
  obtain ⟨n, rfl⟩ : ∃ m, n = m + 1 := ⟨n - 1, by omega⟩
  rw [call_eq fn__law_courses (σ := [.tup (l.map fr)]) (by rfl)]
  generalize hfl : (fun k => l.getD k 0) = fl
  have hfk : ∀ k < l.length, Cn 1 (fl k) ∧ (l.map fr)[k]? = some (fr (fl k)) := fun k hk => by
    subst hfl
    refine ⟨?_, ?_⟩
    · show Cn 1 (l.getD k 0)
      rw [List.getD_eq_getElem?_getD, List.getElem?_eq_getElem hk]
      exact hs _ (List.getElem_mem hk)
    · show _ = some (fr (l.getD k 0))
      rw [List.getD_eq_getElem?_getD, List.getElem?_map, List.getElem?_eq_getElem hk]
      rfl
  simp [f__law_courses, newD_ok]
  rw [srcB_rng (by omega)]
  simp
  generalize hF : forB _ _ _ _ _ _ _ _ = F
  obtain ⟨σ', S', rfl, f, z1, z2, z3, z4, rfl, G, rfl, hf⟩ := for_all hF (fun i σ S1 => ∃ f z1 z2 z3 z4, σ = [.tup (l.map fr), .ref (S.length + f), z1, z2, z3, z4] ∧ ∃ G, S1 = S ++ G ∧ lstOf G f = some ((coursesN fl i).map encC)) (fun i σ S1 h => rfl) ⟨0, .uns, .uns, .uns, .uns, by simp, [.lst [.tup [.tup [], fr 1]]], rfl, rfl⟩ (fun i x σ S1 hx h => by
      obtain ⟨f, z1, z2, z3, z4, rfl, G, rfl, hf⟩ := h
      have hi : i < l.length := by
        have := (List.getElem?_eq_some_iff.mp hx).1
        simpa using this
      rw [List.getElem?_map, List.getElem?_range hi] at hx
      obtain rfl : D.int i = x := by simpa using hx
      refine ⟨_, rfl, ?_⟩
      have hf0 : lstOf (S ++ G) (S.length + f) = some ((coursesN fl i).map encC) := by simpa using hf
      have hlen0 : (S ++ G).length = S.length + G.length := by simp
      generalize hS1 : S ++ G = S1 at *
      have hff : ∀ G, lstOf (S1 ++ G) (S.length + f) = some ((coursesN fl i).map encC) := fun G => lstOf_app_left hf0
      have hin := coursesN_in (f := fl) (k := i) (fun j hj => (hfk j (by omega)).1)
      have hlen := coursesN_len fl i
      have h2i : 2 ^ i ≤ 2 ^ 8 := Nat.pow_le_pow_right (by decide) (by omega)
      obtain ⟨hq2, hq3⟩ := hfk i hi
      have hstep : coursesN fl (i + 1) = (coursesN fl i).flatMap (stepK i (fl i)) := rfl
      generalize coursesN fl i = cs at *
      generalize fl i = q at *
      simp [newD_ok, hff]
      generalize hF2 : forB _ _ _ _ _ _ _ _ = F2
      obtain ⟨σ2, S2, rfl, z4, z5, rfl, rfl⟩ := for_all hF2 (fun j σ S2 => ∃ z4 z5, σ = [.tup (l.map fr), .ref (S.length + f), .int i, .ref S1.length, z4, z5] ∧ S2 = S1 ++ [.lst (((cs.take j).flatMap (stepK i q)).map encC)]) (fun j σ S2 h => by
        obtain ⟨_, _, _, rfl⟩ := h
        simp [Src.ok, hff, D.eqbs_refl]) ⟨_, _, rfl, by simp⟩ (fun j x σ S2 hx h => by
        obtain ⟨z4, z5, rfl, rfl⟩ := h
        rw [List.getElem?_map] at hx
        obtain ⟨y, hy, rfl⟩ := Option.map_eq_some_iff.mp hx
        have hym := hin y (List.mem_of_getElem? hy)
        refine ⟨[.tup (l.map fr), .ref (S.length + f), .int i, .ref S1.length, .tup (nats y.1), fr y.2], rfl, ?_⟩
        have hacc := flatMap_take_len (stepK i q) cs j 2 (fun _ => rfl)
        rw [flatMap_take (stepK i q) cs j hy]
        generalize (cs.take j).flatMap (stepK i q) = acc at *
        have t1 : ∀ S, subD (.tup (l.map fr)) (.int (i : Nat)) S = .ok (fr q) S := fun S => by rw [sub_tup, hq3]; rfl
        have a1 : ∀ (m : List D) d, m.length < 1000 → d.flat = true → methD .append (.ref S1.length) [d] (S1 ++ [.lst m]) = .ok .non (S1 ++ [.lst (m ++ [d])]) := fun m d h1 h2 => by
          rw [append_ok (l := m) (by simp) h1 h2, set_app]
        have l1 : ∀ m, lsOk (.ref S1.length) (S1 ++ [.lst m]) = true := fun m => lsOk_ref (l := m) (by simp)
        simp [t1, l1, lrest_c (n := n) (by omega) (Nc.small hq2.1), ltimes_c (n := n) (by omega) (hym.2.2.sm (by omega)) (hq2.2.sm)]
        rw [a1 _ _ (by simp; omega) (by simp)]
        simp [t1, l1, ltimes_c (n := n) (by omega) (hym.2.2.sm (by omega)) (hq2.1.sm)]
        rw [add_tup (by simp; omega), R.ok_bind]
        simp [t1, ltimes_c (n := n) (by omega) (hym.2.2.sm (by omega)) (hq2.1.sm)]
        rw [a1 _ _ (by simp; omega) (by simp [nats_one])]
        simp [stepK, encC, nats_one])
      simp
      refine ⟨G.length, by rw [hlen0], _, by rw [← hS1, List.append_assoc], ?_⟩
      rw [hstep]
      simp)
  simp
  simp at hf
  exact end_ref hf (by simp)
end Lw
set_option Elab.async false
set_option linter.all false
set_option maxRecDepth 100000
set_option exponentiation.threshold 20000
set_option maxHeartbeats 1000000
namespace Lw
open PySem PySem.Spec PyProof.Rows L2 Ev Sp
def stepP (m : Nat) (f : List Rat) (x : Rat) : List Rat := 1 :: (List.range m).map fun k => f.getD (k + 1) 0 + x * f.getD k 0
def prodsQ (m : Nat) (l : List Rat) : List Rat := l.foldl (stepP m) (1 :: List.replicate m 0)
theorem stepP_len (m : Nat) (f : List Rat) (x : Rat) : (stepP m f x).length = m + 1 := by simp [stepP]
theorem prodsQ_succ {m : Nat} {l : List Rat} {i : Nat} {x : Rat} (h : l[i]? = some x) : prodsQ m (l.take (i + 1)) = stepP m (prodsQ m (l.take i)) x := fold_take _ _ _ _ h
theorem prods_inv {c m : Nat} : ∀ (l : List Rat) (k : Nat) (f : List Rat), f.length = m + 1 → (∀ p ∈ f, Nc k p) → (∀ q ∈ l, Nc c q) → (l.foldl (stepP m) f).length = m + 1 ∧ ∀ p ∈ l.foldl (stepP m) f, Nc (k + (c + 1) * l.length) p
  | [], k, f, h1, h2, _ => by simpa using ⟨h1, h2⟩
  | q :: l, k, f, h1, h2, h3 => by
    have hs : ∀ p ∈ stepP m f q, Nc (k + (c + 1)) p := fun p hp => by
      rcases List.mem_cons.mp hp with rfl | hp
      · exact nc1 _
      · obtain ⟨j, _, rfl⟩ := List.mem_map.mp hp
        exact Nc.add (a := k) (b := c + k) (getD_nc h2 _) ((h3 q (by simp)).mul (getD_nc h2 _)) (by omega) (by omega)
    obtain ⟨h6, h7⟩ := prods_inv l _ _ (stepP_len m f q) hs (fun q hq => h3 q (by simp [hq]))
    refine ⟨h6, fun p hp => (h7 p hp).mono ?_⟩
    rw [List.length_cons, Nat.mul_add]
    omega
theorem prodsQ_inv {c m : Nat} {l : List Rat} (h : ∀ q ∈ l, Nc c q) (i : Nat) : (prodsQ m (l.take i)).length = m + 1 ∧ ∀ p ∈ prodsQ m (l.take i), Nc ((c + 1) * l.length) p := by
  obtain ⟨h1, h2⟩ := prods_inv (c := c) (m := m) (l.take i) 0 (1 :: List.replicate m 0) (by simp) (fun p hp => by
    rcases List.mem_cons.mp hp with rfl | hp
    · exact nc1 0
    · rw [List.eq_of_mem_replicate hp]; exact nc0 0) (fun q hq => h q (List.mem_of_mem_take hq))
  refine ⟨h1, fun p hp => (h2 p hp).mono ?_⟩
  rw [Nat.zero_add]
  exact Nat.mul_le_mul_left _ (List.length_take_le' _ _)
theorem srcB_rng2p {a b : Int} {S : Store} (h1 : -1000 ≤ a) (h2 : a ≤ 1000) (h3 : -1000 ≤ b) (h4 : b ≤ 1000) : srcB .range [.int a, .int b] S = some ⟨rngD a (b - a).toNat, []⟩ := by
  unfold srcB
  dsimp only
  rw [if_pos (by omega)]
theorem getD_somep {l : List Rat} {i : Nat} (h : i < l.length) : (l.map fr)[i]? = some (fr (l.getD i 0)) := by
  rw [List.getElem?_map, List.getD_eq_getElem?_getD, List.getElem?_eq_getElem h]
  rfl
theorem products_c {n : Nat} (hn : 4 ≤ n) {c m : Nat} {l : List Rat} {d : D} {S : Store} (hr : Rowd S (l.map fr) d) (hs : ∀ q ∈ l, Nc c q) (hc : (c + 1) * l.length + c + 1 ≤ 200) (hm : m ≤ 100) (h12 : l.length ≤ 100) :
    (kap P n).call "products_of" [d, .int m] [] S = .ok (.ref S.length) (S ++ [.lst ((prodsQ m l).map fr)]) := by
  obtain ⟨n, rfl⟩ : ∃ m, n = m + 1 := ⟨n - 1, by omega⟩
  rw [call_eq fn_products_of (σ := [d, .int m]) (by rfl)]
  obtain ⟨_, _, _, _, e4⟩ := row_src hr
  have e1' : ∀ G, ∃ src', srcD d (S ++ G) = some src' ∧ src'.l = l.map fr ∧ ∀ S', S <+: S' → src'.ok S' = true := fun G => by
    rcases hr with rfl | ⟨r, rfl, h⟩
    · exact ⟨_, rfl, rfl, fun _ _ => rfl⟩
    · exact ⟨_, srcD_ref (lstOf_app_left h), rfl, fun S' hp => src_ref_ok h hp⟩
  simp [f_products_of, newD_ok, varD_some e4]
  rw [mul_ref1 (x := fr 0) (by simp) (by omega) (by simp)]
  simp
  rw [add_ref (l := [fr 1]) (m := List.replicate m (fr 0)) (by simp) (by simp) (by simp; omega) (by simp) (by simp [flats_all])]
  obtain ⟨src, e1, e2, e3⟩ := e1' [.lst [fr 1], .lst [fr 0], .lst (List.replicate m (fr 0)), .lst (fr 1 :: List.replicate m (fr 0))]
  simp [varD_some e4, e1]
  generalize hF : forB _ _ _ _ _ _ _ _ = F
  obtain ⟨σ', S', rfl, f, z1, rfl, G, rfl, hf⟩ := for_all hF (fun i σ S1 => ∃ f z1, σ = [d, .int m, .ref (S.length + f), z1, .uns] ∧ ∃ G, S1 = S ++ G ∧ lstOf G f = some ((prodsQ m (l.take i)).map fr)) (fun i σ S1 h => by
      obtain ⟨_, _, _, G, rfl, _⟩ := h
      exact e3 _ ⟨G, rfl⟩) ⟨3, .uns, by simp, _, rfl, by simp [prodsQ]⟩ (fun i x σ S1 hx h => by
      obtain ⟨f, z1, rfl, G, rfl, hf⟩ := h
      rw [e2, List.getElem?_map] at hx
      obtain ⟨q, hq, rfl⟩ := Option.map_eq_some_iff.mp hx
      have hq2 := hs q (List.mem_of_getElem? hq)
      refine ⟨_, rfl, ?_⟩
      have hf0 : lstOf (S ++ G) (S.length + f) = some ((prodsQ m (l.take i)).map fr) := by simpa using hf
      have hlen : (S ++ G).length = S.length + G.length := by simp
      generalize hS1 : S ++ G = S1 at *
      have hff : ∀ S', S1 <+: S' → lstOf S' (S.length + f) = some ((prodsQ m (l.take i)).map fr) := fun S' hp => lstOf_pre hf0 hp
      obtain ⟨plen, pnc⟩ := prodsQ_inv (m := m) hs i
      have hsucc := prodsQ_succ (m := m) hq
      generalize prodsQ m (l.take i) = pc at *
      simp [newD_ok]
      rw [srcB_rng2p (by omega) (by omega) (by omega) (by omega), show ((m : Int) + 1 - 1).toNat = m by omega]
      simp
      generalize hC : lcB _ _ _ _ _ _ _ _ _ = C
      have e := lc_map (S1 ++ [.lst [fr 1]]) hC (enc := fun (k : Nat) => .int (1 + (k : Int))) (xs := List.range m) (g := fun k => fr (pc.getD (k + 1) 0 + q * pc.getD k 0)) (by simp [rngD]) (by simp; omega) (fun _ _ => rfl) (fun k hk => by
        have hk : k < m := by simpa using hk
        refine ⟨rfl, _, rfl, fun S' hp => ?_⟩
        have hp1 : S1 <+: S' := (List.prefix_append S1 _).trans hp
        have g1 := getD_somep (l := pc) (i := k + 1) (by omega)
        have g0 := getD_somep (l := pc) (i := k) (by omega)
        have n1 := getD_nc pnc (k + 1)
        have n0 := getD_nc pnc k
        generalize pc.getD (k + 1) 0 = u1 at *
        generalize pc.getD k 0 = u0 at *
        have s1 : subD (.ref (S.length + f)) (.int ((k + 1 : Nat) : Int)) S' = .ok (fr u1) S' := sub_ref (hff S' hp1) g1
        have s2 : subD (.ref (S.length + f)) (.int ((k : Nat) : Int)) S' = .ok (fr u0) S' := sub_ref (hff S' hp1) g0
        have ek : (1 : Int) + k = ((k + 1 : Nat) : Int) := by omega
        have ek2 : ((k + 1 : Nat) : Int) - 1 = (k : Nat) := by omega
        have mm := fun S => multiplied_c (n := n) (by omega) (hq2.sm (by omega)) (n0.sm (by omega)) S
        have aa := fun S => added_c (n := n) (by omega) (n1.sm (by omega)) ((hq2.mul n0).sm (by omega)) S
        generalize ((k + 1 : Nat) : Int) = K at *
        simp [noClo, wipeD, ek, ek2, s1, s2, mm, aa])
      subst e
      clear hC
      simp
      rw [add_ref (l := [fr 1]) (m := (List.range m).map fun k => fr (pc.getD (k + 1) 0 + q * pc.getD k 0)) (by simp) (by simp) (by simp; omega) (by simp) (by simp [flats_all])]
      simp
      refine ⟨G.length + 2, by rw [hlen, Nat.add_assoc], _, by rw [← hS1, List.append_assoc], ?_⟩
      rw [hsucc]
      simp [stepP, Function.comp_def])
  simp
  rw [e2, List.length_map, List.take_length] at hf
  exact end_ref hf (by simp)
end Lw
set_option Elab.async false
set_option linter.all false
set_option maxRecDepth 100000
set_option exponentiation.threshold 20000
set_option maxHeartbeats 1000000
namespace Lw
open PySem PySem.Spec PyProof.Rows L2 Ev Sp
theorem whole_fr_c {n : Nat} (hn : 1 ≤ n) (i : Nat) (S : Store) : (kap P n).call "whole" [.int i] [] S = .ok (fr (i : Rat)) S := by
  obtain ⟨n, rfl⟩ : ∃ m, n = m + 1 := ⟨n - 1, by omega⟩
  rw [call_eq fn_whole (σ := [.int i]) (by rfl)]
  have e : fr (i : Rat) = .tup [.int i, .int 1] := by simp [fr]
  rw [e]
  simp [f_whole, end_val0]
theorem check_many1_c {n : Nat} (hn : 4 ≤ n) {i j : Int} (h1 : j ≤ i) (h2 : i ≤ 12) (S : Store) : (kap P n).call "check_many" [.int i, .int j] [] S = .ok .non S := by
  obtain ⟨n, rfl⟩ : ∃ m, n = m + 1 := ⟨n - 1, by omega⟩
  rw [call_eq fn_check_many (σ := [.int i, .int j]) (by rfl)]
  simp [f_check_many, check_number3_c (n := n) (by omega) h1 h2]
theorem check_some_c {n : Nat} (hn : 5 ≤ n) {i : Int} (h1 : 1 ≤ i) (h2 : i ≤ 12) (S : Store) : (kap P n).call "check_some" [.int i] [] S = .ok .non S := by
  obtain ⟨n, rfl⟩ : ∃ m, n = m + 1 := ⟨n - 1, by omega⟩
  rw [call_eq fn_check_some (σ := [.int i]) (by rfl)]
  simp [f_check_some, check_many1_c (n := n) (by omega) h1 h2]
theorem just_in_c {n : Nat} (hn : 6 ≤ n) {l : List Rat} {m : Nat} (hs : ∀ q ∈ l, Ch q) (h12 : l.length ≤ 12) (S : Store) : (kap P n).call "just_in" [.tup (l.map fr), .int m] [] S = .ok (fr ((countsQ l).getD m 0)) S := by
  obtain ⟨n, rfl⟩ : ∃ m, n = m + 1 := ⟨n - 1, by omega⟩
  rw [call_eq fn_just_in (σ := [.tup (l.map fr), .int m]) (by rfl)]
  have hcl := countsQ_len l
  have cc := counts_c (n := n) (by omega) (c := 1) (l := l) (d := .tup (l.map fr)) (S := S) (.inl rfl) (fun q hq => (hs q hq).cn) (by omega) (by omega)
  by_cases h : m ≤ l.length
  · have hg : ((countsQ l).map fr)[m]? = some (fr ((countsQ l).getD m 0)) := getD_somep (by omega)
    generalize (countsQ l).getD m 0 = v at *
    have h' : (m : Int) ≤ l.length := by omega
    simp [f_just_in, h, cc]
    rw [sub_ref (l := (countsQ l).map fr) (by simp) hg]
    simp [end_val]
  · have e : (countsQ l).getD m 0 = 0 := by rw [List.getD_eq_getElem?_getD, List.getElem?_eq_none (by omega)]; rfl
    rw [e]
    simp [f_just_in, h, end_val0]
def aftQ (l : List Rat) (m k : Nat) : Rat := (countsQ (l.take k)).getD (m - 1) 0 * l.getD k 0
theorem cnt_nc {l : List Rat} (hs : ∀ q ∈ l, Ch q) (h12 : l.length ≤ 12) (m : Nat) : Nc 24 ((countsQ l).getD m 0) := by
  refine getD_nc (fun q hq => ?_) m
  have h := countsQ_nc (c := 1) (l := l) (fun q hq => (hs q hq).cn) l.length q (by rw [List.take_length]; exact hq)
  exact h.mono (by omega)
theorem aftQ_nc {l : List Rat} (hs : ∀ q ∈ l, Ch q) (h12 : l.length ≤ 12) (m k : Nat) : Nc 25 (aftQ l m k) :=
  ((cnt_nc (l := l.take k) (fun q hq => hs q (List.mem_of_mem_take hq)) (by simp; omega) (m - 1)).mul (getD_nc (fun q hq => (hs q hq).nc) k)).mono (by omega)
theorem after_in_c {n : Nat} (hn : 7 ≤ n) {l : List Rat} {m k : Nat} (hs : ∀ q ∈ l, Ch q) (h12 : l.length ≤ 12) (hm : 1 ≤ m) (hk : k < l.length) (S : Store) : (kap P n).call "after_in" [.tup (l.map fr), .int m, .int k] [] S = .ok (fr (aftQ l m k)) S := by
  obtain ⟨n, rfl⟩ : ∃ m, n = m + 1 := ⟨n - 1, by omega⟩
  rw [call_eq fn_after_in (σ := [.tup (l.map fr), .int m, .int k]) (by rfl)]
  have em : (m : Int) - 1 = ((m - 1 : Nat) : Int) := by omega
  have hst : ∀ q ∈ l.take k, Ch q := fun q hq => hs q (List.mem_of_mem_take hq)
  have ji := fun S => just_in_c (n := n) (by omega) (l := l.take k) (m := m - 1) hst (by simp; omega) S
  have c1 := cnt_nc (l := l.take k) hst (by simp; omega) (m - 1)
  have c2 := getD_nc (fun q hq => (hs q hq).nc) k
  have hg : ∀ S, subD (.tup (l.map fr)) (.int (k : Nat)) S = .ok (fr (l.getD k 0)) S := fun S => by rw [sub_tup, getD_somep hk]; rfl
  have hcut : ∀ S, slD (.tup (l.map fr)) none (some ((k : Nat) : Int)) S = .ok (.tup ((l.take k).map fr)) S := fun S => by simp only [slD, cutD_take, List.map_take]
  have hdef : aftQ l m k = (countsQ (l.take k)).getD (m - 1) 0 * l.getD k 0 := rfl
  rw [hdef]
  generalize (countsQ (l.take k)).getD (m - 1) 0 = u at *
  generalize l.getD k 0 = v at *
  generalize (l.take k).map fr = lt at *
  generalize ((m - 1 : Nat) : Int) = M at *
  simp [f_after_in, hcut, em, ji, hg, multiplied_c (n := n) (by omega) (c1.sm (by omega)) (c2.sm (by omega)), end_val0]
theorem afters_in_c {n : Nat} (hn : 8 ≤ n) {l : List Rat} {m : Nat} (hs : ∀ q ∈ l, Ch q) (h12 : l.length ≤ 12) (hm : 1 ≤ m) (S : Store) : (kap P n).call "afters_in" [.tup (l.map fr), .int m] [] S = .ok (.ref S.length) (S ++ [.lst (((List.range l.length).map (aftQ l m)).map fr)]) := by
  obtain ⟨n, rfl⟩ : ∃ m, n = m + 1 := ⟨n - 1, by omega⟩
  rw [call_eq fn_afters_in (σ := [.tup (l.map fr), .int m]) (by rfl)]
  simp [f_afters_in]
  rw [srcB_rng (by omega)]
  simp
  generalize hC : lcB _ _ _ _ _ _ _ _ _ = C
  have e0 := lc_map S hC (enc := fun (k : Nat) => .int k) (xs := List.range l.length) (g := fun k => fr (aftQ l m k)) rfl (by simp; omega) (fun _ _ => rfl) (fun k hk => ⟨rfl, _, rfl, fun S' _ => by
    simp [noClo, wipeD, after_in_c (n := n) (by omega) (m := m) hs h12 hm (by simpa using hk)]⟩)
  subst e0
  simp
  exact end_ref (k := 0) rfl (by simp [unders_all])
theorem check_after_c {n : Nat} (hn : 9 ≤ n) {l : List Rat} {m k : Nat} (hs : ∀ q ∈ l, Ch q) (h12 : l.length ≤ 12) (hm : 1 ≤ m) (hm2 : m ≤ 12) (hk : k < l.length) (S : Store) : (kap P n).call "check_after" [.tup (l.map fr), .int m, .int k] [] S = .ok .non S := by
  obtain ⟨n, rfl⟩ : ∃ m, n = m + 1 := ⟨n - 1, by omega⟩
  rw [call_eq fn_check_after (σ := [.tup (l.map fr), .int m, .int k]) (by rfl)]
  simp [f_check_after, check_row_c (n := n) (by omega) h12 (fun q hq => (hs q hq).ok), check_many1_c (n := n) (by omega) (i := m) (j := 1) (by omega) (by omega), check_moment_c (n := n) (by omega) (show (0 : Int) ≤ k by omega), check_moment_there_c (n := n) (by omega) (l := l.map fr) (i := k) (by simp; omega)]
theorem after_chance_c {n : Nat} (hn : 10 ≤ n) {l : List Rat} {m k : Nat} (hs : ∀ q ∈ l, Ch q) (h12 : l.length ≤ 12) (hm : 1 ≤ m) (hm2 : m ≤ 12) (hk : k < l.length) (S : Store) :
    (kap P n).call "after_chance" [.tup (l.map fr), .int m, .int k] [] S = .ok (fr (aftQ l m k)) S ∧ (kap P n).call "after_chance" [.tup (l.map fr), .int m] [("moment", .int k)] S = .ok (fr (aftQ l m k)) S := by
  obtain ⟨n, rfl⟩ : ∃ m, n = m + 1 := ⟨n - 1, by omega⟩
  rw [call_eq fn_after_chance (σ := [.tup (l.map fr), .int m, .int k]) (by rfl), call_eq fn_after_chance (σ := [.tup (l.map fr), .int m, .int k]) (by rfl)]
  simp [f_after_chance, check_after_c (n := n) (by omega) hs h12 hm hm2 hk, after_in_c (n := n) (by omega) hs h12 hm hk, end_val0]
def befQ (l : List Rat) (m k : Nat) : Rat := (countsQ (l.drop (k + 1))).getD (m - 1) 0 * l.getD k 0
theorem before_chance_c {n : Nat} (hn : 10 ≤ n) {l : List Rat} {m k : Nat} (hs : ∀ q ∈ l, Ch q) (h12 : l.length ≤ 12) (hm : 1 ≤ m) (hm2 : m ≤ 12) (hk : k < l.length) (S : Store) :
    (kap P n).call "before_chance" [.tup (l.map fr), .int m, .int k] [] S = .ok (fr (befQ l m k)) S ∧ (kap P n).call "before_chance" [.tup (l.map fr), .int m] [("moment", .int k)] S = .ok (fr (befQ l m k)) S := by
  obtain ⟨n, rfl⟩ : ∃ m, n = m + 1 := ⟨n - 1, by omega⟩
  rw [call_eq fn_before_chance (σ := [.tup (l.map fr), .int m, .int k]) (by rfl), call_eq fn_before_chance (σ := [.tup (l.map fr), .int m, .int k]) (by rfl)]
  have em : (m : Int) - 1 = ((m - 1 : Nat) : Int) := by omega
  have ek : (k : Int) + 1 = ((k + 1 : Nat) : Int) := by omega
  have hst : ∀ q ∈ l.drop (k + 1), Ch q := fun q hq => hs q (List.mem_of_mem_drop hq)
  have ji := fun S => just_in_c (n := n) (by omega) (l := l.drop (k + 1)) (m := m - 1) hst (by simp; omega) S
  have c1 := cnt_nc (l := l.drop (k + 1)) hst (by simp; omega) (m - 1)
  have c2 := getD_nc (fun q hq => (hs q hq).nc) k
  have hg : ∀ S, subD (.tup (l.map fr)) (.int (k : Nat)) S = .ok (fr (l.getD k 0)) S := fun S => by rw [sub_tup, getD_somep hk]; rfl
  have hcut : ∀ S, slD (.tup (l.map fr)) (some ((k + 1 : Nat) : Int)) none S = .ok (.tup ((l.drop (k + 1)).map fr)) S := fun S => by simp only [slD, cutD_drop, List.map_drop]
  have ca := fun S => check_after_c (n := n) (by omega) hs h12 hm hm2 hk S
  have hdef : befQ l m k = (countsQ (l.drop (k + 1))).getD (m - 1) 0 * l.getD k 0 := rfl
  rw [hdef]
  generalize (countsQ (l.drop (k + 1))).getD (m - 1) 0 = u at *
  generalize l.getD k 0 = v at *
  generalize (l.drop (k + 1)).map fr = lt at *
  generalize ((m - 1 : Nat) : Int) = M at *
  generalize ((k + 1 : Nat) : Int) = K at *
  simp [f_before_chance, ca, hcut, ek, em, ji, hg, multiplied_c (n := n) (by omega) (c1.sm (by omega)) (c2.sm (by omega)), end_val0]
end Lw
set_option Elab.async false
set_option linter.all false
set_option maxRecDepth 100000
set_option exponentiation.threshold 20000
set_option maxHeartbeats 1000000
namespace Lw
open PySem PySem.Spec PyProof.Rows L2 Ev Sp
theorem odds_od_c {n : Nat} (hn : 4 ≤ n) {q : Rat} (hq : Od q) (S : Store) : (kap P n).call "odds_in" [fr q] [] S = .ok (fr (q / (1 - q))) S := by
  obtain ⟨n, rfl⟩ : ∃ m, n = m + 1 := ⟨n - 1, by omega⟩
  rw [call_eq fn_odds_in (σ := [fr q]) (by rfl)]
  have h0 : 0 < 1 - q := by have := hq.hi; grind
  simp [f_odds_in, rest_c (n := n) (by omega), divided_c (n := n) (by omega) hq.sm hq.sr h0, end_val0]
theorem odds_row_od_c {n : Nat} (hn : 5 ≤ n) {l : List Rat} (h : ∀ q ∈ l, Od q) (h12 : l.length < 900) (S : Store) : (kap P n).call "odds_row" [.tup (l.map fr)] [] S = .ok (.ref S.length) (S ++ [.lst ((oddsQ l).map fr)]) := by
  obtain ⟨n, rfl⟩ : ∃ m, n = m + 1 := ⟨n - 1, by omega⟩
  rw [call_eq fn_odds_row (σ := [.tup (l.map fr)]) (by rfl)]
  simp [f_odds_row]
  generalize hC : lcB _ _ _ _ _ _ _ _ _ = C
  have e := lc_map S hC (enc := fr) (xs := l) (g := fun q => fr (q / (1 - q))) rfl (by omega) (fun _ _ => rfl) (fun q hq => ⟨by simp, _, rfl, fun S' _ => by simp [noClo, wipeD, odds_od_c (n := n) (by omega) (h q hq)]⟩)
  subst e
  have e2 : (l.map fun q => fr (q / (1 - q))) = (oddsQ l).map fr := by simp [oddsQ, Function.comp_def]
  rw [e2]
  simp
  exact end_ref (k := 0) rfl (by simp)
/-- the sum of the products of just so many odds -/
def symQ (l : List Rat) (m : Nat) : Rat := (prodsQ m (oddsQ l)).getD m 0
theorem symQ_nc {l : List Rat} (h : ∀ q ∈ l, Od q) (h12 : l.length ≤ 6) (m : Nat) : Nc 54 (symQ l m) := by
  refine getD_nc (fun q hq => ?_) m
  have hp := (prodsQ_inv (c := 8) (m := m) (oddsO_nc h) (oddsQ l).length).2 q (by rw [List.take_length]; exact hq)
  exact hp.mono (by simp [oddsQ]; omega)
theorem all_products_c {n : Nat} (hn : 6 ≤ n) {l : List Rat} {m : Nat} (h : ∀ q ∈ l, Od q) (h12 : l.length ≤ 6) (hm : m ≤ 100) (S : Store) : (kap P n).call "all_products" [.tup (l.map fr), .int m] [] S = .ok (fr (symQ l m)) S := by
  obtain ⟨n, rfl⟩ : ∃ m, n = m + 1 := ⟨n - 1, by omega⟩
  rw [call_eq fn_all_products (σ := [.tup (l.map fr), .int m]) (by rfl)]
  have ol : (oddsQ l).length = l.length := by simp [oddsQ]
  have pc := products_c (n := n) (by omega) (c := 8) (m := m) (l := oddsQ l) (d := .ref S.length) (S := S ++ [.lst ((oddsQ l).map fr)]) (.inr ⟨_, rfl, by simp⟩) (oddsO_nc h) (by omega) hm (by omega)
  have hl := (prodsQ_inv (c := 8) (m := m) (oddsO_nc h) (oddsQ l).length).1
  rw [List.take_length] at hl
  have hg : ((prodsQ m (oddsQ l)).map fr)[m]? = some (fr (symQ l m)) := getD_somep (by omega)
  simp [f_all_products, odds_row_od_c (n := n) (by omega) h (by omega)]
  rw [pc]
  simp
  rw [sub_ref (l := (prodsQ m (oddsQ l)).map fr) (by simp) hg]
  simp [end_val]
theorem can_come_c {n : Nat} (hn : 7 ≤ n) {l : List Rat} {m : Nat} (h : ∀ q ∈ l, Od q) (h12 : l.length ≤ 6) (hm : m ≤ 100) (h0 : symQ l m ≠ 0) (S : Store) : (kap P n).call "check_can_come" [.tup (l.map fr), .int m] [] S = .ok .non S := by
  obtain ⟨n, rfl⟩ : ∃ m, n = m + 1 := ⟨n - 1, by omega⟩
  rw [call_eq fn_check_can_come (σ := [.tup (l.map fr), .int m]) (by rfl)]
  simp [f_check_can_come, all_products_c (n := n) (by omega) h h12 hm, h0]
def othersQ (l : List Rat) (k : Nat) : List Rat := l.take k ++ l.drop (k + 1)
def shareQ (l : List Rat) (m k : Nat) : Rat := l.getD k 0 / (1 - l.getD k 0) * symQ (othersQ l k) (m - 1) / symQ l m
theorem othersQ_od {l : List Rat} (h : ∀ q ∈ l, Od q) (k : Nat) : ∀ q ∈ othersQ l k, Od q := fun q hq => by
  rcases List.mem_append.mp hq with hq | hq
  · exact h q (List.mem_of_mem_take hq)
  · exact h q (List.mem_of_mem_drop hq)
theorem od_at {l : List Rat} (h : ∀ q ∈ l, Od q) {k : Nat} (hk : k < l.length) : Od (l.getD k 0) := by
  rw [List.getD_eq_getElem?_getD, List.getElem?_eq_getElem hk]
  exact h _ (List.getElem_mem hk)
theorem share_in_c {n : Nat} (hn : 8 ≤ n) {l : List Rat} {m k : Nat} (h : ∀ q ∈ l, Od q) (h12 : l.length ≤ 6) (hm1 : 1 ≤ m) (hm : m ≤ 100) (hk : k < l.length) (h0 : 0 < symQ l m) (S : Store) : (kap P n).call "share_in" [.tup (l.map fr), .int m, .int k] [] S = .ok (fr (shareQ l m k)) S := by
  obtain ⟨n, rfl⟩ : ∃ m, n = m + 1 := ⟨n - 1, by omega⟩
  rw [call_eq fn_share_in (σ := [.tup (l.map fr), .int m, .int k]) (by rfl)]
  have em : (m : Int) - 1 = ((m - 1 : Nat) : Int) := by omega
  have ek : (k : Int) + 1 = ((k + 1 : Nat) : Int) := by omega
  have hoo := othersQ_od h k
  have hol : (othersQ l k).length ≤ 6 := by simp [othersQ]; omega
  have ap1 := fun S => all_products_c (n := n) (by omega) (m := m - 1) hoo hol (by omega) S
  have ap2 := fun S => all_products_c (n := n) (by omega) h h12 hm S
  have hok := od_at h hk
  have hg : ∀ S, subD (.tup (l.map fr)) (.int (k : Nat)) S = .ok (fr (l.getD k 0)) S := fun S => by rw [sub_tup, getD_somep hk]; rfl
  have hc1 : ∀ S, slD (.tup (l.map fr)) none (some ((k : Nat) : Int)) S = .ok (.tup ((l.take k).map fr)) S := fun S => by simp only [slD, cutD_take, List.map_take]
  have hc2 : ∀ S, slD (.tup (l.map fr)) (some ((k + 1 : Nat) : Int)) none S = .ok (.tup ((l.drop (k + 1)).map fr)) S := fun S => by simp only [slD, cutD_drop, List.map_drop]
  have had : ∀ S, binop .add (.tup ((l.take k).map fr)) (.tup ((l.drop (k + 1)).map fr)) S = .ok (.tup ((othersQ l k).map fr)) S := fun S => by
    rw [add_tup (by simp; omega), ← List.map_append]
    rfl
  have n1 := symQ_nc hoo hol (m - 1)
  have n2 := symQ_nc h h12 m
  have oc := fun S => odds_od_c (n := n) (by omega) hok S
  have no := hok.od
  have hdef : shareQ l m k = l.getD k 0 / (1 - l.getD k 0) * symQ (othersQ l k) (m - 1) / symQ l m := rfl
  rw [hdef]
  have mu := fun S => multiplied_c (n := n) (by omega) (no.sm (by omega)) (n1.sm (by omega)) S
  have dv := fun S => divided_c (n := n) (by omega) ((no.mul n1).sm (by omega)) (n2.sm (by omega)) h0 S
  generalize symQ (othersQ l k) (m - 1) = u1 at *
  generalize symQ l m = u2 at *
  generalize l.getD k 0 = v at *
  generalize v / (1 - v) = o at *
  generalize (l.take k).map fr = lt at *
  generalize (l.drop (k + 1)).map fr = ld at *
  generalize (othersQ l k).map fr = lo at *
  generalize ((m - 1 : Nat) : Int) = M at *
  generalize ((k + 1 : Nat) : Int) = K at *
  simp [f_share_in, hc1, hc2, had, ek, em, hg, oc, ap1, ap2, mu, dv, end_val0]
theorem given_share_c {n : Nat} (hn : 10 ≤ n) {l : List Rat} {m k : Nat} (h : ∀ q ∈ l, Od q) (h12 : l.length ≤ 6) (hm1 : 1 ≤ m) (hm : m ≤ 12) (hk : k < l.length) (h0 : 0 < symQ l m) (S : Store) :
    (kap P n).call "given_share" [.tup (l.map fr), .int m, .int k] [] S = .ok (fr (shareQ l m k)) S ∧ (kap P n).call "given_share" [.tup (l.map fr), .int m] [("moment", .int k)] S = .ok (fr (shareQ l m k)) S := by
  obtain ⟨n, rfl⟩ : ∃ m, n = m + 1 := ⟨n - 1, by omega⟩
  rw [call_eq fn_given_share (σ := [.tup (l.map fr), .int m, .int k]) (by rfl), call_eq fn_given_share (σ := [.tup (l.map fr), .int m, .int k]) (by rfl)]
  have hne : symQ l m ≠ 0 := by grind
  simp [f_given_share, check_row_c (n := n) (by omega) (by omega) (fun q hq => (h q hq).ok), check_some_c (n := n) (by omega) (i := m) (by omega) (by omega), check_moment_c (n := n) (by omega) (show (0 : Int) ≤ k by omega), check_moment_there_c (n := n) (by omega) (l := l.map fr) (i := k) (by simp; omega), can_come_c (n := n) (by omega) h h12 (by omega) hne, share_in_c (n := n) (by omega) h h12 hm1 (by omega) hk h0, end_val0]
theorem given_shares_c {n : Nat} (hn : 10 ≤ n) {l : List Rat} {m : Nat} (h : ∀ q ∈ l, Od q) (h12 : l.length ≤ 6) (hm1 : 1 ≤ m) (hm : m ≤ 12) (h0 : 0 < symQ l m) (S : Store) :
    (kap P n).call "given_shares" [.tup (l.map fr), .int m] [] S = .ok (.tup (((List.range l.length).map (shareQ l m)).map fr)) S ∧ (kap P n).call "given_shares" [.tup (l.map fr)] [("many", .int m)] S = .ok (.tup (((List.range l.length).map (shareQ l m)).map fr)) S := by
  obtain ⟨n, rfl⟩ : ∃ m, n = m + 1 := ⟨n - 1, by omega⟩
  rw [call_eq fn_given_shares (σ := [.tup (l.map fr), .int m]) (by rfl), call_eq fn_given_shares (σ := [.tup (l.map fr), .int m]) (by rfl)]
  have hne : symQ l m ≠ 0 := by grind
  simp [f_given_shares, check_row_c (n := n) (by omega) (by omega) (fun q hq => (h q hq).ok), check_some_c (n := n) (by omega) (i := m) (by omega) (by omega), can_come_c (n := n) (by omega) h h12 (by omega) hne]
  rw [srcB_rng (by omega)]
  simp
  generalize hC : lcB _ _ _ _ _ _ _ _ _ = C
  have e0 := lc_map S hC (enc := fun (k : Nat) => .int k) (xs := List.range l.length) (g := fun k => fr (shareQ l m k)) rfl (by simp; omega) (fun _ _ => rfl) (fun k hk => ⟨rfl, _, rfl, fun S' _ => by
    simp [noClo, wipeD, share_in_c (n := n) (by omega) h h12 hm1 (by omega) (by simpa using hk) h0]⟩)
  subst e0
  simp [tuple_ref]
  exact end_val (by simp [flats_all]) (by simp [unders_all])
def courseQ (l : List Rat) (c : List Nat) : Rat := prodQ (c.map fun k => l.getD k 0 / (1 - l.getD k 0)) / symQ l c.length
theorem odds_at_nc {l : List Rat} (h : ∀ q ∈ l, Od q) (k : Nat) : Nc 8 (l.getD k 0 / (1 - l.getD k 0)) := by
  rw [List.getD_eq_getElem?_getD]
  cases hq : l[k]? with
  | none =>
    have : ((none : Option Rat).getD 0 / (1 - (none : Option Rat).getD 0)) = 0 := by rw [Rat.div_def]; exact Rat.zero_mul _
    rw [this]
    exact nc0 8
  | some q => exact (h q (List.mem_of_getElem? hq)).od
theorem given_course_c {n : Nat} (hn : 10 ≤ n) {l : List Rat} {c : List Nat} (h : ∀ q ∈ l, Od q) (h12 : l.length ≤ 6) (hc : Crs l.length c) (hcl : c.length ≤ 6) (h0 : 0 < symQ l c.length) (S : Store) :
    (kap P n).call "given_course" [.tup (l.map fr), .tup (nats c)] [] S = .ok (fr (courseQ l c)) S ∧ (kap P n).call "given_course" [.tup (l.map fr)] [("course", .tup (nats c))] S = .ok (fr (courseQ l c)) S := by
  obtain ⟨n, rfl⟩ : ∃ m, n = m + 1 := ⟨n - 1, by omega⟩
  rw [call_eq fn_given_course (σ := [.tup (l.map fr), .tup (nats c)]) (by rfl), call_eq fn_given_course (σ := [.tup (l.map fr), .tup (nats c)]) (by rfl)]
  have hne : symQ l c.length ≠ 0 := by grind
  have cc := fun S => check_course_c (n := n) (by omega) (l := l.map fr) (c := c) (by simp) (by simpa using hc) S
  rw [show D.tup (c.map fun (k : Nat) => .int k) = .tup (nats c) from rfl] at cc
  have can := fun S => can_come_c (n := n) (by omega) (m := c.length) h h12 (by omega) hne S
  have ap := fun S => all_products_c (n := n) (by omega) (m := c.length) h h12 (by omega) S
  simp [f_given_course, check_row_c (n := n) (by omega) (by omega) (fun q hq => (h q hq).ok), cc, can]
  generalize hC : lcB _ _ _ _ _ _ _ _ _ = C
  have e0 := lc_map S hC (enc := fun (k : Nat) => .int k) (xs := c) (g := fun k => fr (l.getD k 0 / (1 - l.getD k 0))) rfl (by omega) (fun _ _ => rfl) (fun k hk => ⟨rfl, _, rfl, fun S' _ => by
    have hkl : k < l.length := hc.2 k hk
    have hg : ∀ S, subD (.tup (l.map fr)) (.int (k : Nat)) S = .ok (fr (l.getD k 0)) S := fun S => by rw [sub_tup, getD_somep hkl]; rfl
    have oc := fun S => odds_od_c (n := n) (by omega) (od_at h hkl) S
    generalize l.getD k 0 = v at *
    simp [noClo, wipeD, hg, oc]⟩)
  subst e0
  have e2 : (c.map fun k => fr (l.getD k 0 / (1 - l.getD k 0))) = (c.map fun k => l.getD k 0 / (1 - l.getD k 0)).map fr := by simp [Function.comp_def]
  rw [e2]
  have hon : ∀ q ∈ c.map fun k => l.getD k 0 / (1 - l.getD k 0), Nc 8 q := fun q hq => by
    obtain ⟨k, _, rfl⟩ := List.mem_map.mp hq
    exact odds_at_nc h k
  have hol : (c.map fun k => l.getD k 0 / (1 - l.getD k 0)).length ≤ 6 := by simpa using hcl
  have hdef : courseQ l c = prodQ (c.map fun k => l.getD k 0 / (1 - l.getD k 0)) / symQ l c.length := rfl
  rw [hdef]
  have hpn := prod_nc' hon
  generalize (c.map fun k => l.getD k 0 / (1 - l.getD k 0)) = os at *
  have pr := product_c (n := n) (by omega) (l := os) (d := .ref S.length) (S := S ++ [.lst (os.map fr)]) (.inr ⟨_, rfl, by simp⟩) (fun q hq => (hon q hq).sm) (fun i => (prod_nc hon i).sm (by omega))
  have dv := fun S => divided_c (n := n) (by omega) (hpn.sm (by omega)) ((symQ_nc h h12 c.length).sm (by omega)) h0 S
  simp [pr, ap, dv, end_val]
def timQ (t : Nat) (q : Rat) : Rat := q / (1 - q) * (t : Rat) / (q / (1 - q) * (t : Rat) + 1)
theorem nat_nc {t : Nat} (ht : t ≤ 16) : Nc 4 (t : Rat) := by
  refine ⟨by simp, ?_⟩
  simp
  omega
theorem timQ_od {t : Nat} (ht : t ≤ 16) {q : Rat} (hq : Ch q) : Od (timQ t q) ∧ timQ t q / (1 - timQ t q) = q / (1 - q) * (t : Rat) := by
  have ho : Nc 8 (q / (1 - q) * (t : Rat)) := hq.od.mul (nat_nc ht)
  have h1 : 0 ≤ q / (1 - q) := by
    have : 0 < 1 - q := by have := hq.hi; grind
    rw [Rat.div_def]
    exact Rat.mul_nonneg hq.lo (Rat.le_of_lt (Rat.inv_pos.mpr this))
  have h2 : (0 : Rat) ≤ (t : Rat) := by
    have := Rat.natCast_nonneg (a := t)
    exact this
  exact od_of ho (Rat.mul_nonneg h1 h2)
theorem timed_in_c {n : Nat} (hn : 5 ≤ n) {q : Rat} {t : Nat} (hq : Ch q) (ht : t ≤ 16) (S : Store) : (kap P n).call "timed_in" [fr q, .int t] [] S = .ok (fr (timQ t q)) S := by
  obtain ⟨n, rfl⟩ : ∃ m, n = m + 1 := ⟨n - 1, by omega⟩
  rw [call_eq fn_timed_in (σ := [fr q, .int t]) (by rfl)]
  have ho : Nc 8 (q / (1 - q) * (t : Rat)) := hq.od.mul (nat_nc ht)
  have h1 : 0 ≤ q / (1 - q) * (t : Rat) := by
    have h1 : 0 ≤ q / (1 - q) := by
      have : 0 < 1 - q := by have := hq.hi; grind
      rw [Rat.div_def]
      exact Rat.mul_nonneg hq.lo (Rat.le_of_lt (Rat.inv_pos.mpr this))
    exact Rat.mul_nonneg h1 (Rat.natCast_nonneg (a := t))
  have h2 : 0 < q / (1 - q) * (t : Rat) + 1 := by grind
  have n9 : Nc 9 (q / (1 - q) * (t : Rat) + 1) := ho.add (nc1 8) (by omega) (by omega)
  have mu := fun S => multiplied_c (n := n) (by omega) hq.od.sm (nat_nc ht).sm S
  have ad := fun S => added_c (n := n) (by omega) ho.sm (nc1 0).sm S
  have dv := fun S => divided_c (n := n) (by omega) ho.sm n9.sm h2 S
  have oc := fun S => odds_od_c (n := n) (by omega) hq.to_od S
  have wh := fun S => whole_fr_c (n := n) (by omega) t S
  have hdef : timQ t q = q / (1 - q) * (t : Rat) / (q / (1 - q) * (t : Rat) + 1) := rfl
  rw [hdef]
  generalize q / (1 - q) * (t : Rat) / (q / (1 - q) * (t : Rat) + 1) = r at *
  generalize q / (1 - q) * (t : Rat) = o at *
  simp [f_timed_in, oc, wh, mu, ad, dv, end_val0]
theorem timed_c {n : Nat} (hn : 9 ≤ n) {l : List Rat} {t : Nat} (h : ∀ q ∈ l, Ch q) (h12 : l.length ≤ 12) (ht1 : 1 ≤ t) (ht : t ≤ 16) (S : Store) :
    (kap P n).call "timed" [.tup (l.map fr), .int t] [] S = .ok (.tup ((l.map (timQ t)).map fr)) S ∧ (kap P n).call "timed" [.tup (l.map fr)] [("number", .int t)] S = .ok (.tup ((l.map (timQ t)).map fr)) S := by
  obtain ⟨n, rfl⟩ : ∃ m, n = m + 1 := ⟨n - 1, by omega⟩
  rw [call_eq fn_timed (σ := [.tup (l.map fr), .int t]) (by rfl), call_eq fn_timed (σ := [.tup (l.map fr), .int t]) (by rfl)]
  simp [f_timed, check_row_c (n := n) (by omega) h12 (fun q hq => (h q hq).ok), check_number3_c (n := n) (by omega) (i := t) (j := 1) (k := 99) (by omega) (by omega)]
  generalize hC : lcB _ _ _ _ _ _ _ _ _ = C
  have e0 := lc_map S hC (enc := fr) (xs := l) (g := fun q => fr (timQ t q)) rfl (by omega) (fun _ _ => rfl) (fun q hq => ⟨by simp, _, rfl, fun S' _ => by
    simp [noClo, wipeD, timed_in_c (n := n) (by omega) (h q hq) ht]⟩)
  subst e0
  simp [tuple_ref]
  exact end_val (by simp [flats_all]) (by simp [unders_all])
end Lw
set_option Elab.async false
set_option linter.all false
set_option maxRecDepth 100000
set_option exponentiation.threshold 20000
set_option maxHeartbeats 1000000
namespace Lw
open PySem PySem.Spec PyProof.Rows L2 Ev Sp
/-- the mean of the moments -/
def amnQ (l : List Rat) (m : Nat) : Rat := sumQ ((List.range l.length).map fun (k : Nat) => (k : Rat) * aftQ l m k) / sumQ ((List.range l.length).map (aftQ l m))
theorem srcB_enum_ref {S : Store} {a : Nat} {l : List D} (h : lstOf S a = some l) : srcB .enumerate [.ref a] S = some ⟨l.mapIdx fun i x => .tup [.int i, x], [(a, l)]⟩ := by
  simp [srcB, h]
theorem mapIdx_range {α : Type} (f : Nat → D) (g : Nat → D → α) (N : Nat) : ((List.range N).map f).mapIdx g = (List.range N).map fun k => g k (f k) := by
  apply List.ext_getElem
  · simp
  · intro i h1 h2
    simp
theorem after_mean_c {n : Nat} (hn : 10 ≤ n) {l : List Rat} {m : Nat} (hs : ∀ q ∈ l, Ch q) (h12 : l.length ≤ 6) (hm : 1 ≤ m) (hm2 : m ≤ 12) (h0 : 0 < sumQ ((List.range l.length).map (aftQ l m))) (S : Store) :
    (kap P n).call "after_mean" [.tup (l.map fr), .int m] [] S = .ok (fr (amnQ l m)) S ∧ (kap P n).call "after_mean" [.tup (l.map fr)] [("many", .int m)] S = .ok (fr (amnQ l m)) S := by
  obtain ⟨n, rfl⟩ : ∃ m, n = m + 1 := ⟨n - 1, by omega⟩
  rw [call_eq fn_after_mean (σ := [.tup (l.map fr), .int m]) (by rfl), call_eq fn_after_mean (σ := [.tup (l.map fr), .int m]) (by rfl)]
  have hne : sumQ ((List.range l.length).map (aftQ l m)) ≠ 0 := by grind
  have an : ∀ q ∈ (List.range l.length).map (aftQ l m), Nc 25 q := fun q hq => by
    obtain ⟨k, _, rfl⟩ := List.mem_map.mp hq
    exact aftQ_nc hs (by omega) m k
  have al : ((List.range l.length).map (aftQ l m)).length ≤ 6 := by simp; omega
  have mn : ∀ q ∈ (List.range l.length).map (fun (k : Nat) => (k : Rat) * aftQ l m k), Nc 29 q := fun q hq => by
    obtain ⟨k, hk, rfl⟩ := List.mem_map.mp hq
    have hk' : k < l.length := by simpa using hk
    exact ((nat_nc (t := k) (by omega)).mul (aftQ_nc hs (by omega) m k)).mono (by omega)
  have ml : ((List.range l.length).map (fun (k : Nat) => (k : Rat) * aftQ l m k)).length ≤ 6 := by simp; omega
  have hdef : amnQ l m = sumQ ((List.range l.length).map fun (k : Nat) => (k : Rat) * aftQ l m k) / sumQ ((List.range l.length).map (aftQ l m)) := rfl
  have ain := fun S => afters_in_c (n := n) (by omega) (l := l) (m := m) hs (by omega) hm S
  have cr := fun S => check_row_c (n := n) (by omega) (S := S) (l := l) (by omega) (fun q hq => (hs q hq).ok)
  have cm := fun S => check_many1_c (n := n) (by omega) (i := m) (j := 1) (by omega) (by omega) S
  have hmi : (((List.range l.length).map (aftQ l m)).map fr).mapIdx (fun i x => D.tup [.int i, x]) = (List.range l.length).map fun (k : Nat) => D.tup [.int k, fr (aftQ l m k)] := by
    rw [List.map_map, mapIdx_range]
    rfl
  have hg2 : ((List.range l.length).map fun (k : Nat) => fr ((k : Rat) * aftQ l m k)) = ((List.range l.length).map fun (k : Nat) => (k : Rat) * aftQ l m k).map fr := by simp [Function.comp_def]
  rw [hdef]
  have st : ∀ k ∈ List.range l.length, ∀ S, (kap P n).call "multiplied" [fr (k : Rat), fr (aftQ l m k)] [] S = .ok (fr ((k : Rat) * aftQ l m k)) S := fun k hk S => by
    have hk' : k < l.length := by simpa using hk
    exact multiplied_c (n := n) (by omega) (nat_nc (t := k) (by omega)).sm ((aftQ_nc hs (by omega) m k).sm (by omega)) S
  generalize hAf : (List.range l.length).map (aftQ l m) = A at *
  generalize hMs : (List.range l.length).map (fun (k : Nat) => (k : Rat) * aftQ l m k) = M at *
  have sA := fun (S' : Store) (h : lstOf S' S.length = some (A.map fr)) => sum_c (n := n) (by omega) (l := A) (d := .ref S.length) (S := S') (.inr ⟨_, rfl, h⟩) (fun q hq => (an q hq).sm (by omega)) (fun i => ((sum_nc (k := 25) an i).sm (by omega)))
  have sM := fun (S' : Store) (h : lstOf S' (S.length + 1) = some (M.map fr)) => sum_c (n := n) (by omega) (l := M) (d := .ref (S.length + 1)) (S := S') (.inr ⟨_, rfl, h⟩) (fun q hq => (mn q hq).sm (by omega)) (fun i => ((sum_nc (k := 29) mn i).sm (by omega)))
  have dv := fun S => divided_c (n := n) (by omega) ((sum_nc' mn).sm (by omega)) ((sum_nc' an).sm (by omega)) h0 S
  have s1 := sA (S ++ [.lst (A.map fr)]) (by simp)
  simp [f_after_mean, cr, cm, ain, s1, hne]
  rw [srcB_enum_ref (l := A.map fr) (by simp), hmi]
  simp
  generalize hC : lcB _ _ _ _ _ _ _ _ _ = C
  have e0 := lc_map (src := ⟨(List.range l.length).map fun (k : Nat) => D.tup [.int k, fr (aftQ l m k)], [(S.length, A.map fr)]⟩) (S ++ [.lst (A.map fr)]) hC (enc := fun (k : Nat) => .tup [.int k, fr (aftQ l m k)]) (xs := List.range l.length) (g := fun (k : Nat) => fr ((k : Rat) * aftQ l m k)) rfl (by simp; omega) (fun S' hp => by simp [Src.ok, lstOf_pre (show lstOf (S ++ [.lst (A.map fr)]) S.length = some (A.map fr) by simp) hp, D.eqbs_refl]) (fun k hk => ⟨by simp, _, rfl, fun S' _ => by
    simp [noClo, wipeD, whole_fr_c (n := n) (by omega), st k hk]⟩)
  subst e0
  rw [hg2]
  have s2 := sA (S ++ [.lst (A.map fr)] ++ [.lst (M.map fr)]) (by simp)
  have s3 := sM (S ++ [.lst (A.map fr)] ++ [.lst (M.map fr)]) (by simp)
  simp only [List.append_assoc, List.cons_append, List.nil_append] at s2 s3
  simp [s2, s3, dv]
  exact end_val (by simp) (by simp)
end Lw
set_option Elab.async false
set_option linter.all false
set_option maxRecDepth 100000
set_option exponentiation.threshold 20000
set_option maxHeartbeats 1000000
namespace Lw
open PySem PySem.Spec PyProof.Rows L2 Ev Sp
/-- courses alone -/
def crsN : Nat → List (List Nat)
  | 0 => [[]]
  | k + 1 => (crsN k).flatMap fun c => [c, c ++ [k]]
theorem crsN_eq (f : Nat → Rat) (k : Nat) : (coursesN f k).map (·.1) = crsN k := by
  induction k with
  | zero => rfl
  | succ k ih =>
    rw [coursesN, crsN, ← ih, List.map_flatMap, List.flatMap_map]
    rfl
/-- the chance of some courses -/
def wsum (t : List Nat → Bool) : List (List Nat × Rat) → Rat
  | [] => 0
  | x :: r => (if t x.1 then x.2 else 0) + wsum t r
theorem wsum_filter (t : List Nat → Bool) (l : List (List Nat × Rat)) : sumQ ((l.filter fun x => t x.1).map (·.2)) = wsum t l := by
  induction l with
  | nil => rfl
  | cons x l ih =>
    rw [wsum, List.filter_cons]
    cases t x.1
    · simpa [Rat.zero_add] using ih
    · simp [sumQ_cons, ih]
theorem wsum_congr {t u : List Nat → Bool} {l : List (List Nat × Rat)} (h : ∀ x ∈ l, t x.1 = u x.1) : wsum t l = wsum u l := by
  induction l with
  | nil => rfl
  | cons x l ih => rw [wsum, wsum, h x (by simp), ih fun y hy => h y (by simp [hy])]
theorem wsum_app (t : List Nat → Bool) (l m : List (List Nat × Rat)) : wsum t (l ++ m) = wsum t l + wsum t m := by
  induction l with
  | nil => simp [wsum, Rat.zero_add]
  | cons x l ih => simp only [List.cons_append, wsum, ih]; grind
/-- one moment more -/
theorem wsum_step {t u v : List Nat → Bool} {k : Nat} {q : Rat} {l : List (List Nat × Rat)} (h : ∀ x ∈ l, t x.1 = u x.1 ∧ t (x.1 ++ [k]) = v x.1) : wsum t (l.flatMap (stepK k q)) = wsum u l * (1 - q) + wsum v l * q := by
  induction l with
  | nil => simp [wsum]; grind
  | cons x l ih =>
    obtain ⟨h1, h2⟩ := h x (by simp)
    rw [List.flatMap_cons, wsum_app, ih fun y hy => h y (by simp [hy])]
    simp only [stepK, wsum, h1, h2]
    cases u x.1 <;> cases v x.1 <;> simp <;> grind
theorem crsN_lt {k : Nat} : ∀ c ∈ crsN k, ∀ i ∈ c, i < k := by
  induction k with
  | zero => intro c hc i hi; simp [crsN] at hc; subst hc; simp at hi
  | succ k ih =>
    intro c hc i hi
    simp only [crsN, List.mem_flatMap] at hc
    obtain ⟨d, hd, hc⟩ := hc
    simp at hc
    rcases hc with rfl | rfl
    · have := ih c hd i hi; omega
    · rcases List.mem_append.mp hi with h | h
      · have := ih d hd i h; omega
      · simp at h; omega
theorem crs_mem {f : Nat → Rat} {k : Nat} {x : List Nat × Rat} (hx : x ∈ coursesN f k) : x.1 ∈ crsN k := by
  rw [← crsN_eq f k]
  exact List.mem_map_of_mem hx
theorem wsum_zero (m : List (List Nat × Rat)) : wsum (fun _ => false) m = 0 := by
  induction m with
  | nil => rfl
  | cons a m ih => rw [wsum, ih]; simp [Rat.add_zero]
def esQ (f : Nat → Rat) : Nat → Nat → Rat
  | 0, 0 => 1
  | 0, _ + 1 => 0
  | k + 1, 0 => esQ f k 0
  | k + 1, m + 1 => esQ f k (m + 1) + f k * esQ f k m
def noQ (f : Nat → Rat) : Nat → Rat
  | 0 => 1
  | k + 1 => noQ f k * (1 - f k)
def justT (m : Nat) (c : List Nat) : Bool := decide (c.length = m)
def atT (j m : Nat) (c : List Nat) : Bool := decide (c.length = m) && decide (j ∈ c)
theorem esQ_congr {f g : Nat → Rat} {k : Nat} (h : ∀ j < k, f j = g j) : ∀ m, esQ f k m = esQ g k m := by
  induction k with
  | zero => intro m; cases m <;> rfl
  | succ k ih =>
    intro m
    have ih := ih fun j hj => h j (by omega)
    cases m with
    | zero => exact ih 0
    | succ m => rw [esQ, esQ, ih, ih, h k (by omega)]
theorem just_0 {f : Nat → Rat} {k : Nat} : wsum (justT 0) (coursesN f (k + 1)) = wsum (justT 0) (coursesN f k) * (1 - f k) := by
  have := wsum_step (t := justT 0) (u := justT 0) (v := fun _ => false) (k := k) (q := f k) (l := coursesN f k) (fun x _ => ⟨rfl, by simp [justT]⟩)
  rw [coursesN, this, wsum_zero]
  grind
theorem just_s {f : Nat → Rat} {k m : Nat} : wsum (justT (m + 1)) (coursesN f (k + 1)) = wsum (justT (m + 1)) (coursesN f k) * (1 - f k) + wsum (justT m) (coursesN f k) * f k := by
  have := wsum_step (t := justT (m + 1)) (u := justT (m + 1)) (v := justT m) (k := k) (q := f k) (l := coursesN f k) (fun x _ => ⟨rfl, by simp [justT]⟩)
  rw [coursesN, this]
theorem one_odds {q : Rat} (h : 1 - q ≠ 0) : (1 - q) * (q / (1 - q)) = q := by
  rw [Rat.div_def, Rat.mul_comm q, ← Rat.mul_assoc, Rat.mul_inv_cancel _ h, Rat.one_mul]
theorem wsum_just {f : Nat → Rat} {k : Nat} (h : ∀ j < k, 1 - f j ≠ 0) : ∀ m, wsum (justT m) (coursesN f k) = noQ f k * esQ (fun j => f j / (1 - f j)) k m := by
  induction k with
  | zero =>
    intro m
    cases m with
    | zero => simp [coursesN, wsum, justT, noQ, esQ, Rat.add_zero, Rat.mul_one]
    | succ m => simp [coursesN, wsum, justT, noQ, esQ, Rat.add_zero, Rat.mul_zero]
  | succ k ih =>
    intro m
    have ih := ih fun j hj => h j (by omega)
    have ho := one_odds (h k (by omega))
    cases m with
    | zero => rw [just_0, ih, noQ, esQ]; grind
    | succ m =>
      rw [just_s, ih, ih, noQ, esQ]
      generalize esQ (fun j => f j / (1 - f j)) k (m + 1) = a
      generalize esQ (fun j => f j / (1 - f j)) k m = b
      generalize f k / (1 - f k) = r at *
      grind
/-- a moment left out -/
def outF (f : Nat → Rat) (j i : Nat) : Rat := if i = j then 0 else f i
theorem at_0 {f : Nat → Rat} {j : Nat} : ∀ k, wsum (atT j 0) (coursesN f k) = 0 := fun k => by
  have : wsum (atT j 0) (coursesN f k) = wsum (fun _ => false) (coursesN f k) := wsum_congr fun x _ => by
    simp only [atT]
    cases hx : x.1 with
    | nil => simp
    | cons a b => simp
  rw [this, wsum_zero]
theorem at_s {f : Nat → Rat} {j k m : Nat} (h : j < k) : wsum (atT j (m + 1)) (coursesN f (k + 1)) = wsum (atT j (m + 1)) (coursesN f k) * (1 - f k) + wsum (atT j m) (coursesN f k) * f k := by
  have := wsum_step (t := atT j (m + 1)) (u := atT j (m + 1)) (v := atT j m) (k := k) (q := f k) (l := coursesN f k) (fun x _ => ⟨rfl, by
    have : j ≠ k := by omega
    simp [atT, this]⟩)
  rw [coursesN, this]
theorem at_k {f : Nat → Rat} {k m : Nat} : wsum (atT k (m + 1)) (coursesN f (k + 1)) = wsum (justT m) (coursesN f k) * f k := by
  have := wsum_step (t := atT k (m + 1)) (u := fun _ => false) (v := justT m) (k := k) (q := f k) (l := coursesN f k) (fun x hx => by
    have hkx : k ∉ x.1 := fun h => by have := crsN_lt _ (crs_mem hx) k h; omega
    simp [atT, justT, hkx])
  rw [coursesN, this, wsum_zero]
  grind
theorem wsum_at {f : Nat → Rat} {j : Nat} {k : Nat} (h : ∀ j < k, 1 - f j ≠ 0) (hj : j < k) : ∀ m, wsum (atT j (m + 1)) (coursesN f k) = noQ f k * (f j / (1 - f j) * esQ (outF (fun j => f j / (1 - f j)) j) k m) := by
  induction k with
  | zero => omega
  | succ k ih =>
    intro m
    have h' : ∀ j < k, 1 - f j ≠ 0 := fun j hj => h j (by omega)
    have ho := one_odds (h k (by omega))
    by_cases hjk : j = k
    · subst hjk
      have e : esQ (outF (fun j => f j / (1 - f j)) j) (j + 1) m = esQ (fun j => f j / (1 - f j)) j m := by
        have e1 := esQ_congr (f := outF (fun j => f j / (1 - f j)) j) (g := fun j => f j / (1 - f j)) (k := j) (fun i hi => by simp [outF, show i ≠ j by omega])
        cases m with
        | zero => rw [esQ, e1]
        | succ m =>
          have e0 : outF (fun j => f j / (1 - f j)) j j = 0 := by simp [outF]
          rw [esQ, e1, e0, Rat.zero_mul, Rat.add_zero]
      rw [at_k, wsum_just h', noQ, e]
      generalize esQ (fun j => f j / (1 - f j)) j m = b
      generalize f j / (1 - f j) = r at *
      grind
    · have ih := ih h' (by omega)
      have e1 : outF (fun j => f j / (1 - f j)) j k = f k / (1 - f k) := by simp [outF, show k ≠ j by omega]
      rw [at_s (by omega), ih]
      cases m with
      | zero =>
        rw [at_0, noQ, esQ]
        grind
      | succ m =>
        rw [ih, noQ, esQ, e1]
        generalize esQ (outF (fun j => f j / (1 - f j)) j) k (m + 1) = a
        generalize esQ (outF (fun j => f j / (1 - f j)) j) k m = b
        generalize f j / (1 - f j) = u at *
        generalize f k / (1 - f k) = r at *
        grind
theorem noQ_ne {f : Nat → Rat} {k : Nat} (h : ∀ j < k, 1 - f j ≠ 0) : noQ f k ≠ 0 := by
  induction k with
  | zero => simp [noQ]
  | succ k ih =>
    intro e
    rw [noQ] at e
    rcases Rat.mul_eq_zero.mp e with e | e
    · exact ih (fun j hj => h j (by omega)) e
    · exact h k (by omega) e
end Lw
set_option Elab.async false
set_option linter.all false
set_option maxRecDepth 100000
set_option exponentiation.threshold 20000
set_option maxHeartbeats 1000000
namespace Lw
open PySem PySem.Spec PyProof.Rows L2 Ev Sp
theorem prods_es {m : Nat} {l : List Rat} {i : Nat} (hi : i ≤ l.length) : ∀ j, (prodsQ m (l.take i)).getD j 0 = if j ≤ m then esQ (fun k => l.getD k 0) i j else 0 := by
  induction i with
  | zero =>
    intro j
    cases j with
    | zero => simp [prodsQ, esQ]
    | succ j => simp [prodsQ, esQ, List.getElem?_replicate]; intros; split <;> rfl
  | succ i ih =>
    intro j
    have ih := ih (by omega)
    have hx : l[i]? = some (l.getD i 0) := by
      rw [List.getD_eq_getElem?_getD, List.getElem?_eq_getElem (by omega)]
      rfl
    rw [prodsQ_succ hx, stepP]
    cases j with
    | zero =>
      have h0 : ∀ (f : Nat → Rat) k, esQ f k 0 = 1 := by
        intro f k
        induction k with
        | zero => rfl
        | succ k ih => rw [esQ, ih]
      simp [h0]
    | succ j =>
      rw [List.getD_cons_succ, esQ]
      by_cases hj : j < m
      · have e : ((List.range m).map fun k => (prodsQ m (l.take i)).getD (k + 1) 0 + l.getD i 0 * (prodsQ m (l.take i)).getD k 0).getD j 0 = (prodsQ m (l.take i)).getD (j + 1) 0 + l.getD i 0 * (prodsQ m (l.take i)).getD j 0 := by
          rw [List.getD_eq_getElem?_getD, List.getElem?_map, List.getElem?_range hj]
          rfl
        rw [e, ih, ih, if_pos (by omega), if_pos (by omega), if_pos (by omega)]
      · have e : ((List.range m).map fun k => (prodsQ m (l.take i)).getD (k + 1) 0 + l.getD i 0 * (prodsQ m (l.take i)).getD k 0).getD j 0 = 0 := by
          rw [List.getD_eq_getElem?_getD, List.getElem?_eq_none (by simp; omega)]
          rfl
        rw [e, if_neg (by omega)]
theorem prods_get {m : Nat} {l : List Rat} : (prodsQ m l).getD m 0 = esQ (fun k => l.getD k 0) l.length m := by
  have := prods_es (m := m) (l := l) (i := l.length) (Nat.le_refl _) m
  rwa [List.take_length, if_pos (Nat.le_refl m)] at this
theorem odds_getD (l : List Rat) (k : Nat) : (oddsQ l).getD k 0 = l.getD k 0 / (1 - l.getD k 0) := by
  rw [oddsQ, List.getD_eq_getElem?_getD, List.getD_eq_getElem?_getD, List.getElem?_map]
  cases l[k]? with
  | none => simp [Rat.div_def, Rat.zero_mul]
  | some q => rfl
theorem symQ_es (l : List Rat) (m : Nat) : symQ l m = esQ (fun k => l.getD k 0 / (1 - l.getD k 0)) l.length m := by
  rw [symQ, prods_get]
  have : (oddsQ l).length = l.length := by simp [oddsQ]
  rw [this]
  exact esQ_congr (fun j _ => odds_getD l j) m
/-- by a list, the moments of which have been left out -/
theorem es_out (f : Nat → Rat) (j : Nat) : ∀ k, j ≤ k → ∀ m, esQ (outF f j) (k + 1) m = esQ (fun i => f (if i < j then i else i + 1)) k m := by
  intro k
  induction k with
  | zero =>
    intro hj m
    have : j = 0 := by omega
    subst this
    cases m with
    | zero => rfl
    | succ m => cases m <;> simp [esQ, outF, Rat.zero_mul, Rat.add_zero, Rat.mul_zero]
  | succ k ih =>
    intro hj m
    by_cases h : j = k + 1
    · subst h
      have e0 : outF f (k + 1) (k + 1) = 0 := by simp [outF]
      have e1 := esQ_congr (f := outF f (k + 1)) (g := fun i => f (if i < k + 1 then i else i + 1)) (k := k + 1) (fun i hi => by simp [outF, show i ≠ k + 1 by omega, hi])
      cases m with
      | zero => rw [esQ, e1]
      | succ m => rw [esQ, e1, e0, Rat.zero_mul, Rat.add_zero]
    · have ih := ih (by omega)
      have e0 : outF f j (k + 1) = f (if k < j then k else k + 1) := by simp [outF, show k + 1 ≠ j by omega, show ¬ k < j by omega]
      cases m with
      | zero => rw [esQ, ih, esQ]
      | succ m => rw [esQ, ih, ih, e0]; rfl
theorem others_getD {l : List Rat} {j : Nat} (hj : j < l.length) (i : Nat) : (othersQ l j).getD i 0 = l.getD (if i < j then i else i + 1) 0 := by
  rw [othersQ, List.getD_eq_getElem?_getD, List.getD_eq_getElem?_getD]
  by_cases h : i < j
  · rw [List.getElem?_append_left (by simp; omega), List.getElem?_take_of_lt h, if_pos h]
  · rw [List.getElem?_append_right (by simp; omega), List.getElem?_drop, if_neg h]
    have : j + 1 + (i - (l.take j).length) = i + 1 := by simp; omega
    rw [this]
theorem sym_others {l : List Rat} {j : Nat} (hj : j < l.length) (m : Nat) : symQ (othersQ l j) m = esQ (outF (fun k => l.getD k 0 / (1 - l.getD k 0)) j) l.length m := by
  obtain ⟨n, hn⟩ : ∃ n, l.length = n + 1 := ⟨l.length - 1, by omega⟩
  have hl : (othersQ l j).length = n := by simp [othersQ]; omega
  rw [symQ_es, hl, hn, es_out _ _ n (by omega)]
  exact esQ_congr (fun i _ => by rw [others_getD hj]) m
/-- shares if just so many come are those of all courses -/
theorem share_eq {l : List Rat} {m j : Nat} (h : ∀ k < l.length, 1 - l.getD k 0 ≠ 0) (hj : j < l.length) (hm : 1 ≤ m) : wsum (atT j m) (coursesN (fun k => l.getD k 0) l.length) / wsum (justT m) (coursesN (fun k => l.getD k 0) l.length) = shareQ l m j := by
  obtain ⟨m, rfl⟩ : ∃ n, m = n + 1 := ⟨m - 1, by omega⟩
  rw [wsum_at h hj, wsum_just h, shareQ, sym_others hj, symQ_es]
  have hn := noQ_ne h
  show _ = l.getD j 0 / (1 - l.getD j 0) * _ / _
  simp only [Nat.add_sub_cancel]
  generalize noQ (fun k => l.getD k 0) l.length = N at *
  generalize esQ (fun j => l.getD j 0 / (1 - l.getD j 0)) l.length (m + 1) = e
  generalize l.getD j 0 / (1 - l.getD j 0) * esQ (outF (fun j => l.getD j 0 / (1 - l.getD j 0)) j) l.length m = u
  rw [Rat.div_def, Rat.div_def, Rat.inv_mul_rev]
  have : N * u * (e⁻¹ * N⁻¹) = (N * N⁻¹) * (u * e⁻¹) := by grind
  rw [this, Rat.mul_inv_cancel _ hn, Rat.one_mul]
theorem just_ne {l : List Rat} {m : Nat} (h : ∀ k < l.length, 1 - l.getD k 0 ≠ 0) : wsum (justT m) (coursesN (fun k => l.getD k 0) l.length) = 0 ↔ symQ l m = 0 := by
  rw [wsum_just h, symQ_es]
  have hn := noQ_ne h
  constructor
  · intro e
    rcases Rat.mul_eq_zero.mp e with e | e
    · exact absurd e hn
    · exact e
  · intro e
    rw [e, Rat.mul_zero]
end Lw
set_option Elab.async false
set_option linter.all false
set_option maxRecDepth 100000
set_option exponentiation.threshold 20000
set_option maxHeartbeats 1000000
namespace Lw
open PySem PySem.Spec PyProof.Rows L2 Ev Sp
def cnQ (f : Nat → Rat) : Nat → Nat → Rat
  | 0, 0 => 1
  | 0, _ + 1 => 0
  | k + 1, 0 => cnQ f k 0 * (1 - f k)
  | k + 1, m + 1 => cnQ f k (m + 1) * (1 - f k) + cnQ f k m * f k
theorem just_cn (f : Nat → Rat) (k : Nat) : ∀ m, wsum (justT m) (coursesN f k) = cnQ f k m := by
  induction k with
  | zero => intro m; cases m <;> simp [coursesN, wsum, justT, cnQ, Rat.add_zero]
  | succ k ih =>
    intro m
    cases m with
    | zero => rw [just_0, ih, cnQ]
    | succ m => rw [just_s, ih, ih, cnQ]
theorem cnQ_congr {f g : Nat → Rat} {k : Nat} (h : ∀ j < k, f j = g j) : ∀ m, cnQ f k m = cnQ g k m := by
  induction k with
  | zero => intro m; cases m <;> rfl
  | succ k ih =>
    intro m
    have ih := ih fun j hj => h j (by omega)
    cases m with
    | zero => rw [cnQ, cnQ, ih, h k (by omega)]
    | succ m => rw [cnQ, cnQ, ih, ih, h k (by omega)]
theorem stepC_getD (f : List Rat) (q : Rat) (m : Nat) : (stepC f q).getD m 0 = (match m with | 0 => 0 | m + 1 => f.getD m 0 * q) + f.getD m 0 * (1 - q) := by
  have h1 : ∀ m, (f.map (· * q)).getD m 0 = f.getD m 0 * q := fun m => by
    rw [List.getD_eq_getElem?_getD, List.getD_eq_getElem?_getD, List.getElem?_map]
    cases f[m]? <;> simp [Rat.zero_mul]
  have h2 : ∀ m, (f.map (· * (1 - q)) ++ [0]).getD m 0 = f.getD m 0 * (1 - q) := fun m => by
    rw [List.getD_eq_getElem?_getD, List.getD_eq_getElem?_getD]
    by_cases hm : m < f.length
    · rw [List.getElem?_append_left (by simpa using hm), List.getElem?_map, List.getElem?_eq_getElem hm]
      rfl
    · rw [List.getElem?_append_right (by simpa using hm), List.getElem?_eq_none (by omega : f.length ≤ m)]
      cases h : m - (f.map (· * (1 - q))).length with
      | zero => simp [Rat.zero_mul]
      | succ j => simp [Rat.zero_mul]
  have hz : (stepC f q).getD m 0 = (0 :: f.map (· * q)).getD m 0 + (f.map (· * (1 - q)) ++ [0]).getD m 0 := by
    unfold stepC
    rw [List.getD_eq_getElem?_getD, List.getD_eq_getElem?_getD, List.getD_eq_getElem?_getD]
    by_cases hm : m < f.length + 1
    · rw [List.getElem?_eq_getElem (by simpa using hm), List.getElem?_eq_getElem (by simpa using hm), List.getElem?_eq_getElem (by simpa using hm)]
      simp
    · rw [List.getElem?_eq_none (by simp; omega), List.getElem?_eq_none (by simp; omega), List.getElem?_eq_none (by simp; omega)]
      simp [Rat.add_zero]
  rw [hz, h2]
  cases m with
  | zero => rfl
  | succ m => rw [List.getD_cons_succ, h1]
theorem counts_cn (l : List Rat) : ∀ i ≤ l.length, ∀ m, (countsQ (l.take i)).getD m 0 = cnQ (fun k => l.getD k 0) i m := by
  intro i
  induction i with
  | zero => intro _ m; cases m <;> simp [countsQ, cnQ]
  | succ i ih =>
    intro hi m
    have hx : l[i]? = some (l.getD i 0) := by
      rw [List.getD_eq_getElem?_getD, List.getElem?_eq_getElem (by omega)]
      rfl
    have ih := ih (by omega)
    rw [countsQ_succ hx, stepC_getD, ih]
    cases m with
    | zero => rw [cnQ]; grind
    | succ m =>
      show (countsQ (l.take i)).getD m 0 * _ + _ = _
      rw [ih, cnQ]
      grind
theorem counts_cn' (l : List Rat) (m : Nat) : (countsQ l).getD m 0 = cnQ (fun k => l.getD k 0) l.length m := by
  have := counts_cn l l.length (Nat.le_refl _) m
  rwa [List.take_length] at this
/-- the m-th sign comes at j -/
def aftT (m j : Nat) (c : List Nat) : Bool := decide (c[m]? = some j)
theorem not_in {k : Nat} {f : Nat → Rat} {x : List Nat × Rat} (hx : x ∈ coursesN f k) {i j : Nat} (h : k ≤ j) : x.1[i]? ≠ some j := fun e => by
  have := crsN_lt _ (crs_mem hx) j (List.mem_of_getElem? e)
  omega
theorem aft_k {f : Nat → Rat} {k m : Nat} : wsum (aftT m k) (coursesN f (k + 1)) = cnQ f k m * f k := by
  have := wsum_step (t := aftT m k) (u := fun _ => false) (v := justT m) (k := k) (q := f k) (l := coursesN f k) (fun x hx => by
    have h1 := not_in hx (i := m) (Nat.le_refl k)
    refine ⟨by simp [aftT, h1], ?_⟩
    simp only [aftT, justT]
    rw [decide_eq_decide, List.getElem?_append]
    by_cases h : m < x.1.length
    · rw [if_pos h]
      exact ⟨fun e => absurd e h1, fun e => by omega⟩
    · rw [if_neg h]
      cases hd : m - x.1.length with
      | zero => simp; omega
      | succ j => simp; omega)
  rw [coursesN, this, wsum_zero, just_cn]
  grind
theorem aft_all {f : Nat → Rat} {j m : Nat} : ∀ k, j < k → wsum (aftT m j) (coursesN f k) = cnQ f j m * f j := by
  intro k
  induction k with
  | zero => omega
  | succ k ih =>
    intro hk
    by_cases h : j = k
    · subst h; exact aft_k
    · have ih := ih (by omega)
      have := wsum_step (t := aftT m j) (u := aftT m j) (v := aftT m j) (k := k) (q := f k) (l := coursesN f k) (fun x hx => by
        refine ⟨rfl, ?_⟩
        simp only [aftT]
        rw [decide_eq_decide, List.getElem?_append]
        by_cases h : m < x.1.length
        · rw [if_pos h]
        · rw [if_neg h, List.getElem?_eq_none (by omega : x.1.length ≤ m)]
          cases hd : m - x.1.length with
          | zero => simp; omega
          | succ j => simp)
      rw [coursesN, this, ih]
      grind
theorem after_eq {l : List Rat} {m j : Nat} (hj : j < l.length) : wsum (aftT (m - 1) j) (coursesN (fun k => l.getD k 0) l.length) = aftQ l m j := by
  rw [aft_all _ hj, aftQ, counts_cn l j (by omega)]
/-- the last sign but m comes at j -/
def befT (m j : Nat) (c : List Nat) : Bool := decide (m < c.length) && decide (c[c.length - 1 - m]? = some j)
theorem wsum_true (f : Nat → Rat) (k : Nat) : wsum (fun _ => true) (coursesN f k) = 1 := by
  induction k with
  | zero => simp [coursesN, wsum, Rat.add_zero]
  | succ k ih =>
    have := wsum_step (t := fun _ => true) (u := fun _ => true) (v := fun _ => true) (k := k) (q := f k) (l := coursesN f k) (fun x hx => ⟨rfl, rfl⟩)
    rw [coursesN, this, ih]
    grind
theorem bef_s (m j k : Nat) (c : List Nat) : befT (m + 1) j (c ++ [k]) = befT m j c := by
  simp only [befT, List.length_append, List.length_singleton]
  by_cases h : m < c.length
  · have e : c.length + 1 - 1 - (m + 1) = c.length - 1 - m := by omega
    rw [e, List.getElem?_append_left (by omega)]
    simp [h]
  · simp [h]
theorem bef_0 (j k : Nat) (c : List Nat) : befT 0 j (c ++ [k]) = decide (k = j) := by
  simp only [befT, List.length_append, List.length_singleton]
  simp
theorem bef_all {f : Nat → Rat} {j : Nat} : ∀ n m, wsum (befT m j) (coursesN f (j + 1 + n)) = cnQ (fun i => f (j + 1 + i)) n m * f j := by
  intro n
  induction n with
  | zero =>
    intro m
    have nb : ∀ m, ∀ x ∈ coursesN f j, befT m j x.1 = false := fun m x hx => by
      have := not_in hx (i := x.1.length - 1 - m) (Nat.le_refl j)
      simp [befT, this]
    cases m with
    | zero =>
      have := wsum_step (t := befT 0 j) (u := fun _ => false) (v := fun _ => true) (k := j) (q := f j) (l := coursesN f j) (fun x hx => ⟨nb 0 x hx, by rw [bef_0]; simp⟩)
      rw [Nat.add_zero, coursesN, this, wsum_zero, wsum_true, cnQ]
      grind
    | succ m =>
      have := wsum_step (t := befT (m + 1) j) (u := fun _ => false) (v := fun _ => false) (k := j) (q := f j) (l := coursesN f j) (fun x hx => ⟨nb _ x hx, by rw [bef_s]; exact nb m x hx⟩)
      rw [Nat.add_zero, coursesN, this, wsum_zero, cnQ]
      grind
  | succ n ih =>
    intro m
    rw [show j + 1 + (n + 1) = (j + 1 + n) + 1 from rfl, coursesN]
    cases m with
    | zero =>
      have := wsum_step (t := befT 0 j) (u := befT 0 j) (v := fun _ => false) (k := j + 1 + n) (q := f (j + 1 + n)) (l := coursesN f (j + 1 + n)) (fun x hx => ⟨rfl, by rw [bef_0]; simp; omega⟩)
      rw [this, wsum_zero, ih, cnQ]
      grind
    | succ m =>
      have := wsum_step (t := befT (m + 1) j) (u := befT (m + 1) j) (v := befT m j) (k := j + 1 + n) (q := f (j + 1 + n)) (l := coursesN f (j + 1 + n)) (fun x hx => ⟨rfl, bef_s _ _ _ _⟩)
      rw [this, ih, ih, cnQ]
      grind
theorem before_eq {l : List Rat} {m j : Nat} (hj : j < l.length) : wsum (befT (m - 1) j) (coursesN (fun k => l.getD k 0) l.length) = befQ l m j := by
  obtain ⟨n, hn⟩ : ∃ n, l.length = j + 1 + n := ⟨l.length - (j + 1), by omega⟩
  have hd : (l.drop (j + 1)).length = n := by simp; omega
  rw [hn, bef_all, befQ, counts_cn', hd]
  rw [cnQ_congr (f := fun k => (l.drop (j + 1)).getD k 0) (g := fun i => l.getD (j + 1 + i) 0) (fun i _ => by
    rw [List.getD_eq_getElem?_getD, List.getD_eq_getElem?_getD, List.getElem?_drop])]
end Lw
set_option Elab.async false
set_option linter.all false
set_option maxRecDepth 100000
set_option exponentiation.threshold 20000
set_option maxHeartbeats 1000000
namespace Lw
open PySem PySem.Spec PyProof.Rows L2 Ev Sp
theorem lover_c {n : Nat} (hn : 2 ≤ n) {p q : Rat} (hp : Sm p) (hq : Sm q) (h0 : 0 < q) (S : Store) : (kap P n).call "_law_over" [fr p, fr q] [] S = .ok (fr (p / q)) S := by
  obtain ⟨n, rfl⟩ : ∃ m, n = m + 1 := ⟨n - 1, by omega⟩
  rw [call_eq fn__law_over (σ := [fr p, fr q]) (by rfl)]
  have hn0 : 0 < q.num := by have := (Rat.lt_iff 0 q).mp h0; simpa using this
  have hd : 0 < p.den * q.num.toNat := Nat.mul_pos p.den_pos (by omega)
  have hq1 : q.num.toNat < 2 ^ 4000 := by have := hq.num; omega
  have hb : p.den * q.num.toNat < 2 ^ 9000 := Nat.lt_of_lt_of_le (Nat.mul_lt_mul'' hp.den hq1) (by rw [← Nat.pow_add]; exact Nat.pow_le_pow_right (by decide) (by decide))
  have lo := llowest_c (n := n) (by omega) (i := p.num * q.den) hd hb S
  have m1 : mulOk p.num q.den = true := mul_ok hp.num (by simpa using hq.den)
  have m2 : mulOk p.den q.num = true := mul_ok (by simpa using hp.den) hq.num
  have e : ((p.den * q.num.toNat : Nat) : Int) = p.den * q.num := by rw [Int.natCast_mul, Int.toNat_of_nonneg (by omega)]
  rw [e] at lo
  rw [div_mk hn0]
  simp [f__law_over, bin_mul_int, m1, m2] at lo ⊢
  simp [lo, end_val0]
theorem courses_lo {f : Nat → Rat} {k : Nat} (h : ∀ j < k, 0 ≤ f j ∧ 0 ≤ 1 - f j) : ∀ x ∈ coursesN f k, 0 ≤ x.2 := by
  induction k with
  | zero => intro x hx; simp [coursesN] at hx; subst hx; decide
  | succ k ih =>
    intro x hx
    simp only [coursesN, List.mem_flatMap, stepK] at hx
    obtain ⟨y, hy, hx⟩ := hx
    have h0 := ih (fun j hj => h j (by omega)) y hy
    have hk := h k (by omega)
    simp at hx
    rcases hx with rfl | rfl
    · exact Rat.mul_nonneg h0 hk.2
    · exact Rat.mul_nonneg h0 hk.1
theorem wsum_lo {t : List Nat → Bool} {l : List (List Nat × Rat)} (h : ∀ x ∈ l, 0 ≤ x.2) : 0 ≤ wsum t l := by
  induction l with
  | nil => simp [wsum]
  | cons x l ih =>
    have h1 := h x (by simp)
    have h2 := ih fun y hy => h y (by simp [hy])
    rw [wsum]
    cases t x.1 <;> simp <;> grind
end Lw
set_option Elab.async false
set_option linter.all false
set_option maxRecDepth 100000
set_option exponentiation.threshold 20000
set_option maxHeartbeats 1000000
namespace Lw
open PySem PySem.Spec PyProof.Rows L2 Ev Sp
/-- the shares as the law has them -/
def givQ (l : List Rat) (m : Nat) : List Rat := (List.range l.length).map fun j => wsum (atT j m) (coursesN (fun k => l.getD k 0) l.length) / wsum (justT m) (coursesN (fun k => l.getD k 0) l.length)
theorem lgiven_c {n : Nat} (hn : 8 ≤ n) {l : List Rat} {m : Nat} (hs : ∀ q ∈ l, Ch q) (h6 : l.length ≤ 6) (hm : m ≤ 12) (S : Store) :
    (kap P n).call "_law_given" [.tup (l.map fr), .int m] [] S = .ok (if wsum (justT m) (coursesN (fun k => l.getD k 0) l.length) = 0 then .non else .tup ((givQ l m).map fr)) S := by
  obtain ⟨n, rfl⟩ : ∃ m, n = m + 1 := ⟨n - 1, by omega⟩
  rw [call_eq fn__law_given (σ := [.tup (l.map fr), .int m]) (by rfl)]
  have lc := lcourses_c (n := n) (by omega) (l := l) (S := S) (fun q hq => (hs q hq).cn) (by omega)
  have hin := coursesN_in (f := fun k => l.getD k 0) (k := l.length) (fun j hj => by
    show Cn 1 (l.getD j 0)
    rw [List.getD_eq_getElem?_getD, List.getElem?_eq_getElem hj]
    exact (hs _ (List.getElem_mem hj)).cn)
  have hlo := courses_lo (f := fun k => l.getD k 0) (k := l.length) (fun j hj => by
    have : Ch (l.getD j 0) := by
      rw [List.getD_eq_getElem?_getD, List.getElem?_eq_getElem hj]
      exact hs _ (List.getElem_mem hj)
    have h1 := this.lo
    have h2 := this.hi
    exact ⟨h1, by grind⟩)
  have hlen := coursesN_len (fun k => l.getD k 0) l.length
  have h2i : 2 ^ l.length ≤ 2 ^ 6 := Nat.pow_le_pow_right (by decide) h6
  have hdef : givQ l m = (List.range l.length).map fun j => wsum (atT j m) (coursesN (fun k => l.getD k 0) l.length) / wsum (justT m) (coursesN (fun k => l.getD k 0) l.length) := rfl
  rw [hdef]
  generalize coursesN (fun k => l.getD k 0) l.length = cs at *
  have wn : ∀ t, Nc (6 + 64) (wsum t cs) := fun t => by
    rw [← wsum_filter]
    have h1 : ∀ q ∈ (cs.filter fun x => t x.1).map (·.2), Nc l.length q := fun q hq => by
      obtain ⟨x, hx, rfl⟩ := List.mem_map.mp hq
      exact (hin x (List.mem_filter.mp hx).1).2.2
    have h2 : ((cs.filter fun x => t x.1).map (·.2)).length ≤ 64 := by
      have := (List.filter_sublist (p := fun x : List Nat × Rat => t x.1) (l := cs)).length_le
      rw [List.length_map]; omega
    exact (sum_nc' h1).mono (by omega)
  have ls : ∀ (t : List Nat → Bool) (S' : Store) (r : Nat), lstOf S' r = some (((cs.filter fun x => t x.1).map (·.2)).map fr) → (kap P n).call "_law_sum" [.ref r] [] S' = .ok (fr (wsum t cs)) S' := fun t S' r h => by
    have h1 : ∀ q ∈ (cs.filter fun x => t x.1).map (·.2), Nc l.length q := fun q hq => by
      obtain ⟨x, hx, rfl⟩ := List.mem_map.mp hq
      exact (hin x (List.mem_filter.mp hx).1).2.2
    have h2 : ((cs.filter fun x => t x.1).map (·.2)).length ≤ 64 := by
      have := (List.filter_sublist (p := fun x : List Nat × Rat => t x.1) (l := cs)).length_le
      rw [List.length_map]; omega
    rw [lsum_c (n := n) (by omega) (.inr ⟨_, rfl, h⟩) (fun q hq => (h1 q hq).sm (by omega)) (fun i => (sum_nc h1 i).sm (by omega)), wsum_filter]
  simp [f__law_given, -evSs_cons]
  rw [evSs_cons]
  simp [-evSs_cons, lc]
  generalize hC : lcB _ _ _ _ _ _ _ _ _ = C
  obtain ⟨G, rfl⟩ := lc_filter (S ++ [.lst (cs.map encC)]) hC (enc := encC) (xs := cs) (t := fun x => justT m x.1) (g := encC) rfl (by omega) (src_ref_okG (by simp)) (fun x hx => ⟨by simp, _, rfl, fun S' _ => by
    obtain ⟨hx1, hx2, hx3⟩ := hin x hx
    simp [noClo, wipeD, justT, encC]
    omega⟩)
  rw [R.ok_bind]
  have hfm : ∀ x ∈ cs.filter fun x => justT m x.1, x ∈ cs := fun x hx => (List.mem_filter.mp hx).1
  have hfl : (cs.filter fun x => justT m x.1).length ≤ 64 := by
    have := (List.filter_sublist (p := fun x : List Nat × Rat => justT m x.1) (l := cs)).length_le
    omega
  have hff : ∀ t : List Nat → Bool, (cs.filter fun x => t x.1 && justT m x.1) = (cs.filter fun x => justT m x.1).filter fun x => t x.1 := fun t => by rw [List.filter_filter]
  have l0 := ls (justT m)
  have la : ∀ j (S' : Store) (r : Nat), lstOf S' r = some ((((cs.filter fun x => justT m x.1).filter fun x => decide (j ∈ x.1)).map (·.2)).map fr) → (kap P n).call "_law_sum" [.ref r] [] S' = .ok (fr (wsum (atT j m) cs)) S' := fun j S' r h => by
    refine ls (atT j m) S' r ?_
    rw [h, ← hff fun c => decide (j ∈ c)]
    congr 4
    funext x
    simp only [atT, justT, Bool.and_comm]
  have n0 := wn (justT m)
  have na := fun j => wn (atT j m)
  have w0 : 0 ≤ wsum (justT m) cs := wsum_lo hlo
  generalize (cs.filter fun x => justT m x.1) = fl at *
  generalize wsum (justT m) cs = w at *
  generalize hS0 : (S ++ [.lst (cs.map encC)] ++ .lst (fl.map encC) :: G : Store) = S0
  have g0 : lstOf S0 (S.length + 1) = some (fl.map encC) := by
    subst hS0
    have := lstOf_app S (.lst (cs.map encC) :: .lst (fl.map encC) :: G) 1
    simpa using this
  have gp : S <+: S0 := by
    subst hS0
    exact ⟨_, by rw [List.append_assoc]⟩
  simp [-evSs_cons]
  rw [evSs_cons]
  simp [-evSs_cons, srcD_ref g0]
  generalize hC2 : lcB _ _ _ _ _ _ _ _ _ = C2
  have e2 := lc_map S0 hC2 (enc := encC) (xs := fl) (g := fun x => fr x.2) rfl (by omega) (src_ref_okG g0) (fun x hx => ⟨by simp, _, rfl, fun S' _ => by simp [noClo, wipeD]⟩)
  subst e2
  have l0' := l0 (S0 ++ [.lst (fl.map fun x => fr x.2)]) S0.length (by simp)
  simp [-evSs_cons, l0']
  rw [evSs_cons]
  have hz : D.tup [.int 0, .int 1] = fr 0 := rfl
  have g2 : lstOf (S0 ++ [.lst (fl.map fun x => fr x.2)]) (S.length + 1) = some (fl.map encC) := lstOf_app_left g0
  have gp2 : S <+: S0 ++ [.lst (fl.map fun x => fr x.2)] := gp.trans ⟨_, rfl⟩
  clear l0' l0 hS0 hC2
  generalize (S0 ++ [.lst (fl.map fun x => fr x.2)] : Store) = S2 at *
  by_cases hw : w = 0
  · simp [-evSs_cons, hz, hw]
    obtain ⟨Gx, rfl⟩ := gp2
    exact end_val rfl rfl
  have hw0 : 0 < w := by grind
  simp [-evSs_cons, hz, hw]
  rw [evSs_cons]
  simp [-evSs_cons, newD_ok]
  rw [evSs_cons]
  simp [-evSs_cons]
  rw [srcB_rng (by omega)]
  simp [-evSs_cons]
  generalize hF : forB _ _ _ _ _ _ _ _ = F
  obtain ⟨σ', S', rfl, z5, rfl, G1, rfl⟩ := for_all hF (fun i σ S1 => ∃ z5, σ = [.tup (l.map fr), .int m, .ref (S.length + 1), fr w, .ref S2.length, z5, .uns, .uns] ∧ ∃ G1, S1 = S2 ++ .lst ((List.range i).map fun j => fr (wsum (atT j m) cs / w)) :: G1) (fun i σ S1 h => rfl) ⟨.uns, rfl, [], by simp⟩ (fun i x σ S1 hx h => by
      obtain ⟨z5, rfl, G1, rfl⟩ := h
      obtain ⟨hi, rfl⟩ : i < l.length ∧ D.int (i : Nat) = x := by
        rw [List.getElem?_map] at hx
        by_cases h : i < l.length
        · rw [List.getElem?_range h] at hx
          exact ⟨h, by simpa using hx⟩
        · rw [List.getElem?_eq_none (by simp; omega)] at hx
          simp at hx
      refine ⟨_, rfl, ?_⟩
      have hal : ((List.range i).map fun j => fr (wsum (atT j m) cs / w)).length < 1000 := by simp; omega
      rw [List.range_succ, List.map_append, List.map_singleton]
      have lv := fun S => lover_c (n := n) (by omega) ((na i).sm (by omega)) (n0.sm (by omega)) hw0 S
      have lai := la i
      generalize wsum (atT i m) cs = u at *
      generalize ((List.range i).map fun j => fr (wsum (atT j m) cs / w)) = acc at *
      have g3 : lstOf (S2 ++ .lst acc :: G1) (S.length + 1) = some (fl.map encC) := lstOf_app_left g2
      have g4 : ∀ G, lstOf (S2 ++ .lst acc :: G) S2.length = some acc := fun G => by
        have := lstOf_app S2 (.lst acc :: G) 0
        simpa using this
      simp [srcD_ref g3, g3, lsOk_ref (g4 G1)]
      generalize hC3 : lcB _ _ _ _ _ _ _ _ _ = C3
      obtain ⟨G3, rfl⟩ := lc_filter (S2 ++ .lst acc :: G1) hC3 (enc := encC) (xs := fl) (t := fun x => decide (i ∈ x.1)) (g := fun x => fr x.2) rfl (by omega) (src_ref_okG g3) (fun x hx => ⟨by simp, _, rfl, fun S' _ => by simp [noClo, wipeD, encC, cmp_in_nats]⟩)
      have hmm : ((fl.filter fun x => decide (i ∈ x.1)).map fun x => fr x.2) = ((fl.filter fun x => decide (i ∈ x.1)).map (·.2)).map fr := by rw [List.map_map]; rfl
      rw [hmm]
      generalize (fl.filter fun x => decide (i ∈ x.1)).map (·.2) = ms at *
      have l1 := lai (S2 ++ .lst acc :: (G1 ++ .lst (ms.map fr) :: G3)) (S2.length + (G1.length + 1)) (by
        have := lstOf_app (S2 ++ .lst acc :: G1) (.lst (ms.map fr) :: G3) 0
        simpa using this)
      simp [l1, lv]
      rw [append_ok (g4 _) hal (by simp)]
      have hset : ∀ (c : Cell) (G : Store), (S2 ++ .lst acc :: G : Store).set S2.length c = S2 ++ c :: G := fun c G => by simp
      rw [hset]
      simp)
  have g5 : lstOf (S2 ++ .lst ((List.range l.length).map fun j => fr (wsum (atT j m) cs / w)) :: G1) S2.length = some ((List.range l.length).map fun j => fr (wsum (atT j m) cs / w)) := by
    have := lstOf_app S2 (.lst ((List.range l.length).map fun j => fr (wsum (atT j m) cs / w)) :: G1) 0
    simpa using this
  have hcm : ((List.range l.length).map (fr ∘ fun j => wsum (atT j m) cs / w)) = (List.range l.length).map fun j => fr (wsum (atT j m) cs / w) := rfl
  rw [hcm]
  have hfa : D.flats ((List.range l.length).map fun j => fr (wsum (atT j m) cs / w)) = true := by simp [flats_all]
  have hua : D.unders S.length ((List.range l.length).map fun j => fr (wsum (atT j m) cs / w)) = true := by simp [unders_all]
  simp only [List.length_map, List.length_range]
  generalize ((List.range l.length).map fun j => fr (wsum (atT j m) cs / w)) = acc at *
  obtain ⟨Gx, rfl⟩ := gp2
  have g6 : lstOf (S ++ (Gx ++ .lst acc :: G1)) (S.length + Gx.length) = some acc := by
    rw [← List.append_assoc, ← List.length_append]
    exact g5
  simp [tuple_ref g6]
  exact end_val (by simpa using hfa) (by simpa using hua)
end Lw
set_option Elab.async false
set_option linter.all false
set_option maxRecDepth 100000
set_option exponentiation.threshold 20000
set_option maxHeartbeats 1000000
namespace Lw
open PySem PySem.Spec PyProof.Rows L2 Ev Sp
theorem div_eq' {a b c d : Rat} (hb : b ≠ 0) (hd : d ≠ 0) (h : a * d = c * b) : a / b = c / d := by
  have e1 : a / b = (a * d) * (b⁻¹ * d⁻¹) := by
    rw [Rat.div_def]
    have : a * d * (b⁻¹ * d⁻¹) = a * b⁻¹ * (d * d⁻¹) := by grind
    rw [this, Rat.mul_inv_cancel _ hd, Rat.mul_one]
  have e2 : c / d = (c * b) * (b⁻¹ * d⁻¹) := by
    rw [Rat.div_def]
    have : c * b * (b⁻¹ * d⁻¹) = c * d⁻¹ * (b * b⁻¹) := by grind
    rw [this, Rat.mul_inv_cancel _ hb, Rat.mul_one]
  rw [e1, e2, h]
/-- what the law has as due for a row by odds so many times -/
theorem timQ_mk {t : Nat} {q : Rat} (h0 : 0 ≤ q) (h1 : q < 1) : mkRat (t * q.num) (t * q.num + q.den - q.num).toNat = timQ t q ∧ (0 : Int) < t * q.num + q.den - q.num := by
  have a0 : 0 ≤ q.num := Rat.num_nonneg.mpr h0
  have a1 : q.num < q.den := by
    have := (Rat.lt_iff q 1).mp h1
    simpa using this
  have a2 : (0 : Int) ≤ t * q.num := Int.mul_nonneg (by omega) a0
  have hpos : (0 : Int) < t * q.num + q.den - q.num := by omega
  refine ⟨?_, hpos⟩
  have hqd : q * (q.den : Rat) = (q.num : Rat) := by
    have hd0 : (q.den : Rat) ≠ 0 := by
      have := q.den_pos
      intro e
      have : q.den = 0 := by exact_mod_cast e
      omega
    have h := (Rat.mkRat_eq_div q.num q.den).symm.trans (Rat.mkRat_self q)
    have e := Rat.div_mul_cancel (a := (q.num : Rat)) hd0
    rw [h] at e
    exact e
  have h1q : 1 - q ≠ 0 := by grind
  have hr : (1 - q) * (q / (1 - q)) = q := one_odds h1q
  have hr0 : 0 ≤ q / (1 - q) := by
    have : 0 < 1 - q := by grind
    rw [Rat.div_def]
    exact Rat.mul_nonneg h0 (Rat.le_of_lt (Rat.inv_pos.mpr this))
  have ht : (0 : Rat) ≤ (t : Rat) := Rat.natCast_nonneg (a := t)
  have hrt : 0 ≤ q / (1 - q) * (t : Rat) := Rat.mul_nonneg hr0 ht
  rw [Rat.mkRat_eq_div, timQ]
  have hb : ((t * q.num + q.den - q.num).toNat : Rat) = (t : Rat) * (q.num : Rat) + (q.den : Rat) - (q.num : Rat) := by
    rw [← Rat.intCast_natCast, Int.toNat_of_nonneg (by omega)]
    simp [Rat.intCast_sub, Rat.intCast_add, Rat.intCast_mul, Rat.intCast_natCast]
  have hbp : ((t * q.num + q.den - q.num).toNat : Rat) ≠ 0 := by
    have : (t * q.num + q.den - q.num).toNat ≠ 0 := by omega
    intro e
    exact this (by exact_mod_cast e)
  have ha : ((t * q.num : Int) : Rat) = (t : Rat) * (q.num : Rat) := by simp [Rat.intCast_mul, Rat.intCast_natCast]
  refine div_eq' hbp (by grind) ?_
  rw [ha, hb, ← hqd]
  generalize q / (1 - q) = r at *
  generalize (q.den : Rat) = d at *
  generalize (t : Rat) = u at *
  grind
/-- the sums of products by odds t times are t^m times those -/
theorem esQ_mul (f : Nat → Rat) (t : Rat) (k : Nat) : ∀ m, esQ (fun j => f j * t) k m = esQ f k m * t ^ m := by
  induction k with
  | zero => intro m; cases m <;> simp [esQ, Rat.zero_mul]
  | succ k ih =>
    intro m
    cases m with
    | zero => rw [esQ, ih, esQ]
    | succ m => rw [esQ, ih, ih, esQ, Rat.pow_succ]; grind
end Lw
set_option Elab.async false
set_option linter.all false
set_option maxRecDepth 100000
set_option exponentiation.threshold 20000
set_option maxHeartbeats 1000000
namespace Lw
open PySem PySem.Spec PyProof.Rows L2 Ev Sp
theorem div_cancel {a b c : Rat} (hc : c ≠ 0) : (a * c) / (b * c) = a / b := by
  rw [Rat.div_def, Rat.div_def, Rat.inv_mul_rev]
  have : a * c * (c⁻¹ * b⁻¹) = a * b⁻¹ * (c * c⁻¹) := by grind
  rw [this, Rat.mul_inv_cancel _ hc, Rat.mul_one]
theorem ch_at {l : List Rat} (h : ∀ q ∈ l, Ch q) {k : Nat} (hk : k < l.length) : Ch (l.getD k 0) := by
  rw [List.getD_eq_getElem?_getD, List.getElem?_eq_getElem hk]
  exact h _ (List.getElem_mem hk)
theorem tim_getD {l : List Rat} {t k : Nat} (hk : k < l.length) : (l.map (timQ t)).getD k 0 = timQ t (l.getD k 0) := by
  rw [List.getD_eq_getElem?_getD, List.getD_eq_getElem?_getD, List.getElem?_map, List.getElem?_eq_getElem hk]
  rfl
theorem symQ_tim {l : List Rat} {t : Nat} (ht : t ≤ 16) (h : ∀ q ∈ l, Ch q) (m : Nat) : symQ (l.map (timQ t)) m = symQ l m * (t : Rat) ^ m := by
  rw [symQ_es, symQ_es, List.length_map, ← esQ_mul]
  refine esQ_congr (fun k hk => ?_) m
  rw [tim_getD hk]
  exact (timQ_od ht (ch_at h hk)).2
theorem others_tim (l : List Rat) (t k : Nat) : othersQ (l.map (timQ t)) k = (othersQ l k).map (timQ t) := by
  rw [othersQ, othersQ, List.map_append, List.map_take, List.map_drop]
theorem share_tim {l : List Rat} {t m k : Nat} (ht1 : 1 ≤ t) (ht : t ≤ 16) (h : ∀ q ∈ l, Ch q) (hm : 1 ≤ m) (hk : k < l.length) : shareQ (l.map (timQ t)) m k = shareQ l m k := by
  obtain ⟨m, rfl⟩ : ∃ n, m = n + 1 := ⟨m - 1, by omega⟩
  have ho : ∀ q ∈ othersQ l k, Ch q := fun q hq => by
    rcases List.mem_append.mp hq with hq | hq
    · exact h q (List.mem_of_mem_take hq)
    · exact h q (List.mem_of_mem_drop hq)
  have t0 : (t : Rat) ^ (m + 1) ≠ 0 := by
    have : (t : Rat) ≠ 0 := by
      intro e
      have : t = 0 := by exact_mod_cast e
      omega
    have hp : ∀ n : Nat, (t : Rat) ^ n ≠ 0 := by
      intro n
      induction n with
      | zero => simp
      | succ n ih =>
        intro e
        rw [Rat.pow_succ] at e
        rcases Rat.mul_eq_zero.mp e with e | e
        · exact ih e
        · exact this e
    exact hp _
  rw [shareQ, shareQ, others_tim, symQ_tim ht h, symQ_tim ht ho, tim_getD hk, (timQ_od ht (ch_at h hk)).2]
  simp only [Nat.add_sub_cancel]
  have e : ∀ a b c : Rat, a * (t : Rat) * (b * (t : Rat) ^ m) = (a * b) * (t : Rat) ^ (m + 1) := fun a b _ => by rw [Rat.pow_succ]; grind
  rw [e _ _ 0, div_cancel t0]
/-- the chance of a course by its odds -/
theorem course_odds {f : Nat → Rat} {k : Nat} (h : ∀ j < k, 1 - f j ≠ 0) : ∀ x ∈ coursesN f k, x.2 = noQ f k * prodQ (x.1.map fun j => f j / (1 - f j)) := by
  induction k with
  | zero =>
    intro x hx
    simp [coursesN] at hx
    subst hx
    simp [noQ, prodQ, Rat.mul_one]
  | succ k ih =>
    intro x hx
    simp only [coursesN, List.mem_flatMap, stepK] at hx
    obtain ⟨y, hy, hx⟩ := hx
    have h0 := ih (fun j hj => h j (by omega)) y hy
    have ho := one_odds (h k (by omega))
    have papp : ∀ (l : List Rat) (a : Rat), prodQ (l ++ [a]) = prodQ l * a := fun l a => by simp [prodQ]
    simp at hx
    rcases hx with rfl | rfl
    · show y.2 * (1 - f k) = _
      rw [h0, noQ]
      grind
    · show y.2 * f k = _
      rw [h0, noQ, List.map_append, List.map_singleton, papp]
      generalize f k / (1 - f k) = r at *
      grind
theorem course_eq {l : List Rat} {m : Nat} (h : ∀ k < l.length, 1 - l.getD k 0 ≠ 0) {x : List Nat × Rat} (hx : x ∈ coursesN (fun k => l.getD k 0) l.length) (hm : x.1.length = m) : x.2 / (countsQ l).getD m 0 = courseQ l x.1 := by
  subst hm
  rw [counts_cn', ← just_cn, wsum_just h, course_odds h x hx, courseQ, symQ_es]
  have hn := noQ_ne h
  generalize noQ (fun k => l.getD k 0) l.length = N at *
  rw [Rat.mul_comm N, Rat.mul_comm N, div_cancel hn]
theorem giv_share {l : List Rat} {m : Nat} (h : ∀ k < l.length, 1 - l.getD k 0 ≠ 0) (hm : 1 ≤ m) : givQ l m = (List.range l.length).map (shareQ l m) := by
  unfold givQ
  refine List.map_congr_left fun j hj => ?_
  exact share_eq h (by simpa using hj) hm
end Lw
set_option Elab.async false
set_option linter.all false
set_option maxRecDepth 100000
set_option exponentiation.threshold 20000
set_option maxHeartbeats 1000000
namespace Lw
open PySem PySem.Spec PyProof.Rows L2 Ev Sp
theorem nats_at {c : List Nat} {i : Nat} (h : i < c.length) : (nats c)[i]? = some (.int (c.getD i 0 : Nat)) := by
  rw [nats, List.getElem?_map, List.getD_eq_getElem?_getD, List.getElem?_eq_getElem h]
  rfl
theorem sub_nats {c : List Nat} {i : Nat} (h : i < c.length) (S : Store) : subD (.tup (nats c)) (.int (i : Nat)) S = .ok (.int (c.getD i 0 : Nat)) S := by
  rw [sub_tup, nats_at h]
  rfl
theorem sub_neg {c : List Nat} {m : Nat} (h1 : 1 ≤ m) (h : m ≤ c.length) (S : Store) : subD (.tup (nats c)) (.int (-(m : Int))) S = .ok (.int (c.getD (c.length - m) 0 : Nat)) S := by
  have hl : (nats c).length = c.length := by simp [nats]
  have e : atD (nats c) (-(m : Int)) = some (.int (c.getD (c.length - m) 0 : Nat)) := by
    unfold atD
    rw [if_neg (by omega), if_pos (by omega), hl, show (-(m : Int) + c.length).toNat = c.length - m by omega]
    exact nats_at (by omega)
  simp only [subD, items, Option.bind_some, e]
theorem aftT_eq {c : List Nat} {m k : Nat} (h1 : 1 ≤ m) : aftT (m - 1) k c = (decide (m ≤ c.length) && decide (c.getD (m - 1) 0 = k)) := by
  unfold aftT
  by_cases h : m ≤ c.length
  · rw [List.getD_eq_getElem?_getD, List.getElem?_eq_getElem (by omega : m - 1 < c.length)]
    simp [h]
  · rw [List.getElem?_eq_none (by omega)]
    simp [h]
theorem befT_eq {c : List Nat} {m k : Nat} (h1 : 1 ≤ m) : befT (m - 1) k c = (decide (m ≤ c.length) && decide (c.getD (c.length - m) 0 = k)) := by
  unfold befT
  by_cases h : m ≤ c.length
  · have e : c.length - 1 - (m - 1) = c.length - m := by omega
    rw [e, List.getD_eq_getElem?_getD, List.getElem?_eq_getElem (by omega : c.length - m < c.length)]
    simp [h, show m - 1 < c.length by omega]
  · simp [h, show ¬ m - 1 < c.length by omega]
end Lw
set_option Elab.async false
set_option linter.all false
set_option maxRecDepth 100000
set_option exponentiation.threshold 20000
set_option maxHeartbeats 1000000
namespace Lw
open PySem PySem.Spec PyProof.Rows L2 Ev Sp
theorem ch_lo {l : List Rat} (h : ∀ q ∈ l, Ch q) : ∀ j < l.length, 0 ≤ l.getD j 0 ∧ 0 ≤ 1 - l.getD j 0 := fun j hj => by
  have := ch_at h hj
  have h1 := this.lo
  have h2 := this.hi
  exact ⟨h1, by grind⟩
theorem ch_ne {l : List Rat} (h : ∀ q ∈ l, Ch q) : ∀ j < l.length, 1 - l.getD j 0 ≠ 0 := fun j hj => by
  have := (ch_at h hj).hi
  grind
theorem aft_lo {l : List Rat} (h : ∀ q ∈ l, Ch q) {m j : Nat} (hj : j < l.length) : 0 ≤ aftQ l m j := by
  rw [← after_eq hj]
  exact wsum_lo (courses_lo (ch_lo h))
theorem sum_lo {l : List Rat} (h : ∀ q ∈ l, 0 ≤ q) : 0 ≤ sumQ l := by
  induction l with
  | nil => simp [sumQ_nil]
  | cons a l ih =>
    rw [sumQ_cons]
    have h1 := h a (by simp)
    have h2 := ih fun q hq => h q (by simp [hq])
    grind
theorem aft_sum_lo {l : List Rat} (h : ∀ q ∈ l, Ch q) (m : Nat) : 0 ≤ sumQ ((List.range l.length).map (aftQ l m)) := sum_lo fun q hq => by
  obtain ⟨j, hj, rfl⟩ := List.mem_map.mp hq
  exact aft_lo h (by simpa using hj)
/-- if just so many come at all -/
theorem sym_pos {l : List Rat} (h : ∀ q ∈ l, Ch q) {m : Nat} (hw : wsum (justT m) (coursesN (fun k => l.getD k 0) l.length) ≠ 0) : 0 < symQ l m := by
  have h0 : ∀ k n, k ≤ l.length → 0 ≤ esQ (fun k => l.getD k 0 / (1 - l.getD k 0)) k n := by
    intro k
    induction k with
    | zero => intro n _; cases n <;> simp [esQ] <;> decide
    | succ k ih =>
      intro n hk
      have hc := ch_at h (k := k) (by omega)
      have hr : 0 ≤ l.getD k 0 / (1 - l.getD k 0) := by
        have h1 := hc.lo
        have : 0 < 1 - l.getD k 0 := by have := hc.hi; grind
        rw [Rat.div_def]
        exact Rat.mul_nonneg h1 (Rat.le_of_lt (Rat.inv_pos.mpr this))
      cases n with
      | zero => rw [esQ]; exact ih 0 (by omega)
      | succ n =>
        rw [esQ]
        have h1 := ih (n + 1) (by omega)
        have h2 := Rat.mul_nonneg hr (ih n (by omega))
        grind
  have h1 := h0 l.length m (Nat.le_refl _)
  rw [← symQ_es] at h1
  have h2 : symQ l m ≠ 0 := fun e => hw ((just_ne (ch_ne h)).mpr e)
  grind
end Lw
set_option Elab.async false
set_option linter.all false
set_option maxRecDepth 100000
set_option exponentiation.threshold 20000
set_option maxHeartbeats 1000000
namespace Lw
open PySem PySem.Spec PyProof.Rows L2 Ev Sp
@[simp] theorem cloE_ex (S : Store) (c : String) (l : List D) (S' : Store) : cloE S (.ex c l S') = .ex c l S' := nr rfl
theorem lnever_c {n : Nat} (hn : 1 ≤ n) {j : Nat} {σ' : List D} {S : Store} (h : ∃ G, (kap P (n - 1)).clo j σ' [] S = .ex "Never" [] (S ++ G)) : (kap P n).call "_law_never" [.clo j σ'] [] S = .ok (.bl true) S := by
  obtain ⟨n, rfl⟩ : ∃ m, n = m + 1 := ⟨n - 1, by omega⟩
  obtain ⟨G, h⟩ := h
  simp only [Nat.add_sub_cancel] at h
  rw [call_eq fn__law_never (σ := [.clo j σ']) (by rfl)]
  simp [f__law_never, ev_callv_clo (k := j) (σ' := σ'), h, end_val]
theorem can_come_x {n : Nat} (hn : 7 ≤ n) {l : List Rat} {m : Nat} (h : ∀ q ∈ l, Od q) (h12 : l.length ≤ 6) (hm : m ≤ 100) (h0 : symQ l m = 0) (S : Store) : (kap P n).call "check_can_come" [.tup (l.map fr), .int m] [] S = .ex "Never" [] S := by
  obtain ⟨n, rfl⟩ : ∃ m, n = m + 1 := ⟨n - 1, by omega⟩
  rw [call_eq fn_check_can_come (σ := [.tup (l.map fr), .int m]) (by rfl)]
  have hz : fr 0 = D.tup [.int 0, .int 1] := rfl
  simp [f_check_can_come, all_products_c (n := n) (by omega) h h12 hm, h0, raiseF]
theorem given_share_x {n : Nat} (hn : 10 ≤ n) {l : List Rat} {m k : Nat} (h : ∀ q ∈ l, Od q) (h12 : l.length ≤ 6) (hm1 : 1 ≤ m) (hm : m ≤ 12) (hk : k < l.length) (h0 : symQ l m = 0) (S : Store) :
    (kap P n).call "given_share" [.tup (l.map fr), .int m, .int k] [] S = .ex "Never" [] S := by
  obtain ⟨n, rfl⟩ : ∃ m, n = m + 1 := ⟨n - 1, by omega⟩
  rw [call_eq fn_given_share (σ := [.tup (l.map fr), .int m, .int k]) (by rfl)]
  simp [f_given_share, check_row_c (n := n) (by omega) (by omega) (fun q hq => (h q hq).ok), check_some_c (n := n) (by omega) (i := m) (by omega) (by omega), check_moment_c (n := n) (by omega) (show (0 : Int) ≤ k by omega), check_moment_there_c (n := n) (by omega) (l := l.map fr) (i := k) (by simp; omega), can_come_x (n := n) (by omega) h h12 (by omega) h0]
theorem given_shares_x {n : Nat} (hn : 10 ≤ n) {l : List Rat} {m : Nat} (h : ∀ q ∈ l, Od q) (h12 : l.length ≤ 6) (hm1 : 1 ≤ m) (hm : m ≤ 12) (h0 : symQ l m = 0) (S : Store) :
    (kap P n).call "given_shares" [.tup (l.map fr), .int m] [] S = .ex "Never" [] S := by
  obtain ⟨n, rfl⟩ : ∃ m, n = m + 1 := ⟨n - 1, by omega⟩
  rw [call_eq fn_given_shares (σ := [.tup (l.map fr), .int m]) (by rfl)]
  simp [f_given_shares, check_row_c (n := n) (by omega) (by omega) (fun q hq => (h q hq).ok), check_some_c (n := n) (by omega) (i := m) (by omega) (by omega), can_come_x (n := n) (by omega) h h12 (by omega) h0]
theorem given_course_x {n : Nat} (hn : 10 ≤ n) {l : List Rat} {c : List Nat} (h : ∀ q ∈ l, Od q) (h12 : l.length ≤ 6) (hc : Crs l.length c) (hcl : c.length ≤ 6) (h0 : symQ l c.length = 0) (S : Store) :
    (kap P n).call "given_course" [.tup (l.map fr)] [("course", .tup (nats c))] S = .ex "Never" [] S := by
  obtain ⟨n, rfl⟩ : ∃ m, n = m + 1 := ⟨n - 1, by omega⟩
  rw [call_eq fn_given_course (σ := [.tup (l.map fr), .tup (nats c)]) (by rfl)]
  have cc := fun S => check_course_c (n := n) (by omega) (l := l.map fr) (c := c) (by simp) (by simpa using hc) S
  rw [show D.tup (c.map fun (k : Nat) => .int k) = .tup (nats c) from rfl] at cc
  have can := fun S => can_come_x (n := n) (by omega) (m := c.length) h h12 (by omega) h0 S
  simp [f_given_course, check_row_c (n := n) (by omega) (by omega) (fun q hq => (h q hq).ok), cc, can]
theorem after_mean_x {n : Nat} (hn : 10 ≤ n) {l : List Rat} {m : Nat} (hs : ∀ q ∈ l, Ch q) (h12 : l.length ≤ 6) (hm : 1 ≤ m) (hm2 : m ≤ 12) (h0 : sumQ ((List.range l.length).map (aftQ l m)) = 0) (S : Store) :
    ∃ G, (kap P n).call "after_mean" [.tup (l.map fr), .int m] [] S = .ex "Never" [] (S ++ G) := by
  obtain ⟨n, rfl⟩ : ∃ m, n = m + 1 := ⟨n - 1, by omega⟩
  rw [call_eq fn_after_mean (σ := [.tup (l.map fr), .int m]) (by rfl)]
  have an : ∀ q ∈ (List.range l.length).map (aftQ l m), Nc 25 q := fun q hq => by
    obtain ⟨k, _, rfl⟩ := List.mem_map.mp hq
    exact aftQ_nc hs (by omega) m k
  have al : ((List.range l.length).map (aftQ l m)).length ≤ 6 := by simp; omega
  have ain := fun S => afters_in_c (n := n) (by omega) (l := l) (m := m) hs (by omega) hm S
  have cr := fun S => check_row_c (n := n) (by omega) (S := S) (l := l) (by omega) (fun q hq => (hs q hq).ok)
  have cm := fun S => check_many1_c (n := n) (by omega) (i := m) (j := 1) (by omega) (by omega) S
  generalize hAf : (List.range l.length).map (aftQ l m) = A at *
  have sA := fun (S' : Store) (h : lstOf S' S.length = some (A.map fr)) => sum_c (n := n) (by omega) (l := A) (d := .ref S.length) (S := S') (.inr ⟨_, rfl, h⟩) (fun q hq => (an q hq).sm (by omega)) (fun i => ((sum_nc (k := 25) an i).sm (by omega)))
  have s1 := sA (S ++ [.lst (A.map fr)]) (by simp)
  have hz : fr 0 = D.tup [.int 0, .int 1] := rfl
  simp [f_after_mean, cr, cm, ain, s1, h0, raiseF]
end Lw
set_option Elab.async false
set_option linter.all false
set_option maxRecDepth 100000
set_option exponentiation.threshold 20000
set_option maxHeartbeats 1000000
namespace Lw
open PySem PySem.Spec PyProof.Rows L2 Ev Sp
def WRes (S : Store) (r N : Nat) (x : R D) : Prop := ∃ w', x = .ok (.bl true) (S.set r (.lst w')) ∧ WlL w' N
theorem wset {S G : Store} {r : Nat} {c c' : Cell} (h : r < S.length) : (S.set r c ++ G).set r c' = S.set r c' ++ G := by
  rw [set_app_left (by simpa using h), List.set_set]
theorem wlst {S G : Store} {r : Nat} {w : List D} (h : r < S.length) : lstOf (S.set r (.lst w) ++ G) r = some w := lstOf_app_left (lstOf_set_self h)
theorem eqv_ints : ∀ a b : List Nat, PyData.eqvAll (a.map fun (k : Nat) => PyData.int k) (b.map fun (k : Nat) => PyData.int k) = decide (a = b)
  | [], [] => by simp [PyData.eqvAll]
  | [], _ :: _ => by simp [PyData.eqvAll]
  | _ :: _, [] => by simp [PyData.eqvAll]
  | x :: a, y :: b => by
    have ih := eqv_ints a b
    have e : ((x : Int) == (y : Int)) = decide (x = y) := by
      by_cases h : x = y
      · simp [h]
      · have : (x : Int) ≠ y := fun e => h (by omega)
        simp [h, this]
    simp [PyData.eqvAll, PyData.eqv, ih, e]
theorem cmp_eq_natst (a b : List Nat) (S : Store) : cmpop .eq (.tup (nats a)) (.tup (nats b)) S = .ok (.bl (decide (a = b))) S := by
  have e1 : ∀ c, pyN S 20 (.tup (nats c)) = some (.tuple (c.map fun (k : Nat) => PyData.int k)) := fun c => by
    simp only [pyN, optAll_nats]
    rfl
  have e2 : eqD S (.tup (nats a)) (.tup (nats b)) = some (decide (a = b)) := by
    unfold eqD
    simp only [e1]
    show some (PyData.eqv (.tuple _) (.tuple _)) = _
    simp [PyData.eqv, eqv_ints]
  simp [cmpop, e2, obl]
theorem cmp_eq_crs {cs : List (List Nat)} {a b : Nat} {S : Store} (ha : lstOf S a = some (cs.map fun c => .tup (nats c))) (hb : lstOf S b = some []) : cmpop .eq (.ref a) (.ref b) S = .ok (.bl cs.isEmpty) S := by
  have e0 : ∀ n, optAll ((cs.map fun c => D.tup (nats c)).map (pyN S (n + 1))) = some (cs.map fun c => .tuple (c.map fun (k : Nat) => PyData.int k)) := fun n => by
    induction cs with
    | nil => rfl
    | cons c cs ih =>
      have : pyN S (n + 1) (.tup (nats c)) = some (.tuple (c.map fun (k : Nat) => PyData.int k)) := by
        simp only [pyN, optAll_nats]
        rfl
      simp only [List.map_cons, optAll, this]
      have ih2 : optAll ((cs.map fun c => D.tup (nats c)).map (pyN S (n + 1))) = some (cs.map fun c => .tuple (c.map fun (k : Nat) => PyData.int k)) := by
        clear ha ih
        induction cs with
        | nil => rfl
        | cons c cs ih =>
          have : pyN S (n + 1) (.tup (nats c)) = some (.tuple (c.map fun (k : Nat) => PyData.int k)) := by
            simp only [pyN, optAll_nats]
            rfl
          simp only [List.map_cons, optAll, this, ih]
          rfl
      rw [ih2]
      rfl
  have e1 : pyN S 20 (.ref a) = some (.list (cs.map fun c => .tuple (c.map fun (k : Nat) => PyData.int k))) := by
    have := e0 18
    simp only [pyN, ha, this]
    rfl
  have e2 : pyN S 20 (.ref b) = some (.list []) := by simp [pyN, hb, optAll]
  have e3 : eqD S (.ref a) (.ref b) = some cs.isEmpty := by
    unfold eqD
    simp only [e1, e2]
    cases cs <;> simp [PyData.eqv, PyData.eqvAll]
  simp [cmpop, e3, obl]
theorem crsN_crs {k : Nat} : ∀ x ∈ coursesN (fun _ => (0 : Rat)) k, Crs k x.1 ∧ x.1.length ≤ k := fun x hx => by
  obtain ⟨h1, h2, _⟩ := coursesN_in (f := fun _ => 0) (k := k) (fun _ _ => ⟨nc0 1, (nc0 0).sub1⟩) x hx
  exact ⟨h1, h2⟩
theorem lgr_c {n : Nat} (hn : 15 ≤ n) {S : Store} {r N m : Nat} {w : List D} {l : List Rat} (hw : lstOf S r = some w) (hW : WlL w N) (hN : N < 500000) (hl : ∀ q ∈ l, Ch q) (h1l : 1 ≤ l.length) (h6 : l.length ≤ 6) (h1 : 1 ≤ m) (hm : m ≤ l.length) :
    WRes S r (N + 2) ((kap P n).call "_law_given_right" [.ref r, .tup (l.map fr), .int m] [] S) := by
  obtain ⟨n, rfl⟩ : ∃ m, n = m + 1 := ⟨n - 1, by omega⟩
  rw [call_eq fn__law_given_right (σ := [.ref r, .tup (l.map fr), .int m]) (by rfl)]
  have hr := lstOf_lt hw
  have lg := fun S => lgiven_c (n := n) (by omega) hl h6 (m := m) (by omega) S
  obtain ⟨d, hd, w1, e1, hw1⟩ := draw_c (n := n) (by omega) hw hW (by omega) (L := 9) (by omega) (by omega)
  simp at e1
  simp only [f__law_given_right]
  rw [evSs_cons]
  simp [-evSs_cons, lg]
  rw [e1]
  obtain ⟨t, ht⟩ : ∃ t, t = d + 1 := ⟨_, rfl⟩
  have et : (1 : Int) + (d : Nat) = (t : Nat) := by omega
  obtain ⟨ow, how⟩ : ∃ ow, ow = (if wsum (justT m) (coursesN (fun k => l.getD k 0) l.length) = 0 then D.non else .tup ((givQ l m).map fr)) := ⟨_, rfl⟩
  have hof : ow.flat = true := by rw [how]; split <;> simp
  simp only [List.getD_eq_getElem?_getD] at how
  simp [-evSs_cons, et, ← how, varD_some (isUns_flat hof)]
  -- due
  rw [evSs_cons]
  simp [-evSs_cons]
  have hch : ∀ q ∈ l, 0 ≤ q ∧ q < 1 := fun q hq => ⟨(hl q hq).lo, (hl q hq).hi⟩
  generalize hC : lcB _ _ _ _ _ _ _ _ _ = C
  have e2 := lc_map (S.set r (.lst w1)) hC (enc := fr) (xs := l) (g := fun q => fr (timQ t q)) rfl (by omega) (fun _ _ => rfl) (fun q hq => ⟨by simp, _, rfl, fun S' _ => by
    obtain ⟨g1, g2⟩ := timQ_mk (t := t) (hch q hq).1 (hch q hq).2
    have sm := (hl q hq).nc.sm
    have sb : (t * q.num + q.den - q.num).toNat < 2 ^ 9000 := by
      have a0 : 0 ≤ q.num := Rat.num_nonneg.mpr (hch q hq).1
      have a1 : q.num < q.den := by
        have := (Rat.lt_iff q 1).mp (hch q hq).2
        simpa using this
      have a2 : (t : Int) * q.num ≤ 16 * q.num := Int.mul_le_mul_of_nonneg_right (by omega) a0
      have a3 : (t * q.num + q.den - q.num).toNat ≤ 2 ^ 5 * q.den := by omega
      refine Nat.lt_of_le_of_lt a3 (Nat.lt_of_lt_of_le (Nat.mul_lt_mul_of_pos_left sm.den (by decide)) ?_)
      rw [← Nat.pow_add]
      exact Nat.pow_le_pow_right (by decide) (by decide)
    have m1 : mulOk t q.num = true := mul_ok (by rw [Int.natAbs_natCast]; exact Nat.lt_of_lt_of_le (show t < 16 by omega) (by decide)) sm.num
    have lo := llowest_c (n := n) (by omega) (i := t * q.num) (s := (t * q.num + q.den - q.num).toNat) (by omega) sb S'
    rw [g1, Int.toNat_of_nonneg (by omega)] at lo
    simp [noClo, wipeD, bin_mul_int, m1, fr] at lo ⊢
    simp [lo]⟩)
  subst e2
  have e3 : (l.map fun q => fr (timQ t q)) = (l.map (timQ t)).map fr := by simp [Function.comp_def]
  have hdu : lstOf (S.set r (.lst w1) ++ [.lst (l.map fun q => fr (timQ t q))]) S.length = some (l.map fun q => fr (timQ t q)) := by
    have := lstOf_app0 (S.set r (.lst w1)) [.lst (l.map fun q => fr (timQ t q))]
    simpa using this
  simp [-evSs_cons, tuple_ref hdu]
  have e4 : (l.map (fr ∘ timQ t)) = (l.map (timQ t)).map fr := by simp
  rw [e3]
  -- timed
  have tm := fun S => timed_c (n := n) (by omega) hl (by omega) (t := t) (by omega) (by omega) S
  have sm2 : ∀ (x : D) S, okS 3 x = true → (kap P n).call "_law_same" [.tup [x, x], .tup [x, x]] [] S = .ok (.bl true) S := fun x S h => same_c 4 (by omega) (by simp [okS] at h ⊢; exact h) S
  have okd : okS 3 (.tup ((l.map (timQ t)).map fr)) = true := okS_frs 1 (by rw [List.length_map]; omega)
  rw [evSs_cons]
  have tm1 := fun S => (tm S).1
  have tm2 := fun S => (tm S).2
  have sd := fun S => sm2 _ S okd
  have hdl : (l.map (timQ t)).length = l.length := by simp
  have hod : ∀ q ∈ l.map (timQ t), Od q := fun q hq => by
    obtain ⟨p, hp, rfl⟩ := List.mem_map.mp hq
    exact (timQ_od (by omega) (hl p hp)).1
  have hsh : ∀ k < l.length, shareQ (l.map (timQ t)) m k = shareQ l m k := fun k hk => share_tim (by omega) (by omega) hl h1 hk
  have hsy := symQ_tim (l := l) (t := t) (by omega) hl m
  generalize hdue : l.map (timQ t) = due at *
  simp [-evSs_cons, tm1, tm2, sd]
  -- some
  rw [evSs_cons]
  have lk := fun S => lcourses_c (n := n) (by omega) (S := S) (l := l) (fun q hq => (hl q hq).cn) (by omega)
  have hin := coursesN_in (f := fun k => l.getD k 0) (k := l.length) (fun j hj => (ch_at hl hj).cn)
  have hlen := coursesN_len (fun k => l.getD k 0) l.length
  have h2i : 2 ^ l.length ≤ 2 ^ 6 := Nat.pow_le_pow_right (by decide) h6
  have hz := just_ne (l := l) (m := m) (ch_ne hl)
  have hsp := sym_pos hl (m := m)
  have hlo := wsum_lo (t := justT m) (courses_lo (ch_lo hl))
  have hcq := fun x hx (hm : x.1.length = m) => course_eq (l := l) (m := m) (ch_ne hl) (x := x) hx hm
  have hwc : wsum (justT m) (coursesN (fun k => l.getD k 0) l.length) = (countsQ l).getD m 0 := by rw [just_cn, counts_cn']
  have hgs := giv_share (l := l) (ch_ne hl) h1
  have how2 : ow = (if wsum (justT m) (coursesN (fun k => l.getD k 0) l.length) = 0 then D.non else .tup ((givQ l m).map fr)) := by simpa only [List.getD_eq_getElem?_getD] using how
  clear how lg
  simp [-evSs_cons, lk]
  simp only [List.getD_eq_getElem?_getD] at hin hlen hz hsp hlo hcq hwc how2
  generalize hcs : coursesN (fun k => l[k]?.getD 0) l.length = cs at *
  generalize hB : S.set r (.lst w1) ++ [.lst (due.map fr), .lst (cs.map encC)] = B
  have hBc : lstOf B (S.length + 1) = some (cs.map encC) := by
    subst hB
    have := lstOf_app (S.set r (.lst w1)) [.lst (due.map fr), .lst (cs.map encC)] 1
    simpa using this
  have hBp : S.set r (.lst w1) <+: B := by subst hB; exact ⟨_, rfl⟩
  simp [-evSs_cons, hBc]
  generalize hC : lcB _ _ _ _ _ _ _ _ _ = C
  obtain ⟨G, rfl⟩ := lc_filter B hC (enc := encC) (xs := cs) (t := fun x => justT m x.1) (g := fun x => .tup (nats x.1)) rfl (by omega) (src_ref_okG hBc) (fun x hx => ⟨by simp, _, rfl, fun S' _ => by
    obtain ⟨hx1, hx2, hx3⟩ := hin x hx
    simp [noClo, wipeD, justT, encC]
    omega⟩)
  rw [R.ok_bind]
  have hfm : ∀ x ∈ cs.filter fun x => justT m x.1, x ∈ cs ∧ x.1.length = m := fun x hx => by
    obtain ⟨a, b⟩ := List.mem_filter.mp hx
    exact ⟨a, by simpa [justT] using b⟩
  have hfl : (cs.filter fun x => justT m x.1).length ≤ 64 := by
    have := (List.filter_sublist (p := fun x : List Nat × Rat => justT m x.1) (l := cs)).length_le
    omega
  have hws : (cs.filter fun x => justT m x.1) = [] → wsum (justT m) cs = 0 := fun e => by
    rw [← wsum_filter, e]; rfl
  have hmm : ((cs.filter fun x => justT m x.1).map fun x => D.tup (nats x.1)) = ((cs.filter fun x => justT m x.1).map (·.1)).map fun c => D.tup (nats c) := by rw [List.map_map]; rfl
  rw [hmm]
  generalize hfl2 : (cs.filter fun x => justT m x.1) = fl at *
  generalize hB2 : (B ++ .lst ((fl.map (·.1)).map fun c => D.tup (nats c)) :: G : Store) = B2
  have h2c : lstOf B2 B.length = some ((fl.map (·.1)).map fun c => D.tup (nats c)) := by subst hB2; simp
  have h2p : S.set r (.lst w1) <+: B2 := by subst hB2; exact hBp.trans ⟨_, rfl⟩
  obtain ⟨G2, rfl⟩ := h2p
  have hBr : r < B.length := by
    have := hBp.length_le
    simp at this; omega
  rw [R.ok_fl]
  simp [-evSs_cons]
  rw [evSs_cons]
  by_cases hw0 : wsum (justT m) cs = 0
  · -- never
    rw [if_pos hw0] at how2
    subst how2
    have h0 : symQ l m = 0 := hz.mp hw0
    have hol : ∀ q ∈ l, Od q := fun q hq => (hl q hq).to_od
    have nv : ∀ (j : Nat) (σ' : List D), (∀ S, (kap P (n - 1)).clo j σ' [] S = .ex "Never" [] S) → ∀ S, (kap P n).call "_law_never" [.clo j σ'] [] S = .ok (.bl true) S := fun j σ' h S => lnever_c (by omega) ⟨[], by simpa using h S⟩
    obtain ⟨k, hk⟩ : ∃ k, n = k + 2 := ⟨n - 2, by omega⟩
    have n4 := nv 4 [.ref r, .tup (l.map fr), .int m, .non, .int t, .tup (due.map fr), .ref B.length, .uns, .uns, .uns, .uns, .uns, .uns, .uns, .uns] (fun S => by
      rw [show n - 1 = k + 1 by omega, clo_eq la__law_given_right_2 rfl rfl]
      simp [noClo, lb__law_given_right_2, given_shares_x (n := k) (by omega) hol (by omega) h1 (by omega) h0])
    have n3 := nv 3 [.ref r, .tup (l.map fr), .int m, .non, .int t, .tup (due.map fr), .ref B.length, .uns, .uns, .uns, .uns, .uns, .uns, .uns, .uns] (fun S => by
      have x := given_share_x (n := k) (by omega) hol (by omega) h1 (by omega) (k := 0) (by omega) h0 S
      simp at x
      rw [show n - 1 = k + 1 by omega, clo_eq la__law_given_right_1 rfl rfl]
      simp [noClo, lb__law_given_right_1, x])
    simp [-evSs_cons]
    rw [evSs_cons]
    simp [-evSs_cons, n4]
    rw [evSs_cons]
    simp [-evSs_cons, n3]
    rw [evSs_cons]
    simp [-evSs_cons, newD_ok]
    generalize hB3 : (S.set r (.lst w1) ++ (G2 ++ [.lst []]) : Store) = B3
    have h3c : lstOf B3 B.length = some ((fl.map (·.1)).map fun c => D.tup (nats c)) := by
      subst hB3
      rw [← List.append_assoc]
      exact lstOf_app_left h2c
    have h3e : lstOf B3 (S.length + G2.length) = some [] := by
      subst hB3
      have := lstOf_app0 (S.set r (.lst w1) ++ G2) [.lst []]
      simpa [List.append_assoc] using this
    rw [cmp_eq_crs (cs := fl.map (·.1)) h3c h3e]
    have fin : ∀ G, WRes S r (N + 2) (endD S (.rt (.bl true) (S.set r (.lst w1) ++ G))) := fun G => ⟨w1, end_set (by simp) (by simp) (hw1.unders _), hw1.mono (by omega)⟩
    cases fl with
    | nil =>
      simp
      subst hB3
      exact fin _
    | cons x fs =>
      have hx := hfm x (by simp)
      have hxc : Crs l.length x.1 := (hin x hx.1).1
      have n2 : (kap P n).call "_law_never" [.clo 2 [.ref r, .tup (l.map fr), .int m, .non, .int t, .tup (due.map fr), .ref B.length, .uns, .uns, .uns, .uns, .uns, .uns, .uns, .uns]] [] B3 = .ok (.bl true) B3 := lnever_c (by omega) ⟨[], by
        have gx := given_course_x (n := k) (by omega) hol (by omega) hxc (by omega) (by rw [hx.2]; exact h0) B3
        have hs : subD (.ref B.length) (.int 0) B3 = .ok (.tup (nats x.1)) B3 := sub_ref (k := 0) h3c (by simp)
        rw [show n - 1 = k + 1 by omega, clo_eq la__law_given_right_0 rfl rfl]
        simp [noClo, lb__law_given_right_0, hs, gx]⟩
      simp [n2]
      subst hB3
      exact fin _
  · rw [if_neg hw0, hgs] at how2
    subst how2
    have h0 : 0 < symQ l m := hsp hw0
    have h0d : 0 < symQ due m := by
      rw [hsy]
      refine Rat.mul_pos h0 ?_
      have ht0 : (0 : Rat) < t := by
        have : (0 : Rat) < ((t : Nat) : Rat) := by exact_mod_cast (show 0 < t by omega)
        exact this
      have : ∀ k : Nat, (0 : Rat) < (t : Rat) ^ k := fun k => by
        induction k with
        | zero => simp; decide
        | succ k ih => rw [Rat.pow_succ]; exact Rat.mul_pos ih ht0
      exact this m
    have hol : ∀ q ∈ l, Od q := fun q hq => (hl q hq).to_od
    have g1 := fun S => (given_shares_c (n := n) (by omega) hol (by omega) h1 (by omega) h0 S).1
    have g2 := fun S => (given_shares_c (n := n) (by omega) hol (by omega) h1 (by omega) h0 S).2
    have g3 := fun S => (given_shares_c (n := n) (by omega) hod (by omega) h1 (by omega) h0d S).1
    have hsd : (List.range due.length).map (shareQ due m) = (List.range l.length).map (shareQ l m) := by
      rw [hdl]
      exact List.map_congr_left fun k hk => hsh k (by simpa using hk)
    rw [hsd] at g3
    have oko : okS 3 (.tup (((List.range l.length).map (shareQ l m)).map fr)) = true := okS_frs 1 (by rw [List.length_map, List.length_range]; omega)
    have sm3 : ∀ (x : D) S, okS 3 x = true → (kap P n).call "_law_same" [.tup [x, x, x], .tup [x, x, x]] [] S = .ok (.bl true) S := fun x S h => same_c 4 (by omega) (by simp [okS] at h ⊢; exact h) S
    have s3 := fun S => sm3 _ S oko
    have hown : ∀ k < l.length, (((List.range l.length).map (shareQ l m)).map fr)[k]? = some (fr (shareQ l m k)) := fun k hk => by
      rw [List.getElem?_map, List.getElem?_map, List.getElem?_range hk]; rfl
    generalize hog : ((List.range l.length).map (shareQ l m)).map fr = og at *
    simp [-evSs_cons, cmpop]
    rw [evSs_cons]
    simp [-evSs_cons, g1, g2, g3, s3]
    rw [evSs_cons]
    simp [-evSs_cons]
    rw [srcB_rng (by omega)]
    simp [-evSs_cons]
    generalize hF : forB _ _ _ _ _ _ _ _ = F
    obtain ⟨σ', S', rfl, z7, rfl, rfl⟩ := for_all hF (fun i σ S2 => ∃ z7, σ = [.ref r, .tup (l.map fr), .int m, .tup og, .int t, .tup (due.map fr), .ref B.length, z7, .uns, .uns, .uns, .uns, .uns, .uns, .uns] ∧ S2 = S.set r (.lst w1) ++ G2) (fun i σ S1 h => rfl) ⟨_, rfl, rfl⟩ (fun i x σ S2 hx h => by
      obtain ⟨z7, rfl, rfl⟩ := h
      have hi : i < l.length := by
        have := (List.getElem?_eq_some_iff.mp hx).1
        simpa using this
      rw [List.getElem?_map, List.getElem?_range hi] at hx
      obtain rfl : D.int i = x := by simpa using hx
      refine ⟨_, rfl, ?_⟩
      have k1 := fun S => (given_share_c (n := n) (by omega) hol (by omega) h1 (by omega) hi h0 S).1
      have k2 := fun S => (given_share_c (n := n) (by omega) hol (by omega) h1 (by omega) hi h0 S).2
      simp [k1, k2, hown i hi, sm2 _ _ (okS_fr 2 _)])
    simp [-evSs_cons]
    rw [evSs_cons]
    have hfl0 : fl ≠ [] := fun e => hw0 (hws e)
    have hflp : 0 < fl.length := List.length_pos_iff.mpr hfl0
    obtain ⟨y, hy, w2, e5, hw2⟩ := ofr_c (n := n) (by omega) (wlst (w := w1) (G := G2) hr) hw1 (by omega) h2c (show r ≠ B.length by omega) (by rw [List.length_map, List.length_map]; exact hflp) (by rw [List.length_map, List.length_map]; omega) (flats_all.mpr fun d hd => by
      obtain ⟨c, _, rfl⟩ := List.mem_map.mp hd
      simp)
    rw [wset hr] at e5
    obtain ⟨c, hc, rfl⟩ := List.mem_map.mp hy
    obtain ⟨x, hx, rfl⟩ := List.mem_map.mp hc
    have hx2 := hfm x hx
    have hxc : Crs l.length x.1 := (hin x hx2.1).1
    have lc := fun S => lcounts_c (n := n) (by omega) (S := S) (fun q hq => (hl q hq).cn) (by omega) (by omega)
    have cql : (countsQ l).length = l.length + 1 := countsQ_len l
    have hcm : ((countsQ l).map fr)[m]? = some (fr ((countsQ l).getD m 0)) := getD_somep (by omega)
    have hwp : 0 < (countsQ l).getD m 0 := by
      have e : (countsQ l).getD m 0 = wsum (justT m) cs := by rw [hwc, List.getD_eq_getElem?_getD]
      rw [e]; grind
    have hwn : Nc (2 * l.length) ((countsQ l).getD m 0) := getD_nc (fun q hq => countsQ_nc (c := 1) (l := l) (fun q hq => (hl q hq).cn) l.length q (by rw [List.take_length]; exact hq)) m
    generalize hctr : (countsQ l).map fr = ctr at *
    generalize hwh : (countsQ l).getD m 0 = wh at *
    simp [-evSs_cons, e5, lc, hcm]
    rw [evSs_cons]
    simp [-evSs_cons, lk]
    simp only [List.getD_eq_getElem?_getD, hcs]
    generalize hB5 : (S.set r (.lst w2) ++ (G2 ++ [.lst (cs.map encC)]) : Store) = B5
    have h5c : lstOf B5 (S.length + G2.length) = some (cs.map encC) := by
      subst hB5
      have := lstOf_app0 (S.set r (.lst w2) ++ G2) [.lst (cs.map encC)]
      simpa [List.append_assoc] using this
    have h5p : S.set r (.lst w2) <+: B5 := by subst hB5; exact ⟨_, rfl⟩
    simp [-evSs_cons, h5c]
    generalize hC5 : lcB _ _ _ _ _ _ _ _ _ = C5
    obtain ⟨G5, rfl⟩ := lc_filter B5 hC5 (enc := encC) (xs := cs) (t := fun y => decide (y.1 = x.1)) (g := fun y => fr y.2) rfl (by omega) (src_ref_okG h5c) (fun y hy => ⟨by simp, _, rfl, fun S' _ => by
      simp [noClo, wipeD, encC, cmp_eq_natst]⟩)
    rw [R.ok_bind]
    have hxf : x ∈ cs.filter fun y => decide (y.1 = x.1) := List.mem_filter.mpr ⟨hx2.1, by simp⟩
    obtain ⟨x', rest, hxr⟩ : ∃ x' rest, (cs.filter fun y => decide (y.1 = x.1)) = x' :: rest := by
      cases hq : (cs.filter fun y => decide (y.1 = x.1)) with
      | nil => rw [hq] at hxf; cases hxf
      | cons a b => exact ⟨a, b, rfl⟩
    have hx' : x' ∈ cs ∧ x'.1 = x.1 := by
      have : x' ∈ cs.filter fun y => decide (y.1 = x.1) := by rw [hxr]; simp
      obtain ⟨a, b⟩ := List.mem_filter.mp this
      exact ⟨a, by simpa using b⟩
    rw [hxr, List.map_cons]
    have hc0 := hcq x' hx'.1 (by rw [hx'.2]; exact hx2.2)
    rw [hx'.2, ← List.getD_eq_getElem?_getD, hwh] at hc0
    have hn' := (hin x' hx'.1).2.2
    have hs0 : ∀ G, subD (.ref B5.length) (.int 0) (B5 ++ .lst (fr x'.2 :: rest.map fun y => fr y.2) :: G) = .ok (fr x'.2) (B5 ++ .lst (fr x'.2 :: rest.map fun y => fr y.2) :: G) := fun G => sub_ref (k := 0) (l := fr x'.2 :: rest.map fun y => fr y.2) (by simp) rfl
    have lov := fun S => lover_c (n := n) (by omega) (hn'.sm (by omega)) (hwn.sm (by omega)) hwp S
    rw [hc0] at lov
    rw [R.ok_bind]
    simp only [hs0]
    rw [R.ok_fl, seq_nx, evSs_cons]
    have gc1 := fun S => (given_course_c (n := n) (by omega) hol (by omega) hxc (by omega) (by rw [hx2.2]; exact h0) S).1
    have gc2 := fun S => (given_course_c (n := n) (by omega) hol (by omega) hxc (by omega) (by rw [hx2.2]; exact h0) S).2
    simp [lov, gc1, gc2, sm2 _ _ (okS_fr 2 _)]
    obtain ⟨G6, rfl⟩ := h5p
    rw [List.append_assoc]
    exact ⟨w2, end_set (by simp) (by simp) (hw2.unders _), hw2.mono (by omega)⟩
end Lw
set_option Elab.async false
set_option linter.all false
set_option maxRecDepth 100000
set_option exponentiation.threshold 20000
set_option maxHeartbeats 1000000
namespace Lw
open PySem PySem.Spec PyProof.Rows L2 Ev Sp
theorem fr_nat (k : Nat) : fr (k : Rat) = .tup [.int k, .int 1] := by simp [fr]
theorem sum_range_succ (f : Nat → Rat) (i : Nat) : sumQ ((List.range (i + 1)).map f) = sumQ ((List.range i).map f) + f i := by
  rw [List.range_succ, List.map_append, List.map_singleton]
  simp [sumQ]
theorem right_c {n : Nat} (hn : 20 ≤ n) {S : Store} {r N : Nat} {w : List D} (hw : lstOf S r = some w) (hW : WlL w N) (hN : N < 400000) : WRes S r (N + 20) ((kap P n).call "_law_right" [.ref r] [] S) := by
  obtain ⟨n, rfl⟩ : ∃ m, n = m + 1 := ⟨n - 1, by omega⟩
  rw [call_eq fn__law_right (σ := [.ref r]) (by rfl)]
  have hr := lstOf_lt hw
  obtain ⟨l, hl, h1l, h6, w1, e1, hw1⟩ := lrow_c (n := n) (by omega) hw hW (a := 1) (b := 6) (by omega) (by omega) (by omega)
  simp only [f__law_right]
  rw [evSs_cons]
  simp [-evSs_cons] at e1 ⊢
  rw [e1]
  simp [-evSs_cons]
  rw [evSs_cons]
  obtain ⟨d, hd, w2, e2, hw2⟩ := draw_c (n := n) (by omega) (lstOf_set_self (w := w1) hr) hw1 (by omega) (L := l.length) (by omega) (by omega)
  rw [List.set_set] at e2
  simp [-evSs_cons]
  rw [e2]
  obtain ⟨m, hm⟩ : ∃ m, m = d + 1 := ⟨_, rfl⟩
  have em : (1 : Int) + (d : Nat) = (m : Nat) := by omega
  have lk := fun S => lcourses_c (n := n) (by omega) (S := S) (l := l) (fun q hq => (hl q hq).cn) (by omega)
  simp [-evSs_cons, em, lk]
  rw [evSs_cons]
  obtain ⟨w3, e3, hw3⟩ := lgr_c (n := n) (by omega) (S := S.set r (.lst w2) ++ [.lst ((coursesN (fun k => l.getD k 0) l.length).map encC)]) (r := r) (m := m) (wlst hr) hw2 (by omega) hl (by omega) (by omega) (by omega) (by omega)
  rw [wset hr] at e3
  simp at e3
  simp [-evSs_cons]
  rw [e3]
  simp [-evSs_cons]
  rw [evSs_cons]
  simp [-evSs_cons]
  rw [evSs_cons]
  simp [-evSs_cons]
  rw [srcB_rng (by omega)]
  simp [-evSs_cons]
  have hin := coursesN_in (f := fun k => l.getD k 0) (k := l.length) (fun j hj => (ch_at hl hj).cn)
  have hlen := coursesN_len (fun k => l.getD k 0) l.length
  have h2i : 2 ^ l.length ≤ 2 ^ 6 := Nat.pow_le_pow_right (by decide) h6
  have haf := fun j (hj : j < l.length) => after_eq (l := l) (m := m) (j := j) hj
  have hbf := fun j (hj : j < l.length) => before_eq (l := l) (m := m) (j := j) hj
  simp only [List.getD_eq_getElem?_getD] at hin hlen haf hbf
  generalize hcs : coursesN (fun k => l[k]?.getD 0) l.length = cs at *
  have sm2 : ∀ (x : D) S, okS 3 x = true → (kap P n).call "_law_same" [.tup [x, x], .tup [x, x]] [] S = .ok (.bl true) S := fun x S h => same_c 4 (by omega) (by simp [okS] at h ⊢; exact h) S
  have hz : (D.tup [.int 0, .int 1]) = fr 0 := rfl
  have an : ∀ k, Nc 25 (aftQ l m k) := fun k => aftQ_nc hl (by omega) m k
  have s1 : ∀ i ≤ 6, Nc 31 (sumQ ((List.range i).map (aftQ l m))) := fun i hi => by
    have := sum_nc' (k := 25) (l := (List.range i).map (aftQ l m)) (fun q hq => by
      obtain ⟨k, _, rfl⟩ := List.mem_map.mp hq
      exact an k)
    exact this.mono (by simp; omega)
  have s2 : ∀ i ≤ 6, Nc 35 (sumQ ((List.range i).map fun (k : Nat) => (k : Rat) * aftQ l m k)) := fun i hi => by
    have := sum_nc' (k := 29) (l := (List.range i).map fun (k : Nat) => (k : Rat) * aftQ l m k) (fun q hq => by
      obtain ⟨k, hk, rfl⟩ := List.mem_map.mp hq
      have hk' : k < i := by simpa using hk
      exact ((nat_nc (t := k) (by omega)).mul (an k)).mono (by omega))
    exact this.mono (by simp; omega)
  have ls : ∀ (t : List Nat → Bool) (S' : Store) (a : Nat), lstOf S' a = some (((cs.filter fun x => t x.1).map (·.2)).map fr) → (kap P n).call "_law_sum" [.ref a] [] S' = .ok (fr (wsum t cs)) S' := fun t S' a h => by
    have g1 : ∀ q ∈ (cs.filter fun x => t x.1).map (·.2), Nc l.length q := fun q hq => by
      obtain ⟨x, hx, rfl⟩ := List.mem_map.mp hq
      exact (hin x (List.mem_filter.mp hx).1).2.2
    have g2 : ((cs.filter fun x => t x.1).map (·.2)).length ≤ 64 := by
      have := (List.filter_sublist (p := fun x : List Nat × Rat => t x.1) (l := cs)).length_le
      rw [List.length_map]; omega
    rw [lsum_c (n := n) (by omega) (.inr ⟨_, rfl, h⟩) (fun q hq => (g1 q hq).sm (by omega)) (fun i => (sum_nc g1 i).sm (by omega)), wsum_filter]
  have hmm : ∀ t : List Nat → Bool, ((cs.filter fun x => t x.1).map fun x => fr x.2) = ((cs.filter fun x => t x.1).map (·.2)).map fr := fun t => by rw [List.map_map]; rfl
  have emm : (m : Int) - 1 = ((m - 1 : Nat) : Int) := by omega
  have rows0 : ∀ G, lstOf (S.set r (.lst w3) ++ .lst (cs.map encC) :: G) S.length = some (cs.map encC) := fun G => by
    have := lstOf_app0 (S.set r (.lst w3)) (.lst (cs.map encC) :: G)
    simpa using this
  generalize hF : forB _ _ _ _ _ _ _ _ = F
  obtain ⟨σ', S', rfl, z6, z7, z8, rfl, G, rfl⟩ := for_all hF (fun i σ S2 => ∃ z6 z7 z8, σ = [.ref r, .tup (l.map fr), .int m, .ref S.length, fr (sumQ ((List.range i).map fun (k : Nat) => (k : Rat) * aftQ l m k)), fr (sumQ ((List.range i).map (aftQ l m))), z6, z7, z8, .uns, .uns, .uns] ∧ ∃ G, S2 = S.set r (.lst w3) ++ .lst (cs.map encC) :: G) (fun i σ S1 h => rfl) ⟨_, _, _, rfl, _, rfl⟩ (fun i x σ S2 hx h => by
    obtain ⟨z6, z7, z8, rfl, G, rfl⟩ := h
    have hi : i < l.length := by
      have := (List.getElem?_eq_some_iff.mp hx).1
      simpa using this
    rw [List.getElem?_map, List.getElem?_range hi] at hx
    obtain rfl : D.int i = x := by simpa using hx
    refine ⟨_, rfl, ?_⟩
    have lt := fun S => ltimes_c (n := n) (by omega) (nat_nc (t := i) (by omega)).sm ((an i).sm (by omega)) S
    rw [fr_nat] at lt
    have lp1 := fun S => lplus_c (n := n) (by omega) ((s2 i (by omega)).sm (by omega)) (((nat_nc (t := i) (by omega)).mul (an i)).sm (by omega)) S
    have lp2 := fun S => lplus_c (n := n) (by omega) ((s1 i (by omega)).sm (by omega)) ((an i).sm (by omega)) S
    rw [← sum_range_succ (fun (k : Nat) => (k : Rat) * aftQ l m k)] at lp1
    rw [← sum_range_succ (aftQ l m)] at lp2
    generalize sumQ ((List.range i).map fun (k : Nat) => (k : Rat) * aftQ l m k) = u1 at *
    generalize sumQ ((List.range i).map (aftQ l m)) = u2 at *
    generalize hv1 : sumQ ((List.range (i + 1)).map fun (k : Nat) => (k : Rat) * aftQ l m k) = v1 at *
    generalize hv2 : sumQ ((List.range (i + 1)).map (aftQ l m)) = v2 at *
    have ac1 := fun S => (after_chance_c (n := n) (by omega) hl (by omega) (m := m) (by omega) (by omega) hi S).1
    have ac2 := fun S => (after_chance_c (n := n) (by omega) hl (by omega) (m := m) (by omega) (by omega) hi S).2
    have bc1 := fun S => (before_chance_c (n := n) (by omega) hl (by omega) (m := m) (by omega) (by omega) hi S).1
    have bc2 := fun S => (before_chance_c (n := n) (by omega) hl (by omega) (m := m) (by omega) (by omega) hi S).2
    have la := ls (aftT (m - 1) i)
    have lb := ls (befT (m - 1) i)
    rw [haf i hi] at la
    rw [hbf i hi] at lb
    rw [evSs_cons]
    simp [-evSs_cons, rows0]
    generalize hC : lcB _ _ _ _ _ _ _ _ _ = C
    obtain ⟨G1, rfl⟩ := lc_filter (S.set r (.lst w3) ++ .lst (cs.map encC) :: G) hC (enc := encC) (xs := cs) (t := fun x => aftT (m - 1) i x.1) (g := fun x => fr x.2) rfl (by omega) (src_ref_okG (rows0 _)) (fun x hx => ⟨by simp, _, rfl, fun S' _ => by
      simp only [aftT_eq (c := x.1) (m := m) (k := i) (by omega)]
      by_cases hmc : m ≤ x.1.length
      · simp [noClo, wipeD, encC, hmc, emm, sub_nats (show m - 1 < x.1.length by omega)]
        omega
      · simp [noClo, wipeD, encC, hmc]⟩)
    rw [hmm (aftT (m - 1) i)]
    have l1 := la (S.set r (.lst w3) ++ .lst (cs.map encC) :: (G ++ .lst (((cs.filter fun x => aftT (m - 1) i x.1).map (·.2)).map fr) :: G1)) (S.length + (G.length + 1)) (by
      have := lstOf_app0 (S.set r (.lst w3) ++ .lst (cs.map encC) :: G) (.lst (((cs.filter fun x => aftT (m - 1) i x.1).map (·.2)).map fr) :: G1)
      simpa [List.append_assoc, Nat.add_assoc, Nat.add_comm 1] using this)
    simp [-evSs_cons] at l1
    simp [-evSs_cons]
    rw [l1]
    simp [-evSs_cons]
    generalize (G ++ Cell.lst _ :: G1 : Store) = G2
    rw [evSs_cons]
    simp [-evSs_cons, rows0]
    generalize hC2 : lcB _ _ _ _ _ _ _ _ _ = C2
    obtain ⟨G3, rfl⟩ := lc_filter (S.set r (.lst w3) ++ .lst (cs.map encC) :: G2) hC2 (enc := encC) (xs := cs) (t := fun x => befT (m - 1) i x.1) (g := fun x => fr x.2) rfl (by omega) (src_ref_okG (rows0 _)) (fun x hx => ⟨by simp, _, rfl, fun S' _ => by
      simp only [befT_eq (c := x.1) (m := m) (k := i) (by omega)]
      by_cases hmc : m ≤ x.1.length
      · simp [noClo, wipeD, encC, hmc, sub_neg (c := x.1) (m := m) (by omega) hmc]
        omega
      · simp [noClo, wipeD, encC, hmc]⟩)
    rw [hmm (befT (m - 1) i)]
    have l2 := lb (S.set r (.lst w3) ++ .lst (cs.map encC) :: (G2 ++ .lst (((cs.filter fun x => befT (m - 1) i x.1).map (·.2)).map fr) :: G3)) (S.length + (G2.length + 1)) (by
      have := lstOf_app0 (S.set r (.lst w3) ++ .lst (cs.map encC) :: G2) (.lst (((cs.filter fun x => befT (m - 1) i x.1).map (·.2)).map fr) :: G3)
      simpa [List.append_assoc, Nat.add_assoc, Nat.add_comm 1] using this)
    simp [-evSs_cons] at l2
    simp [-evSs_cons]
    rw [l2]
    simp [lt, lp1, lp2, ac1, ac2, bc1, bc2, sm2 _ _ (okS_fr 2 _)])
  simp only [List.length_map, List.length_range]
  have hfin : ∀ G, WRes S r (N + 20) (endD S (.rt (.bl true) (S.set r (.lst w3) ++ G))) := fun G => ⟨w3, end_set (by simp) (by simp) (hw3.unders _), hw3.mono (by omega)⟩
  have hlow := aft_sum_lo hl m
  have am := fun (h : 0 < sumQ ((List.range l.length).map (aftQ l m))) S => after_mean_c (n := n) (by omega) hl (by omega) (m := m) (by omega) (by omega) h S
  have amx := fun (h : sumQ ((List.range l.length).map (aftQ l m)) = 0) S => after_mean_x (n := n - 2) (by omega) hl (by omega) (m := m) (by omega) (by omega) h S
  have hdef : amnQ l m = sumQ ((List.range l.length).map fun (k : Nat) => (k : Rat) * aftQ l m k) / sumQ ((List.range l.length).map (aftQ l m)) := rfl
  have n1 := s1 l.length h6
  have n2 := s2 l.length h6
  generalize sumQ ((List.range l.length).map fun (k : Nat) => (k : Rat) * aftQ l m k) = u1 at *
  generalize sumQ ((List.range l.length).map (aftQ l m)) = u2 at *
  generalize (Cell.lst (cs.map encC) :: G : Store) = G1
  simp [-evSs_cons]
  rw [evSs_cons]
  by_cases hu : u2 = 0
  · obtain ⟨G9, h9⟩ := amx hu (S.set r (.lst w3) ++ G1)
    have nv := lnever_c (n := n) (by omega) (j := 5) (σ' := [.ref r, .tup (l.map fr), .int m, .ref S.length, fr u1, fr u2, z6, z7, z8, .uns, .uns, .uns]) (S := S.set r (.lst w3) ++ G1) ⟨G9, by
      rw [show n - 1 = (n - 2) + 1 by omega, clo_eq la__law_right_0 rfl rfl]
      simp [noClo, lb__law_right_0, h9]⟩
    simp [hu] at nv ⊢
    rw [nv]
    simp
    exact hfin _
  · have hu0 : 0 < u2 := by grind
    have lov := fun S => lover_c (n := n) (by omega) (n2.sm (by omega)) (n1.sm (by omega)) hu0 S
    rw [← hdef] at lov
    have a1 := fun S => (am hu0 S).1
    have a2 := fun S => (am hu0 S).2
    simp [hu, lov, a1, a2, sm2 _ _ (okS_fr 2 _)]
    exact hfin _
end Lw
set_option Elab.async false
set_option linter.all false
set_option maxRecDepth 100000
set_option exponentiation.threshold 20000
set_option maxHeartbeats 1000000
namespace Lw
open PySem PySem.Spec PyProof.Rows L2 Ev Sp
theorem well_c {n : Nat} (hn : 1 ≤ n) (ns : List Int) (lap : Nat) (hl : lap < 2) (hns : ns.length ≤ 63) (S : Store) : ∃ w, WlL w 0 ∧ (kap P n).call "_law_well" [scr ns, .int lap] [] S = .ok (.ref S.length) (S ++ [.lst w]) := by
  obtain ⟨n, rfl⟩ : ∃ m, n = m + 1 := ⟨n - 1, by omega⟩
  rw [call_eq fn__law_well (σ := [scr ns, .int lap]) (by rfl)]
  have hm : mulOk 7013 lap = true := mul_ok1 (by decide) (by decide) (by omega) (by omega)
  have hfl : D.flats (ns.map .int) = true := flats_all.mpr fun d hd => by
    obtain ⟨x, _, rfl⟩ := List.mem_map.mp hd
    rfl
  have hlen : (ns.map D.int).length ≤ 63 := by simpa using hns
  have hcut : Ev.cutD (ns.map .int) none (some 12) = (ns.map .int).take 12 := cutD_take _ 12
  have hsl : slD (.rl (ns.map .int)) none (some 12) S = .ok (.ref S.length) (S ++ [.lst ((ns.map .int).take 12)]) := by
    simp only [slD, items, hcut]
    rw [newD_ok (by rw [List.length_take]; omega) (flats_take hfl _)]
  simp [f__law_well, scr, bin_mul_int, hm, hsl]
  generalize hF : forB _ _ _ _ _ _ _ _ = F
  have hsr : lstOf (S ++ [.lst ((ns.map D.int).take 12)]) S.length = some ((ns.map D.int).take 12) := by simp
  obtain ⟨σ', S', rfl, st, z, rfl, rfl, hs0, hs1⟩ := for_all hF (fun i σ S2 => ∃ st z, σ = [.rl (ns.map .int), .int lap, .int st, z, .uns] ∧ S2 = S ++ [.lst ((ns.map D.int).take 12)] ∧ 0 ≤ st ∧ st < 2147483563) (fun i σ S1 h => by
    obtain ⟨_, _, _, rfl, _⟩ := h
    exact src_ref_okG hsr _ (List.prefix_refl _)) ⟨_, _, rfl, rfl, by omega, by omega⟩ (fun i x σ S2 hx h => by
    obtain ⟨st, z, rfl, rfl, hs0, hs1⟩ := h
    have hx2 := List.mem_of_mem_take (List.mem_of_getElem? hx)
    obtain ⟨o, _, rfl⟩ := List.mem_map.mp hx2
    refine ⟨_, rfl, ?_⟩
    have m1 : mulOk st 45281 = true := mul_ok1 hs0 (by omega) (by decide) (by decide)
    simp [bin_mul_int, m1, bin_mod_int]
    omega)
  have fin : ∀ o : Int, ∃ w, WlL w 0 ∧ endD S (evSs (kap P n) (ecOf P) (.cons (.asg (.v 2) (.bin .mod (.bi .int (.cons (.bin .add (.bin .add (.bin .mul (.var 2) (.cint 41)) (.bin .mul (.bin .mod (.bi .int (.cons (.var 4) .nil)) (.cint 2147483549)) (.cint 15031))) (.cint 5)) .nil)) (.cint 2147483563))) (.cons (.ret (.lst (.cons (.ifx (.or (.cmp .lt (.var 4) (.cint 0)) (.cmp .ge (.var 4) (.bin .pow (.cint 10) (.cint 15)))) (.bi .abs (.cons (.var 4) .nil)) (.cint 0)) (.cons (.var 2) (.cons (.cint 0) .nil))))) .nil)) [.rl (ns.map .int), .int lap, .int st, z, .int o] (S ++ [.lst ((ns.map D.int).take 12)])) = .ok (.ref S.length) (S ++ [.lst w]) := fun o => by
    have m1 : mulOk st 41 = true := mul_ok1 hs0 (by omega) (by decide) (by decide)
    have m2 : mulOk (o % 2147483549) 15031 = true := mul_ok1 (by omega) (by omega) (by decide) (by decide)
    have hp : ∀ S, binop .pow (.int 10) (.int 15) S = .ok (.int (10 ^ 15)) S := fun S => by
      have : (decide ((0 : Int) ≤ 15) && decide ((15 : Int) ≤ 1000000) && decide ((10 : Int).natAbs < 2 ^ 64)) = true := by decide +kernel
      unfold binop
      dsimp only
      rw [this]
      rfl
    have hab : ∀ S, bltD .abs [.int o] S = .ok (.int (o.natAbs : Nat)) S := fun S => by
      have ha : (if o < 0 then -o else o) = ((o.natAbs : Nat) : Int) := by split <;> omega
      simp [bltD, ha]
    generalize hst : (st * 41 + o % 2147483549 * 15031 + 5) % 2147483563 = st'
    by_cases h1 : o < 0
    · refine ⟨[.int o.natAbs, .int st', .int 0], ⟨_, _, _, rfl, by omega, by omega, by omega, by omega, by omega⟩, ?_⟩
      simp [bin_mul_int, m1, m2, bin_mod_int, hst, h1, hab, newD_ok]
      exact end_ref (k := 1) rfl rfl
    · by_cases h2 : 10 ^ 15 ≤ o
      · refine ⟨[.int o.natAbs, .int st', .int 0], ⟨_, _, _, rfl, by omega, by omega, by omega, by omega, by omega⟩, ?_⟩
        simp at h2
        simp [bin_mul_int, m1, m2, bin_mod_int, hst, h1, h2, hp, hab, newD_ok]
        exact end_ref (k := 1) rfl rfl
      · refine ⟨[.int 0, .int st', .int 0], ⟨_, _, _, rfl, by omega, by omega, by omega, by omega, by omega⟩, ?_⟩
        simp at h2
        have h2' : ¬ (1000000000000000 ≤ o) := by omega
        simp [bin_mul_int, m1, m2, bin_mod_int, hst, h1, h2', hp, newD_ok]
        exact end_ref (k := 1) rfl rfl
  have hlr : ∀ S, bltD .len [.rl (ns.map .int)] S = .ok (.int ns.length) S := fun S => by simp [bltD, items]
  by_cases hlt : lap < ns.length
  · have hsub : ∀ S, subD (.rl (ns.map .int)) (.int lap) S = .ok (.int ns[lap]) S := fun S => by
      simp [subD, items, atD_nat, List.getElem?_eq_getElem hlt]
    simp [hlr, hlt, hsub, -evSs_cons]
    simpa using fin _
  · simp [hlr, hlt, -evSs_cons]
    simpa using fin _
theorem law_c {k : Nat} (hk : 30 ≤ k) (ns : List Int) (hns : ns.length ≤ 63) : ∃ S', callD P (kap P k) "law" [scr ns] [] [] = .ok (.bl true) S' := by
  show ∃ S', (kap P (k + 1)).call "law" [scr ns] [] [] = .ok (.bl true) S'
  rw [call_eq fn_law (σ := [scr ns]) (by rfl)]
  have hfl : D.flats (ns.map .int) = true := flats_all.mpr fun d hd => by
    obtain ⟨x, _, rfl⟩ := List.mem_map.mp hd
    rfl
  simp only [f_law]
  simp
  rw [show (D.int 2) = .int ((2 : Nat) : Int) from rfl, srcB_rng (by omega)]
  simp
  generalize hC : lcB _ _ _ _ _ _ _ _ _ = C
  obtain ⟨acc, S', rfl, ws, hws, rfl, rfl, hw⟩ := lc_inv hC (fun i acc S1 => ∃ ws : List (List D), ws.length = i ∧ acc = (List.range i).map (fun k => .ref (k + 1)) ∧ S1 = .lst acc :: ws.map .lst ∧ ∀ w ∈ ws, WlL w 0) (fun i acc S1 h => rfl) (acc := []) ⟨[], rfl, rfl, rfl, by simp⟩ (fun i x acc S1 hx h => by
    obtain ⟨ws, hws, rfl, rfl, hw⟩ := h
    have hi : i < 2 := by
      have := (List.getElem?_eq_some_iff.mp hx).1
      simpa using this
    rw [List.getElem?_map, List.getElem?_range hi] at hx
    obtain rfl : D.int i = x := by simpa using hx
    refine ⟨rfl, _, rfl, ?_⟩
    obtain ⟨w, hw1, e⟩ := well_c (n := k) (by omega) ns i hi hns (.lst ((List.range i).map (fun k => .ref (k + 1))) :: ws.map .lst)
    simp [noClo, wipeD, scr, hfl] at e ⊢
    rw [e]
    simp
    refine ⟨by omega, ws ++ [w], by simp [hws], ?_, by simp, ?_⟩
    · rw [List.range_succ]; simp [hws]
    · intro x hx
      rcases List.mem_append.mp hx with h | h
      · exact hw x h
      · simp at h; subst h; exact hw1)
  simp at hws
  obtain ⟨w0, w1, rfl⟩ : ∃ w0 w1, ws = [w0, w1] := by
    match ws, hws with
    | [a, b], _ => exact ⟨a, b, rfl⟩
  have hw0 := hw w0 (by simp)
  have hw1 := hw w1 (by simp)
  simp
  rw [show (D.int 16) = .int ((16 : Nat) : Int) from rfl, srcB_rng (by omega)]
  simp
  generalize hC : lcB _ _ _ _ _ _ _ _ _ = C
  obtain ⟨acc, S', rfl, v0, v1, rfl, rfl, hv0, hv1⟩ := lc_inv hC (fun i acc S1 => ∃ v0 v1, acc = List.replicate i (.bl true) ∧ S1 = [.lst [.ref 1, .ref 2], .lst v0, .lst v1, .lst acc] ∧ WlL v0 (20 * i) ∧ WlL v1 (20 * i)) (fun i acc S1 h => rfl) (acc := []) ⟨w0, w1, rfl, rfl, hw0, hw1⟩ (fun i x acc S1 hx h => by
    obtain ⟨v0, v1, rfl, rfl, hv0, hv1⟩ := h
    have hi : i < 16 := by
      have := (List.getElem?_eq_some_iff.mp hx).1
      simpa using this
    rw [List.getElem?_map, List.getElem?_range hi] at hx
    obtain rfl : D.int i = x := by simpa using hx
    refine ⟨rfl, _, rfl, ?_⟩
    rcases Nat.mod_two_eq_zero_or_one i with hm | hm
    · have hm' : (i : Int) % 2 = 0 := by omega
      obtain ⟨w', e, hw'⟩ := right_c (n := k) (by omega) (S := [.lst [.ref 1, .ref 2], .lst v0, .lst v1, .lst (List.replicate i (.bl true))]) (r := 1) (N := 20 * i) (w := v0) rfl hv0 (by omega)
      simp [noClo, wipeD, scr, hfl, bin_mod_int, hm']
      rw [sub_refI (l := [.ref 1, .ref 2]) rfl (by decide) rfl]
      simp
      rw [e]
      simp
      exact ⟨by omega, by rw [List.replicate_succ'], w', v1, ⟨rfl, rfl⟩, hw'.mono (by omega), hv1.mono (by omega)⟩
    · have hm' : (i : Int) % 2 = 1 := by omega
      obtain ⟨w', e, hw'⟩ := right_c (n := k) (by omega) (S := [.lst [.ref 1, .ref 2], .lst v0, .lst v1, .lst (List.replicate i (.bl true))]) (r := 2) (N := 20 * i) (w := v1) rfl hv1 (by omega)
      simp [noClo, wipeD, scr, hfl, bin_mod_int, hm']
      rw [sub_refI (l := [.ref 1, .ref 2]) rfl (by decide) rfl]
      simp
      rw [e]
      simp
      exact ⟨by omega, by rw [List.replicate_succ'], v0, w', ⟨rfl, rfl⟩, hv0.mono (by omega), hw'.mono (by omega)⟩)
  simp [bltD, lstOf, blsOf]
  exact ⟨[], end_val (S := []) (G := _) rfl rfl⟩
end Lw
set_option Elab.async false
set_option linter.all false
set_option maxRecDepth 100000
set_option maxHeartbeats 0
namespace Lw
open PySem PySem.Spec PyProof.Rows L2 Ev
def file : PySem.Str := "/claim/cut.py"
abbrev R : PySem.W.OpenRow := PySem.W.OpenLaw.row PySem.Challenge.rw_signstops_k75_whole_just_so_many_and_eac
abbrev hk : PySem.W.Hook := hookV fi gl bs file ecs
def ob (s : PySem.W.SharedT) : He.AlD := obsV fi gl bs file ecs (HandSHeadRun.getT s)
theorem ob_eq (s : PySem.W.SharedT) : ob s = hk.obs s.abs := obsV_eq (HandSHeadRun.getT_eq s)
theorem run (w : World) : HandSHeadRun.RunEq R (PySem.W.view R.prog [80]) hk ob 4000 loose w := by
  intro os
  kernel_rfl
end Lw
set_option Elab.async false
set_option linter.all false
set_option maxRecDepth 100000
set_option maxHeartbeats 0
open PySem PySem.W PySem.Calls PyProof.Rows
theorem Lw.holds (k : Nat) (hk : k < 40) (L : Ev.LawSays Lw.fi Lw.gl Lw.bs Lw.ecs Lw.lams k 63 "script" Lw.i_law) : PySem.Challenge.rw_signstops_k75_whole_just_so_many_and_eac.Holds := by
  w_on; o_law
  refine HandSHeadRun.head_any (r := OpenLaw.row PySem.Challenge.rw_signstops_k75_whole_just_so_many_and_eac) (q := view (OpenLaw.row PySem.Challenge.rw_signstops_k75_whole_just_so_many_and_eac).prog [80]) (H := Lw.hk) (ob := Lw.ob) (M := 4000) (loose := Lw.loose) (d := HandSHeadRun.topDef (OpenLaw.row PySem.Challenge.rw_signstops_k75_whole_just_so_many_and_eac).prog 80) (kwd := []) Lw.ob_eq
    (by kernel_rfl) (fun s => by kernel_rfl) Lw.run (by kernel_rfl) (by kernel_rfl) (by kernel_rfl) (by rfl) (by first | assumption | decide +kernel) (by decide +kernel) ⟨rfl, rfl, rfl, rfl, rfl, by decide +kernel⟩ ?hw ?hc
  case hw => w_witness2
  case hc =>
    exact Ev.law_walk (l := PySem.Challenge.rw_signstops_k75_whole_just_so_many_and_eac) L (file := Lw.file) (by kernel_rfl) (by kernel_rfl) rfl (by decide) (by kernel_rfl) (by kernel_rfl) ((show L2.Room 50 callerA from ⟨rfl, by decide, by decide⟩).mono (by omega))
theorem PySem.Challenge.cw_signstops_k75_whole_just_so_many_and_eac_holds : PySem.Challenge.rw_signstops_k75_whole_just_so_many_and_eac.Holds := by
  exact Lw.holds 30 (by decide) ⟨by rfl, by rfl, by rfl, Lw.ok, by decide +kernel, by decide +kernel, fun ns h _ => Lw.law_c (k := 30) (by decide) ns h⟩
