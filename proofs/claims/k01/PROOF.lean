import PyProof.Rows.All
import Wide.All
import OpenK.AllK
import Wide.FinOn
import HandS.ForMost
import HandS.ForExc
import HandS.Deep
import HandS.Wide
import HandS.Flow
import HandS.IsInst
import HandS.Codes
import HandS.TupAny
import HandS.Dict
import HandS.SortInts
import HandS.More
import KE.KIndexOf
import HandS.Comp
import HandS.Iter
import HandS.CallSlots
import HandS.Small
import HandS.DictComp
import HandS.Style
import KE.GoesEnum
import PySem.Challenge.RW_warmmill_k01_one_form_shown
set_option Elab.async false
set_option linter.all false
set_option maxRecDepth 100000
/-! PX: a small language with a plain meaning (values as trees, a store of lists and objects), into which the defs of a text are turned. -/
namespace PX
open PySem

inductive D where
  | non | bl (b : Bool) | int (i : Int) | str (s : List Nat) | tup (xs : List D) | fl (xs : List D) | kd (n : Nat) | ref (n : Nat) | fd (ks vs : List D)
  deriving Inhabited

mutual
def D.beq : D → D → Bool
  | .non, .non => true
  | .bl a, .bl b => a == b
  | .int a, .int b => a == b
  | .str a, .str b => a == b
  | .tup a, .tup b => D.beqs a b
  | .fl a, .fl b => D.beqs a b
  | .kd a, .kd b => a == b
  | .ref a, .ref b => a == b
  | .fd a b, .fd c d => D.beqs a c && D.beqs b d
  | _, _ => false
def D.beqs : List D → List D → Bool
  | [], [] => true
  | x :: xs, y :: ys => D.beq x y && D.beqs xs ys
  | _, _ => false
end
mutual
theorem D.eq_of_beq : ∀ {x y : D}, D.beq x y = true → x = y
  | .non, y, h => by cases y <;> simp_all [D.beq]
  | .bl a, y, h => by cases y <;> simp_all [D.beq]
  | .int a, y, h => by cases y <;> simp_all [D.beq]
  | .str a, y, h => by cases y <;> simp_all [D.beq]
  | .tup a, y, h => by cases y <;> first | (simp only [D.beq] at h; exact congrArg D.tup (D.eqs_of_beqs h)) | simp [D.beq] at h
  | .fl a, y, h => by cases y <;> first | (simp only [D.beq] at h; exact congrArg D.fl (D.eqs_of_beqs h)) | simp [D.beq] at h
  | .kd a, y, h => by cases y <;> simp_all [D.beq]
  | .ref a, y, h => by cases y <;> simp_all [D.beq]
  | .fd a b, y, h => by
    cases y with
    | fd c d =>
      simp only [D.beq, Bool.and_eq_true] at h
      rw [D.eqs_of_beqs h.1, D.eqs_of_beqs h.2]
    | _ => simp [D.beq] at h
theorem D.eqs_of_beqs : ∀ {xs ys : List D}, D.beqs xs ys = true → xs = ys
  | [], ys, h => by cases ys <;> simp_all [D.beqs]
  | x :: xs, ys, h => by
    cases ys with
    | nil => simp [D.beqs] at h
    | cons y ys =>
      simp only [D.beqs, Bool.and_eq_true] at h
      rw [D.eq_of_beq h.1, D.eqs_of_beqs h.2]
end
mutual
theorem D.beq_refl : ∀ x : D, D.beq x x = true
  | .non => rfl
  | .bl a => by simp [D.beq]
  | .int a => by simp [D.beq]
  | .str a => by simp [D.beq]
  | .tup a => by simp only [D.beq]; exact D.beqs_refl a
  | .fl a => by simp only [D.beq]; exact D.beqs_refl a
  | .kd a => by simp [D.beq]
  | .ref a => by simp [D.beq]
  | .fd a b => by simp only [D.beq, D.beqs_refl a, D.beqs_refl b, Bool.and_self]
theorem D.beqs_refl : ∀ xs : List D, D.beqs xs xs = true
  | [] => rfl
  | x :: xs => by simp only [D.beqs, D.beq_refl x, D.beqs_refl xs, Bool.and_self]
end
theorem D.beq_iff {x y : D} : D.beq x y = true ↔ x = y := ⟨D.eq_of_beq, fun e => e ▸ D.beq_refl x⟩
instance : DecidableEq D := fun x y => decidable_of_iff _ (D.beq_iff (x := x) (y := y))

/-- what stands in the store -/
inductive Ob where
  | lst (xs : List D) | ins (c : Nat) (fs : List (Nat × D)) | dic (kvs : List (D × D)) | ldic (kvs : List (D × D))
  deriving Inhabited
abbrev Sto := List Ob
abbrev Sl := List (Option D)
abbrev QE := D → Sto → Prop
abbrev XQ := Nat → List (Nat × D) → Sto → Prop
abbrev FS := Nat → List D → Sto → QE → XQ → Prop

/-- built-in functions; methods of built-in types -/
inductive BF where
  | len | int | abs | str | tuple | list | max2 | min2 | isi (t : Nat) | sorted | sum | min1 | max1 | set | repr
  deriving DecidableEq
inductive MF where
  | append | pop0 | pop1 | extend | index | join | insert | reverse | get1 | get2 | rstrip | count | split
  deriving DecidableEq
/-- what a for walks -/
inductive IK where
  | seq | rng1 | rng2 | enum | enum1 | zip | rev
  deriving DecidableEq
/-- which list must stay as it is while it is walked, and what is handed out of it -/
inductive WK where
  | free | lst (n : Nat) | enu (b : Int) (n : Nat) | rvd (n : Nat) | key (n : Nat) (kvs : List (D × D)) | two (m n : Nat)
inductive TG where
  | nm (i : Nat) | tp (ts : List TG)
inductive EX where
  | lit (d : D)
  | var (i : Nat)
  | bin (op : Operator) (a b : EX)
  | neg (a : EX)
  | cmp (op : CmpOp) (a b : EX)
  | chn (op op' : CmpOp) (a b c : EX)
  | and (a b : EX) | or (a b : EX) | not (a : EX)
  | ite (c a b : EX)
  | tup (es : List EX) | lst (es : List EX) | dct (es : List EX)
  | ix (a b : EX)
  | sl (a lo hi : EX)
  | call (f : Nat) (es : List EX)
  | blt (f : BF) (es : List EX)
  | meth (m : MF) (o : EX) (es : List EX)
  | lc (own : List Nat) (tg : TG) (ik : IK) (its : List EX) (ifs : List EX) (elt : EX)
  | dc (own : List Nat) (tg : TG) (ik : IK) (its : List EX) (ifs : List EX) (k v : EX)
  | fld (o : EX) (f : Nat)
  | mcall (m : Nat) (cs : List Nat) (o : EX) (es : List EX)
  | rvs (a : EX)
inductive ST where
  | expr (e : EX)
  | asg (tg : TG) (e : EX)
  | aset (o i e : EX)
  | aug (i : Nat) (op : Operator) (e : EX)
  | ite (c : EX) (a b : List ST)
  | whl (c : EX) (b : List ST)
  | for_ (tg : TG) (ik : IK) (its : List EX) (b : List ST)
  | ret (e : EX)
  | brk | cnt | pass
  | fset (o : EX) (f : Nat) (e : EX)
  | faug (o : EX) (f : Nat) (op : Operator) (e : EX)
  | forK (tg : TG) (i : Nat) (b : List ST)
  | ctor (c i : Nat)

/-! ### values -/
def tru (s : Sto) : D → Option Bool
  | .non => some false
  | .bl b => some b
  | .int i => some (i != 0)
  | .str x => some (!x.isEmpty)
  | .tup xs => some (!xs.isEmpty)
  | .fl xs => some (!xs.isEmpty)
  | .ref n => match s[n]? with
    | some (.lst xs) => some (!xs.isEmpty)
    | _ => none
  | .kd _ => none
  | .fd _ _ => none
/-- one way or the other -/
def br (o : Option Bool) (A B : Prop) : Prop := match o with
  | some true => A
  | some false => B
  | none => False
def obl (o : Option Bool) (K : Bool → Prop) : Prop := match o with
  | some b => K b
  | none => False
/-- a list or a tuple that is read -/
def seqOf (s : Sto) : D → Option (List D)
  | .tup xs => some xs
  | .fl xs => some xs
  | .ref n => match s[n]? with
    | some (.lst xs) => some xs
    | _ => none
  | _ => none
mutual
/-- the lists resolved -/
def resW (r : Nat → Option D) : D → Option D
  | .tup xs => (resWs r xs).map .tup
  | .fl xs => (resWs r xs).map .fl
  | .ref n => r n
  | .kd _ => none
  | .fd _ _ => none
  | .non => some .non
  | .bl b => some (.bl b)
  | .int i => some (.int i)
  | .str x => some (.str x)
def resWs (r : Nat → Option D) : List D → Option (List D)
  | [] => some []
  | x :: xs => match resW r x, resWs r xs with
    | some y, some ys => some (y :: ys)
    | _, _ => none
end
def res (s : Sto) : Nat → D → Option D
  | 0 => resW (fun _ => none)
  | k + 1 => resW (fun n => match s[n]? with
    | some (.lst xs) => (resWs (fun m => res s k (.ref m)) xs).map .fl
    | _ => none)
mutual
/-- no bool, no def; not too deep -/
def nob : Nat → D → Bool
  | _, .non => true
  | _, .int _ => true
  | _, .str _ => true
  | k + 1, .tup xs => nobs k xs
  | k + 1, .fl xs => nobs k xs
  | _, _ => false
def nobs : Nat → List D → Bool
  | _, [] => true
  | k, x :: xs => nob k x && nobs k xs
end
def eqDeep (s : Sto) (x y : D) : Option Bool := match res s 3 x, res s 3 y with
  | some a, some b => if nob 40 a && nob 40 b then some (decide (a = b)) else none
  | _, _ => none
def eqD (s : Sto) : D → D → Option Bool
  | .int i, .int j => some (decide (i = j))
  | .str a, .str b => some (decide (a = b))
  | .bl a, .bl b => some (decide (a = b))
  | x, y => eqDeep s x y
def flatD : D → Bool
  | .non | .bl _ | .int _ | .str _ => true
  | _ => false
def eqF : D → D → Bool
  | .non, .non => true
  | .bl a, .bl b => a == b
  | .bl a, .int b => (if a then 1 else 0) == b
  | .int a, .bl b => a == (if b then 1 else 0)
  | .int a, .int b => a == b
  | .str a, .str b => a == b
  | _, _ => false
def subS (a b : List Nat) : Bool := !(Builtin.Str.occurrences ⟨b.toArray⟩ ⟨a.toArray⟩ 0 b.length 1).isEmpty
/-- a key -/
def keyOk : D → Bool
  | .int _ | .str _ => true
  | _ => false
/-- .. for this dict (those of the module have texts) -/
def kOk : D → D → Bool
  | .fd _ _, .str _ => true
  | .fd _ _, _ => false
  | _, k => keyOk k
def dGet (kvs : List (D × D)) (k : D) : Option D := (kvs.find? fun p => decide (p.1 = k)).map (·.2)
def dPut (kvs : List (D × D)) (k v : D) : List (D × D) := if (kvs.any fun p => decide (p.1 = k)) = true then kvs.map fun p => if p.1 = k then (p.1, v) else p else kvs ++ [(k, v)]
/-- a dict that is read -/
def dicOf (s : Sto) : D → Option (List (D × D))
  | .fd ks vs => some (ks.zip vs)
  | .ref n => match s[n]? with
    | some (.dic kvs) => some kvs
    | some (.ldic kvs) => some kvs
    | _ => none
  | _ => none
def pairUp : List D → Option (List (D × D))
  | [] => some []
  | k :: v :: r => if keyOk k then (pairUp r).map fun l => (k, v) :: l else none
  | [_] => none
def inS (s : Sto) (x y : D) : Option Bool := match y with
  | .str b => match x with
    | .str a => some (subS a b)
    | _ => none
  | y => match seqOf s y with
    | some ys => if flatD x && ys.all flatD then some (ys.any fun z => eqF z x) else none
    | none => none
def inD (s : Sto) (x y : D) : Option Bool := match dicOf s y with
  | some kvs => if kOk y x then some (dGet kvs x).isSome else none
  | none => inS s x y
def isNon : D → Bool
  | .non => true
  | _ => false
def cmpD (s : Sto) : CmpOp → D → D → Option Bool
  | .Eq, x, y => eqD s x y
  | .NotEq, x, y => (eqD s x y).map fun b => !b
  | .Lt, .int i, .int j => some (decide (i < j))
  | .LtE, .int i, .int j => some (decide (i ≤ j))
  | .Gt, .int i, .int j => some (decide (j < i))
  | .GtE, .int i, .int j => some (decide (j ≤ i))
  | .Is, x, .non => some (isNon x)
  | .IsNot, x, .non => some (!isNon x)
  | .In, x, y => inD s x y
  | .NotIn, x, y => (inD s x y).map fun b => !b
  | _, _, _ => none
def mulOk (i j : Int) : Prop := i.natAbs.log2 + j.natAbs.log2 < 1000000
def divOk (j : Int) : Prop := 0 < j ∧ j.natAbs.log2 < 9000
def powOk (i j : Int) : Prop := 0 ≤ j ∧ j ≤ 1000000 ∧ i.natAbs < 2 ^ 64
/-- what is new in the store stands at its end -/
def mk (o : Ob) (s : Sto) (Q : QE) : Prop := Q (.ref s.length) (s ++ [o])
def xBin (op : Operator) (x y : D) (s : Sto) (Q : QE) : Prop := match op, x, y with
  | .Add, .int i, .int j => Q (.int (i + j)) s
  | .Sub, .int i, .int j => Q (.int (i - j)) s
  | .Mult, .int i, .int j => mulOk i j ∧ Q (.int (i * j)) s
  | .FloorDiv, .int i, .int j => divOk j ∧ Q (.int (i / j)) s
  | .Mod, .int i, .int j => 0 < j ∧ Q (.int (i % j)) s
  | .Pow, .int i, .int j => powOk i j ∧ Q (.int (i ^ j.toNat)) s
  | .Add, .str a, .str b => a.length + b.length ≤ sizeLine ∧ Q (.str (a ++ b)) s
  | .Mult, .str a, .int j => (0 ≤ j ∧ j ≤ 16777216 ∧ a.length * j.toNat ≤ 16777216) ∧ Q (.str (List.replicate j.toNat a).flatten) s
  | .Add, .tup a, .tup b => a.length + b.length ≤ sizeLine ∧ Q (.tup (a ++ b)) s
  | .Add, .ref m, .ref n => match s[m]?, s[n]? with
    | some (.lst a), some (.lst b) => a.length + b.length ≤ sizeLine ∧ mk (.lst (a ++ b)) s Q
    | _, _ => False
  | .Mult, .ref m, .int j => match s[m]? with
    | some (.lst a) => (-(2 ^ 63) ≤ j ∧ j < 2 ^ 63 ∧ a.length * j.toNat ≤ sizeLine) ∧ mk (.lst (List.replicate j.toNat a).flatten) s Q
    | _ => False
  | _, _, _ => False
/-- an index of either sign -/
def ixn (n : Nat) (i : Int) : Option Nat := L2.ixN n i
def xIs (x y : D) (s : Sto) (Q : QE) : Prop := match y with
  | .int i => match x with
    | .str a => match L2.atI a i with
      | some c => Q (.str [c]) s
      | none => False
    | x => match seqOf s x with
      | some xs => match L2.atI xs i with
        | some v => Q v s
        | none => False
      | none => False
  | _ => False
def xIx (x y : D) (s : Sto) (Q : QE) : Prop := match dicOf s x with
  | some kvs => kOk x y = true ∧ match dGet kvs y with
    | some v => Q v s
    | none => False
  | none => xIs x y s Q
def cut {α : Type} (xs : List α) (lo hi : Option Int) : List α := (xs.drop (HT.sIx xs.length 0 lo)).take (HT.sIx xs.length xs.length hi - HT.sIx xs.length 0 lo)
/-- a slice's part -/
def partD : D → Option (Option Int)
  | .kd _ => some none
  | .int i => some (some i)
  | _ => none
def xSl (x l h : D) (s : Sto) (Q : QE) : Prop := match partD l, partD h with
  | some lo, some hi => match x with
    | .str a => Q (.str (cut a lo hi)) s
    | .tup a => Q (.tup (cut a lo hi)) s
    | .fl a => mk (.lst (cut a lo hi)) s Q
    | .ref n => match s[n]? with
      | some (.lst a) => mk (.lst (cut a lo hi)) s Q
      | _ => False
    | _ => False
  | _, _ => False
def rngL (a b : Int) : List D := (List.range (b - a).toNat).map fun i => .int (a + (i : Nat))
def rngOk (a b : Int) : Prop := -(2 ^ 62) ≤ a ∧ a < 2 ^ 62 ∧ -(2 ^ 62) ≤ b ∧ b < 2 ^ 62
/-- the digits of a number, as str gives them -/
def strI (i : Int) : List Nat := ((toString i : Str)).cps.toList
/-- a value's type: int 0, bool 1, str 2, tuple 3, list 4, None 5 -/
def tyD (s : Sto) : D → Option Nat
  | .int _ => some 0
  | .bl _ => some 1
  | .str _ => some 2
  | .tup _ => some 3
  | .fl _ => some 4
  | .non => some 5
  | .ref n => match s[n]? with
    | some (.lst _) => some 4
    | _ => none
  | .kd _ => none
  | .fd _ _ => none
def isiD (t : Nat) (s : Sto) (d : D) : Option Bool := match tyD s d with
  | some k => some (k == t || (k == 1 && t == 0))
  | none => none
def bLen (x : D) (s : Sto) (Q : QE) : Prop := match x with
  | .str a => Q (.int a.length) s
  | x => match seqOf s x with
    | some xs => Q (.int xs.length) s
    | none => False
def bInt (x : D) (s : Sto) (Q : QE) : Prop := match x with
  | .int i => Q (.int i) s
  | .bl b => Q (.int (if b then 1 else 0)) s
  | _ => False
def bAbs (x : D) (s : Sto) (Q : QE) : Prop := match x with
  | .int i => Q (.int (if i < 0 then -i else i)) s
  | _ => False
def bStr (x : D) (s : Sto) (Q : QE) : Prop := match x with
  | .int i => (0 ≤ i ∧ i < 10 ^ 10) ∧ Q (.str (strI i)) s
  | _ => False
def bTup (x : D) (s : Sto) (Q : QE) : Prop := match x with
  | .tup a => Q (.tup a) s
  | x => match seqOf s x with
    | some xs => Q (.tup xs) s
    | none => False
def bLst (x : D) (s : Sto) (Q : QE) : Prop := match seqOf s x with
  | some xs => mk (.lst xs) s Q
  | none => False
def bMax (x y : D) (s : Sto) (Q : QE) : Prop := match x, y with
  | .int i, .int j => Q (.int (if j > i then j else i)) s
  | _, _ => False
def bMin (x y : D) (s : Sto) (Q : QE) : Prop := match x, y with
  | .int i, .int j => Q (.int (if j < i then j else i)) s
  | _, _ => False
def intsOf : List D → Option (List Int)
  | [] => some []
  | .int i :: r => (intsOf r).map fun l => i :: l
  | _ :: _ => none
/-- the least, the greatest of a list of ints -/
def bMin1 (x : D) (s : Sto) (Q : QE) : Prop := match x with
  | .ref n => match s[n]? with
    | some (.lst xs) => match intsOf xs with
      | some ns => 0 < ns.length ∧ ∀ m, m ∈ ns → (∀ i ∈ ns, m ≤ i) → Q (.int m) s
      | none => False
    | _ => False
  | _ => False
def bSum (x : D) (s : Sto) (Q : QE) : Prop := match x with
  | .ref n => match s[n]? with
    | some (.lst xs) => match intsOf xs with
      | some ns => Q (.int ns.sum) s
      | none => False
    | _ => False
  | _ => False
def bSorted (x : D) (s : Sto) (Q : QE) : Prop := match x with
  | .ref n => match s[n]? with
    | some (.lst xs) => match intsOf xs with
      | some ns => ∀ ms : List Int, ms.Perm ns → ms.Pairwise (· ≤ ·) → mk (.lst (ms.map .int)) s Q
      | none => False
    | _ => False
  | _ => False
def bMax1 (x : D) (s : Sto) (Q : QE) : Prop := match x with
  | .ref n => match s[n]? with
    | some (.lst xs) => match intsOf xs with
      | some ns => 0 < ns.length ∧ ∀ m, m ∈ ns → (∀ i ∈ ns, i ≤ m) → Q (.int m) s
      | none => False
    | _ => False
  | _ => False
def xBlt (f : BF) (vs : List D) (s : Sto) (Q : QE) : Prop := match f, vs with
  | .len, [x] => bLen x s Q
  | .int, [x] => bInt x s Q
  | .abs, [x] => bAbs x s Q
  | .str, [x] => bStr x s Q
  | .tuple, [x] => bTup x s Q
  | .list, [x] => bLst x s Q
  | .max2, [x, y] => bMax x y s Q
  | .min2, [x, y] => bMin x y s Q
  | .min1, [x] => bMin1 x s Q
  | .max1, [x] => bMax1 x s Q
  | .sum, [x] => bSum x s Q
  | .sorted, [x] => bSorted x s Q
  | .isi t, [x] => match isiD t s x with
    | some b => Q (.bl b) s
    | none => False
  | _, _ => False
def strsOf : List D → Option (List (List Nat))
  | [] => some []
  | .str a :: r => (strsOf r).map fun l => a :: l
  | _ :: _ => none
def joinS (sep : List Nat) : List (List Nat) → List Nat
  | [] => []
  | [a] => a
  | a :: b :: r => a ++ sep ++ joinS sep (b :: r)
def rstripL (a : List Nat) : List Nat := (Txt.rstrip ⟨a.toArray⟩).cps.toList
/-- the receiver is of the method's type -/
def mTy (m : MF) (x : D) (s : Sto) : Prop := match m, x with
  | .join, .str _ => True
  | .join, _ => False
  | .rstrip, .str _ => True
  | .rstrip, _ => False
  | .get1, x => (dicOf s x).isSome = true
  | .get2, x => (dicOf s x).isSome = true
  | _, .ref n => match s[n]? with
    | some (.lst _) => True
    | _ => False
  | _, _ => False
def xMeth (m : MF) (o : D) (vs : List D) (s : Sto) (Q : QE) : Prop := match m, o, vs with
  | .append, .ref n, [v] => match s[n]? with
    | some (.lst xs) => xs.length < sizeLine ∧ Q .non (s.set n (.lst (xs ++ [v])))
    | _ => False
  | .pop0, .ref n, [] => match s[n]? with
    | some (.lst xs) => match xs[xs.length - 1]? with
      | some y => Q y (s.set n (.lst xs.dropLast))
      | none => False
    | _ => False
  | .extend, .ref n, [.ref m] => match s[n]?, s[m]? with
    | some (.lst xs), some (.lst ys) => xs.length + ys.length ≤ sizeLine ∧ Q .non (s.set n (.lst (xs ++ ys)))
    | _, _ => False
  | .reverse, .ref n, [] => match s[n]? with
    | some (.lst xs) => Q .non (s.set n (.lst xs.reverse))
    | _ => False
  | .join, .str sep, [x] => match seqOf s x with
    | some xs => match strsOf xs with
      | some l => (l.map List.length).sum + l.length * sep.length ≤ 16777216 ∧ Q (.str (joinS sep l)) s
      | none => False
    | none => False
  | .insert, .ref n, [.int i, v] => match s[n]? with
    | some (.lst xs) => (xs.length < sizeLine ∧ 0 ≤ i ∧ i < 2 ^ 63) ∧ Q .non (s.set n (.lst (xs.take i.toNat ++ [v] ++ xs.drop i.toNat)))
    | _ => False
  | .index, .ref n, [.int k] => match s[n]? with
    | some (.lst xs) => match intsOf xs with
      | some ns => (k ∈ ns ∧ ns.length ≤ sizeLine) ∧ Q (.int (ns.idxOf k : Nat)) s
      | none => False
    | _ => False
  | .rstrip, .str a, [] => Q (.str (rstripL a)) s
  | .get1, x, [k] => match dicOf s x with
    | some kvs => kOk x k = true ∧ Q ((dGet kvs k).getD .non) s
    | none => False
  | .get2, x, [k, d] => match dicOf s x with
    | some kvs => kOk x k = true ∧ Q ((dGet kvs k).getD d) s
    | none => False
  | _, _, _ => False
/-- o[i] = v; x op= y -/
def xAset (x y v : D) (s : Sto) (K : Sto → Prop) : Prop := match x with
  | .ref n => match s[n]? with
    | some (.lst xs) => match y with
      | .int k => match L2.ixN xs.length k with
        | some j => K (s.set n (.lst (xs.set j v)))
        | none => False
      | _ => False
    | some (.dic kvs) => keyOk y = true ∧ kvs.length < sizeLine ∧ K (s.set n (.dic (dPut kvs y v)))
    | _ => False
  | _ => False
def xIp (op : Operator) (x y : D) (s : Sto) (Q : QE) : Prop := match op, x, y with
  | .Add, .int a, .int b => Q (.int (a + b)) s
  | .Sub, .int a, .int b => Q (.int (a - b)) s
  | .Add, .str a, .str b => a.length + b.length ≤ sizeLine ∧ Q (.str (a ++ b)) s
  | _, _, _ => False
/-- an object's fields -/
def fGet (fs : List (Nat × D)) (f : Nat) : Option D := (fs.find? fun p => decide (p.1 = f)).map (·.2)
def fPut : List (Nat × D) → Nat → D → List (Nat × D)
  | [], f, v => [(f, v)]
  | (g, d) :: r, f, v => if g = f then (f, v) :: r else (g, d) :: fPut r f v
def insOf (s : Sto) : D → Option (Nat × Nat × List (Nat × D))
  | .ref n => match s[n]? with
    | some (.ins c fs) => some (n, c, fs)
    | _ => none
  | _ => none
def xFld (x : D) (f : Nat) (s : Sto) (Q : QE) : Prop := match insOf s x with
  | some (_, _, fs) => match fGet fs f with
    | some v => Q v s
    | none => False
  | none => False
def xFset (x : D) (f : Nat) (v : D) (s : Sto) (K : Sto → Prop) : Prop := match insOf s x with
  | some (n, c, fs) => fs.length < 1000 ∧ K (s.set n (.ins c (fPut fs f v)))
  | none => False
/-- an object's method: the class decides -/
def mid (c m : Nat) : Nat := 1000000 + 1000 * c + m
def cid (c : Nat) : Nat := 2000000 + c
/-- the class, where the object has no field of the method's name -/
def clsM (s : Sto) (x : D) (m : Nat) : Option Nat := match insOf s x with
  | some (_, c, fs) => if (fGet fs m).isNone then some c else none
  | none => none
def xMc (s : Sto) (x : D) (m : Nat) (cs : List Nat) (K : Nat → Prop) : Prop := match clsM s x m with
  | some c => c ∈ cs ∧ K c
  | none => False
def xRvs (x : D) (s : Sto) (Q : QE) : Prop := match seqOf s x with
  | some xs => (∀ ys, x ≠ .tup ys) ∧ mk (.lst xs.reverse) s Q
  | none => False
/-- x.f op= .. : what is there, what is put -/
def xFa1 (x : D) (f : Nat) (s : Sto) (K : Nat → Nat → D → Prop) : Prop := match insOf s x with
  | some (n, c, fs) => match fGet fs f with
    | some v => K n c v
    | none => False
  | none => False
def xFa2 (op : Operator) (n c f : Nat) (v y : D) (s : Sto) (K : Sto → Prop) : Prop := match v, y with
  | .int i, .int j => match op with
    | .Add => match s[n]? with
      | some (.ins c' fs') => c' = c ∧ fs'.length < 1000 ∧ K (s.set n (.ins c (fPut fs' f (.int (i + j)))))
      | _ => False
    | .Sub => match s[n]? with
      | some (.ins c' fs') => c' = c ∧ fs'.length < 1000 ∧ K (s.set n (.ins c (fPut fs' f (.int (i - j)))))
      | _ => False
    | _ => False
  | _, _ => False
/-- the dict at a slot -/
def xFk (σ : Sl) (i : Nat) (s : Sto) (K : Nat → List (D × D) → Prop) : Prop := match σ[i]? with
  | some (some (.ref n)) => match s[n]? with
    | some (.dic kvs) => K n kvs
    | _ => False
  | _ => False
def slotVs : Sl → Option (List D)
  | [] => some []
  | some d :: r => (slotVs r).map fun l => d :: l
  | none :: _ => none
/-- what is walked: the items, and the list that must stay as it is -/
def enumL (b : Int) : List D → List D
  | [] => []
  | x :: r => .tup [.int b, x] :: enumL (b + 1) r
def zipL : List D → List D → List D
  | x :: r, y :: q => .tup [x, y] :: zipL r q
  | _, _ => []
def xIt (ik : IK) (vs : List D) (s : Sto) (K : List D → WK → Prop) : Prop := match ik, vs with
  | .seq, [.str a] => K (a.map fun c => .str [c]) .free
  | .seq, [.ref n] => match s[n]? with
    | some (.lst xs) => K xs (.lst n)
    | _ => False
  | .seq, [.tup xs] => K xs .free
  | .seq, [.fl xs] => K xs .free
  | .rng1, [.int j] => rngOk 0 j ∧ K (rngL 0 j) .free
  | .rng2, [.int i, .int j] => rngOk i j ∧ K (rngL i j) .free
  | .enum, [.ref n] => match s[n]? with
    | some (.lst xs) => K (enumL 0 xs) (.enu 0 n)
    | _ => False
  | _, _ => False
def chk (o : WK) (xs : List D) (s : Sto) : Prop := match o with
  | .free => True
  | .lst n => s[n]? = some (.lst xs)
  | .enu b n => ∃ ys, s[n]? = some (.lst ys) ∧ xs = enumL b ys
  | .rvd n => ∃ ys, s[n]? = some (.lst ys) ∧ xs = ys.reverse
  | .key n kvs => s[n]? = some (.ldic kvs)
  | .two m n => ∃ ys zs, s[m]? = some (.lst ys) ∧ s[n]? = some (.lst zs) ∧ xs = zipL ys zs
mutual
def xTg : TG → D → Sl → (Sl → Prop) → Prop
  | .nm i, d, σ, Q => Q (σ.set i (some d))
  | .tp ts, d, σ, Q => match d with
    | .tup xs => xTgs ts xs σ Q
    | _ => False
def xTgs : List TG → List D → Sl → (Sl → Prop) → Prop
  | [], [], σ, Q => Q σ
  | t :: ts, x :: xs, σ, Q => xTg t x σ fun σ' => xTgs ts xs σ' Q
  | _, _, _, _ => False
end
def wipeS (σ : Sl) : List Nat → Sl
  | [] => σ
  | v :: vs => (wipeS σ vs).set v none

abbrev SE := Sl → Sto → QE → XQ → Prop
structure En where
  nx : Sl → Sto → Prop
  rt : QE
  bk : Sl → Sto → Prop
  ct : Sl → Sto → Prop
  ex : Nat → List (Nat × D) → Sl → Sto → Prop
abbrev SS := Sl → Sto → En → Prop

/-- a comprehension's turns: at n the list that grows -/
def lcGo (tg : TG) (o : WK) (all : List D) (n : Nat) (t : Sl → Sto → (Bool → Sto → Prop) → Prop) (f : Sl → Sto → QE → Prop) (own : List Nat) (σ : Sl) : List D → Sto → (Sto → Prop) → Prop
  | [], s, K => chk o all s ∧ K s
  | x :: r, s, K => chk o all s ∧ xTg tg x (wipeS σ own) fun σ' => t σ' s fun b s1 =>
    if b = true then f σ' s1 fun y s2 => match s2[n]? with
      | some (.lst acc) => acc.length < sizeLine ∧ lcGo tg o all n t f own σ r (s2.set n (.lst (acc ++ [y]))) K
      | _ => False
    else lcGo tg o all n t f own σ r s1 K
/-- a dict comprehension's turns: at n the dict that grows -/
def dcGo (tg : TG) (o : WK) (all : List D) (n : Nat) (t : Sl → Sto → (Bool → Sto → Prop) → Prop) (fk fv : Sl → Sto → QE → Prop) (own : List Nat) (σ : Sl) : List D → Sto → (Sto → Prop) → Prop
  | [], s, K => chk o all s ∧ K s
  | x :: r, s, K => chk o all s ∧ xTg tg x (wipeS σ own) fun σ' => t σ' s fun b s1 =>
    if b = true then fk σ' s1 fun y s2 => fv σ' s2 fun z s3 => match s3[n]? with
      | some (.dic kvs) => keyOk y = true ∧ kvs.length < sizeLine ∧ dcGo tg o all n t fk fv own σ r (s3.set n (.dic (dPut kvs y z))) K
      | _ => False
    else dcGo tg o all n t fk fv own σ r s1 K
/-- a for's turns -/
def forGo (tg : TG) (o : WK) (all : List D) (b : SS) (N : En) : List D → Sl → Sto → Prop
  | [], σ, s => chk o all s ∧ N.nx σ s
  | x :: r, σ, s => chk o all s ∧ xTg tg x σ fun σ' => b σ' s { nx := fun σ s => forGo tg o all b N r σ s, ct := fun σ s => forGo tg o all b N r σ s, bk := N.nx, rt := N.rt, ex := N.ex }
/-- a while, by its invariant -/
def whlGo (c : SE) (b : SS) (N : En) (σ : Sl) (s : Sto) : Prop := ∃ W : Nat → Sl → Sto → Prop, (∃ m, W m σ s) ∧ ∀ m σ s, W m σ s →
  c σ s (fun d s1 => br (tru s1 d) (b σ s1 { nx := fun σ s => ∃ m', m' < m ∧ W m' σ s, ct := fun σ s => ∃ m', m' < m ∧ W m' σ s, bk := N.nx, rt := N.rt, ex := N.ex }) (N.nx σ s1)) (fun e fs s1 => N.ex e fs σ s1)

mutual
def xE (G : FS) : EX → Sl → Sto → QE → XQ → Prop
  | .lit d, _, s, Q, _ => Q d s
  | .var i, σ, s, Q, _ => match σ[i]? with
    | some (some d) => Q d s
    | _ => False
  | .bin op a b, σ, s, Q, E => xE G a σ s (fun x s1 => xE G b σ s1 (fun y s2 => xBin op x y s2 Q) E) E
  | .neg a, σ, s, Q, E => xE G a σ s (fun x s1 => match x with
    | .int i => Q (.int (-i)) s1
    | _ => False) E
  | .cmp op a b, σ, s, Q, E => xE G a σ s (fun x s1 => xE G b σ s1 (fun y s2 => obl (cmpD s2 op x y) fun c => Q (.bl c) s2) E) E
  | .chn op op' a b c, σ, s, Q, E => xE G a σ s (fun x s1 => xE G b σ s1 (fun y s2 => br (cmpD s2 op x y) (xE G c σ s2 (fun z s3 => obl (cmpD s3 op' y z) fun c => Q (.bl c) s3) E) (Q (.bl false) s2)) E) E
  | .and a b, σ, s, Q, E => xE G a σ s (fun x s1 => br (tru s1 x) (xE G b σ s1 Q E) (Q x s1)) E
  | .or a b, σ, s, Q, E => xE G a σ s (fun x s1 => br (tru s1 x) (Q x s1) (xE G b σ s1 Q E)) E
  | .not a, σ, s, Q, E => xE G a σ s (fun x s1 => obl (tru s1 x) fun c => Q (.bl (!c)) s1) E
  | .ite c a b, σ, s, Q, E => xE G c σ s (fun x s1 => br (tru s1 x) (xE G a σ s1 Q E) (xE G b σ s1 Q E)) E
  | .tup es, σ, s, Q, E => xEs G es σ s (fun vs s1 => vs.length ≤ sizeLine ∧ Q (.tup vs) s1) E
  | .lst es, σ, s, Q, E => xEs G es σ s (fun vs s1 => vs.length ≤ sizeLine ∧ mk (.lst vs) s1 Q) E
  | .dct es, σ, s, Q, E => xEs G es σ (s ++ [.dic []]) (fun vs s1 => match pairUp vs with
    | some kvs => s1[s.length]? = some (.dic []) ∧ kvs.length ≤ 15 ∧ Q (.ref s.length) (s1.set s.length (.dic (kvs.foldl (fun acc p => dPut acc p.1 p.2) [])))
    | none => False) E
  | .ix a b, σ, s, Q, E => xE G a σ s (fun x s1 => xE G b σ s1 (fun y s2 => xIx x y s2 Q) E) E
  | .sl a l h, σ, s, Q, E => xE G a σ s (fun x s1 => xE G l σ s1 (fun y s2 => (partD y).isSome = true ∧ xE G h σ s2 (fun z s3 => (partD z).isSome = true ∧ xSl x y z s3 Q) E) E) E
  | .call f es, σ, s, Q, E => xEs G es σ s (fun vs s1 => G f vs s1 Q E) E
  | .blt f es, σ, s, Q, E => xEs G es σ s (fun vs s1 => xBlt f vs s1 Q) E
  | .meth m o es, σ, s, Q, E => xE G o σ s (fun x s1 => mTy m x s1 ∧ xEs G es σ s1 (fun vs s2 => xMeth m x vs s2 Q) E) E
  | .lc own tg ik its ifs elt, σ, s, Q, E => xEs G its σ s (fun vs s1 => xIt ik vs s1 fun items o =>
      lcGo tg o items s1.length (fun σ' s' K => xIf G ifs σ' s' K) (fun σ' s' K => xE G elt σ' s' K (fun _ _ _ => False)) own σ items (s1 ++ [.lst []]) fun s' => Q (.ref s1.length) s') E
  | .dc own tg ik its ifs k v, σ, s, Q, E => xEs G its σ s (fun vs s1 => xIt ik vs s1 fun items o =>
      dcGo tg o items s1.length (fun σ' s' K => xIf G ifs σ' s' K) (fun σ' s' K => xE G k σ' s' K (fun _ _ _ => False)) (fun σ' s' K => xE G v σ' s' K (fun _ _ _ => False)) own σ items (s1 ++ [.dic []]) fun s' => Q (.ref s1.length) s') E
  | .fld o f, σ, s, Q, E => xE G o σ s (fun x s1 => xFld x f s1 Q) E
  | .mcall m cs o es, σ, s, Q, E => xE G o σ s (fun x s1 => xMc s1 x m cs fun c => xEs G es σ s1 (fun vs s2 => G (mid c m) (x :: vs) s2 Q E) E) E
  | .rvs a, σ, s, Q, E => xE G a σ s (fun x s1 => xRvs x s1 Q) E
def xEs (G : FS) : List EX → Sl → Sto → (List D → Sto → Prop) → XQ → Prop
  | [], _, s, Q, _ => Q [] s
  | e :: es, σ, s, Q, E => xE G e σ s (fun x s1 => xEs G es σ s1 (fun xs s2 => Q (x :: xs) s2) E) E
def xIf (G : FS) : List EX → Sl → Sto → (Bool → Sto → Prop) → Prop
  | [], _, s, K => K true s
  | e :: es, σ, s, K => xE G e σ s (fun x s1 => br (tru s1 x) (xIf G es σ s1 K) (K false s1)) (fun _ _ _ => False)
end
mutual
def xS (G : FS) : ST → SS
  | .expr e, σ, s, N => xE G e σ s (fun _ s1 => N.nx σ s1) (fun c fs s1 => N.ex c fs σ s1)
  | .asg tg e, σ, s, N => xE G e σ s (fun x s1 => xTg tg x σ fun σ' => N.nx σ' s1) (fun c fs s1 => N.ex c fs σ s1)
  | .aset o i e, σ, s, N => xE G e σ s (fun v s1 => xE G o σ s1 (fun x s2 => xE G i σ s2 (fun y s3 => xAset x y v s3 fun s4 => N.nx σ s4) (fun c fs s1 => N.ex c fs σ s1)) (fun c fs s1 => N.ex c fs σ s1)) (fun c fs s1 => N.ex c fs σ s1)
  | .aug i op e, σ, s, N => match σ[i]? with
    | some (some x) => xE G e σ s (fun y s1 => xIp op x y s1 fun z s2 => N.nx (σ.set i (some z)) s2) (fun c fs s1 => N.ex c fs σ s1)
    | _ => False
  | .ite c a b, σ, s, N => xE G c σ s (fun x s1 => br (tru s1 x) (xSs G a σ s1 N) (xSs G b σ s1 N)) (fun c fs s1 => N.ex c fs σ s1)
  | .whl c b, σ, s, N => whlGo (fun σ s Q E => xE G c σ s Q E) (fun σ s N => xSs G b σ s N) N σ s
  | .for_ tg ik its b, σ, s, N => xEs G its σ s (fun vs s1 => xIt ik vs s1 fun items o => forGo tg o items (fun σ s N => xSs G b σ s N) N items σ s1) (fun c fs s1 => N.ex c fs σ s1)
  | .ret e, σ, s, N => xE G e σ s N.rt (fun c fs s1 => N.ex c fs σ s1)
  | .brk, σ, s, N => N.bk σ s
  | .cnt, σ, s, N => N.ct σ s
  | .pass, σ, s, N => N.nx σ s
  | .fset o f e, σ, s, N => xE G e σ s (fun v s1 => xE G o σ s1 (fun x s2 => xFset x f v s2 fun s3 => N.nx σ s3) (fun c fs s1 => N.ex c fs σ s1)) (fun c fs s1 => N.ex c fs σ s1)
  | .faug o f op e, σ, s, N => xE G o σ s (fun x s1 => xFa1 x f s1 fun n c v => xE G e σ s1 (fun y s2 => xFa2 op n c f v y s2 fun s3 => N.nx σ s3) (fun c fs s1 => N.ex c fs σ s1)) (fun c fs s1 => N.ex c fs σ s1)
  | .forK tg i b, σ, s, N => xFk σ i s fun n kvs => forGo tg (.key n kvs) (kvs.map (·.1)) (fun σ s N => xSs G b σ s N)
        { nx := fun σ s => s[n]? = some (.ldic kvs) ∧ N.nx σ (s.set n (.dic kvs)), bk := fun σ s => s[n]? = some (.ldic kvs) ∧ N.bk σ (s.set n (.dic kvs)), ct := fun σ s => s[n]? = some (.ldic kvs) ∧ N.ct σ (s.set n (.dic kvs)),
          rt := fun d s => s[n]? = some (.ldic kvs) ∧ N.rt d (s.set n (.dic kvs)), ex := fun _ _ _ _ => False } (kvs.map (·.1)) σ (s.set n (.ldic kvs))
  | .ctor c i, σ, s, N => match slotVs σ with
    | some vs => G i (.ref s.length :: vs) (s ++ [.ins c []]) (fun v s' => v = .non ∧ N.rt (.ref s.length) s') (fun e fs s' => N.ex e fs σ s')
    | none => False
def xSs (G : FS) : List ST → SS
  | [], σ, s, N => N.nx σ s
  | st :: r, σ, s, N => xS G st σ s { N with nx := fun σ s => xSs G r σ s N }
end
structure Fn where
  ar : Nat
  sl : Nat
  body : List ST
/-- the meaning of the defs of a table, by the depth of calls -/
def Lv (T : Nat → Option Fn) : Nat → FS
  | 0 => fun _ _ _ _ _ => False
  | k + 1 => fun f vs s Q E => match T f with
    | none => False
    | some fn => vs.length = fn.ar ∧ xSs (Lv T k) fn.body (vs.map some ++ List.replicate (fn.sl - fn.ar) none) s
      { nx := fun _ s' => Q .non s', rt := Q, bk := fun _ _ => False, ct := fun _ _ => False, ex := fun c fs _ s' => E c fs s' }
end PX

/-! PX: what follows may be weakened. -/
namespace PX
open PySem

theorem br_mono {o : Option Bool} {A B A' B' : Prop} (h : br o A B) (ha : A → A') (hb : B → B') : br o A' B' := by
  match o, h with
  | some true, h => exact ha h
  | some false, h => exact hb h
theorem obl_mono {o : Option Bool} {K K' : Bool → Prop} (h : obl o K) (hk : ∀ b, K b → K' b) : obl o K' := by
  match o, h with
  | some b, h => exact hk b h
section
variable {s : Sto} {Q Q' : QE}
theorem mk_mono {o : Ob} (hQ : ∀ d s, Q d s → Q' d s) (h : mk o s Q) : mk o s Q' := hQ _ _ h
theorem xBin_mono (op : Operator) (x y : D) (hQ : ∀ d s, Q d s → Q' d s) : xBin op x y s Q → xBin op x y s Q' := by
  unfold xBin
  repeat' split
  all_goals first
    | (intro h; exact absurd h id)
    | (intro h; exact hQ _ _ h)
    | (intro h; exact mk_mono hQ h)
    | (intro h; exact ⟨h.1, hQ _ _ h.2⟩)
    | (intro h; exact ⟨h.1, mk_mono hQ h.2⟩)
theorem xIx_mono (x y : D) (hQ : ∀ d s, Q d s → Q' d s) : xIx x y s Q → xIx x y s Q' := by
  unfold xIx xIs
  repeat' split
  all_goals first
    | (intro h; exact absurd h id)
    | (intro h; exact absurd h.2 id)
    | (intro h; exact hQ _ _ h)
    | (intro h; exact mk_mono hQ h)
    | (intro h; exact ⟨h.1, hQ _ _ h.2⟩)
    | (intro h; exact ⟨h.1, mk_mono hQ h.2⟩)
theorem xSl_mono (x l h : D) (hQ : ∀ d s, Q d s → Q' d s) : xSl x l h s Q → xSl x l h s Q' := by
  unfold xSl
  repeat' split
  all_goals first
    | (intro h; exact absurd h id)
    | (intro h; exact hQ _ _ h)
    | (intro h; exact mk_mono hQ h)
    | (intro h; exact ⟨h.1, hQ _ _ h.2⟩)
    | (intro h; exact ⟨h.1, mk_mono hQ h.2⟩)
theorem xBlt_mono (f : BF) (vs : List D) (hQ : ∀ d s, Q d s → Q' d s) : xBlt f vs s Q → xBlt f vs s Q' := by
  unfold xBlt bLen bInt bAbs bStr bTup bLst bMax bMin bMin1 bMax1 bSum bSorted
  repeat' split
  all_goals first
    | (intro h; exact absurd h id)
    | (intro h; exact ⟨h.1, fun m h1 h2 => hQ _ _ (h.2 m h1 h2)⟩)
    | (intro h; exact fun m h1 h2 => mk_mono hQ (h m h1 h2))
    | (intro h; exact hQ _ _ h)
    | (intro h; exact mk_mono hQ h)
    | (intro h; exact ⟨h.1, hQ _ _ h.2⟩)
    | (intro h; exact ⟨h.1, mk_mono hQ h.2⟩)
theorem xMeth_mono (m : MF) (o : D) (vs : List D) (hQ : ∀ d s, Q d s → Q' d s) : xMeth m o vs s Q → xMeth m o vs s Q' := by
  unfold xMeth
  repeat' split
  all_goals first
    | (intro h; exact absurd h id)
    | (intro h; exact hQ _ _ h)
    | (intro h; exact mk_mono hQ h)
    | (intro h; exact ⟨h.1, hQ _ _ h.2⟩)
    | (intro h; exact ⟨h.1, mk_mono hQ h.2⟩)
theorem xIp_mono (op : Operator) (x y : D) (hQ : ∀ d s, Q d s → Q' d s) : xIp op x y s Q → xIp op x y s Q' := by
  unfold xIp
  repeat' split
  all_goals first
    | (intro h; exact absurd h id)
    | (intro h; exact hQ _ _ h)
    | (intro h; exact ⟨h.1, hQ _ _ h.2⟩)
theorem bMin1_mono (x : D) (hQ : ∀ d s, Q d s → Q' d s) : bMin1 x s Q → bMin1 x s Q' := by
  unfold bMin1
  repeat' split
  all_goals first
    | (intro h; exact absurd h id)
    | (intro h; exact ⟨h.1, fun m h1 h2 => hQ _ _ (h.2 m h1 h2)⟩)
theorem bMax1_mono (x : D) (hQ : ∀ d s, Q d s → Q' d s) : bMax1 x s Q → bMax1 x s Q' := by
  unfold bMax1
  repeat' split
  all_goals first
    | (intro h; exact absurd h id)
    | (intro h; exact ⟨h.1, fun m h1 h2 => hQ _ _ (h.2 m h1 h2)⟩)
theorem xFld_mono (x : D) (f : Nat) (hQ : ∀ d s, Q d s → Q' d s) : xFld x f s Q → xFld x f s Q' := by
  unfold xFld
  repeat' split
  all_goals first
    | (intro h; exact absurd h id)
    | (intro h; exact hQ _ _ h)
theorem xMc_mono (x : D) (m : Nat) (cs : List Nat) {K K' : Nat → Prop} (hK : ∀ c, K c → K' c) : xMc s x m cs K → xMc s x m cs K' := by
  unfold xMc
  repeat' split
  all_goals first
    | (intro h; exact absurd h id)
    | (intro h; exact ⟨h.1, hK _ h.2⟩)
theorem xRvs_mono (x : D) (hQ : ∀ d s, Q d s → Q' d s) : xRvs x s Q → xRvs x s Q' := by
  unfold xRvs
  repeat' split
  all_goals first
    | (intro h; exact absurd h id)
    | (intro h; exact ⟨h.1, mk_mono hQ h.2⟩)
theorem xFa1_mono (x : D) (f : Nat) {K K' : Nat → Nat → D → Prop} (hK : ∀ n c v, K n c v → K' n c v) : xFa1 x f s K → xFa1 x f s K' := by
  unfold xFa1
  repeat' split
  all_goals first
    | (intro h; exact absurd h id)
    | (intro h; exact hK _ _ _ h)
theorem xFa2_mono (op : Operator) (n c f : Nat) (v y : D) {K K' : Sto → Prop} (hK : ∀ s, K s → K' s) : xFa2 op n c f v y s K → xFa2 op n c f v y s K' := by
  unfold xFa2
  repeat' split
  all_goals first
    | (intro h; exact absurd h id)
    | (intro h; exact ⟨h.1, h.2.1, hK _ h.2.2⟩)
theorem xFk_mono (σ : Sl) (i : Nat) {K K' : Nat → List (D × D) → Prop} (hK : ∀ n kvs, K n kvs → K' n kvs) : xFk σ i s K → xFk σ i s K' := by
  unfold xFk
  repeat' split
  all_goals first
    | (intro h; exact absurd h id)
    | (intro h; exact hK _ _ h)
theorem xFset_mono (x : D) (f : Nat) (v : D) {K K' : Sto → Prop} (hK : ∀ s, K s → K' s) : xFset x f v s K → xFset x f v s K' := by
  unfold xFset
  repeat' split
  all_goals first
    | (intro h; exact absurd h id)
    | (intro h; exact ⟨h.1, hK _ h.2⟩)
theorem xAset_mono (x y v : D) {K K' : Sto → Prop} (hK : ∀ s, K s → K' s) : xAset x y v s K → xAset x y v s K' := by
  unfold xAset
  repeat' split
  all_goals first
    | (intro h; exact absurd h id)
    | (intro h; exact hK _ h)
    | (intro h; exact ⟨h.1, h.2.1, hK _ h.2.2⟩)
theorem xIt_mono (ik : IK) (vs : List D) {K K' : List D → WK → Prop} (hK : ∀ l o, K l o → K' l o) : xIt ik vs s K → xIt ik vs s K' := by
  unfold xIt
  repeat' split
  all_goals first
    | (intro h; exact absurd h id)
    | (intro h; exact hK _ _ h)
    | (intro h; exact ⟨h.1, hK _ _ h.2⟩)
end
mutual
theorem xTg_mono : ∀ (t : TG) {d : D} {σ : Sl} {Q Q' : Sl → Prop}, (∀ σ, Q σ → Q' σ) → xTg t d σ Q → xTg t d σ Q'
  | .nm i, _, _, _, _, hQ, h => hQ _ h
  | .tp ts, d, σ, Q, Q', hQ, h => by
    cases d with
    | tup xs => exact xTgs_mono ts hQ h
    | _ => exact absurd h id
theorem xTgs_mono : ∀ (ts : List TG) {xs : List D} {σ : Sl} {Q Q' : Sl → Prop}, (∀ σ, Q σ → Q' σ) → xTgs ts xs σ Q → xTgs ts xs σ Q'
  | [], [], _, _, _, hQ, h => hQ _ h
  | [], _ :: _, _, _, _, hQ, h => absurd h id
  | _ :: _, [], _, _, _, hQ, h => absurd h id
  | t :: ts, x :: xs, σ, Q, Q', hQ, h => xTg_mono t (fun σ' h => xTgs_mono ts hQ h) h
end
theorem lcGo_mono {tg : TG} {o : WK} {all : List D} {n : Nat} {t t' : Sl → Sto → (Bool → Sto → Prop) → Prop} {f f' : Sl → Sto → QE → Prop} {own : List Nat} {σ : Sl}
    (ht : ∀ σ s K K', (∀ b s, K b s → K' b s) → t σ s K → t' σ s K') (hf : ∀ σ s (Q Q' : QE), (∀ b s, Q b s → Q' b s) → f σ s Q → f' σ s Q') :
    ∀ (r : List D) (s : Sto) {K K' : Sto → Prop}, (∀ s, K s → K' s) → lcGo tg o all n t f own σ r s K → lcGo tg o all n t' f' own σ r s K'
  | [], s, K, K', hK, h => ⟨h.1, hK _ h.2⟩
  | x :: r, s, K, K', hK, h => ⟨h.1, xTg_mono tg (fun σ' h => ht _ _ _ _ (fun b s1 h => by
      cases b with
      | true =>
        simp only [if_true] at h ⊢
        refine hf _ _ _ _ (fun y s2 h => ?_) h
        split at h
        · exact ⟨h.1, lcGo_mono ht hf r _ hK h.2⟩
        · exact absurd h id
      | false =>
        rw [if_neg Bool.false_ne_true] at h ⊢
        exact lcGo_mono ht hf r _ hK h) h) h.2⟩
theorem dcGo_mono {tg : TG} {o : WK} {all : List D} {n : Nat} {t t' : Sl → Sto → (Bool → Sto → Prop) → Prop} {f f' g g' : Sl → Sto → QE → Prop} {own : List Nat} {σ : Sl}
    (ht : ∀ σ s K K', (∀ b s, K b s → K' b s) → t σ s K → t' σ s K') (hf : ∀ σ s (Q Q' : QE), (∀ b s, Q b s → Q' b s) → f σ s Q → f' σ s Q') (hg : ∀ σ s (Q Q' : QE), (∀ b s, Q b s → Q' b s) → g σ s Q → g' σ s Q') :
    ∀ (r : List D) (s : Sto) {K K' : Sto → Prop}, (∀ s, K s → K' s) → dcGo tg o all n t f g own σ r s K → dcGo tg o all n t' f' g' own σ r s K'
  | [], s, K, K', hK, h => ⟨h.1, hK _ h.2⟩
  | x :: r, s, K, K', hK, h => ⟨h.1, xTg_mono tg (fun σ' h => ht _ _ _ _ (fun b s1 h => by
      cases b with
      | true =>
        simp only [if_true] at h ⊢
        refine hf _ _ _ _ (fun y s2 h => hg _ _ _ _ (fun z s3 h => ?_) h) h
        split at h
        · exact ⟨h.1, h.2.1, dcGo_mono ht hf hg r _ hK h.2.2⟩
        · exact absurd h id
      | false =>
        rw [if_neg Bool.false_ne_true] at h ⊢
        exact dcGo_mono ht hf hg r _ hK h) h) h.2⟩
structure En.le (N N' : En) : Prop where
  nx : ∀ σ s, N.nx σ s → N'.nx σ s
  rt : ∀ d s, N.rt d s → N'.rt d s
  bk : ∀ σ s, N.bk σ s → N'.bk σ s
  ct : ∀ σ s, N.ct σ s → N'.ct σ s
  ex : ∀ c fs σ s, N.ex c fs σ s → N'.ex c fs σ s
theorem forGo_mono {tg : TG} {o : WK} {all : List D} {b b' : SS} (hb : ∀ σ s N N', En.le N N' → b σ s N → b' σ s N') {N N' : En} (hN : En.le N N') :
    ∀ (r : List D) (σ : Sl) (s : Sto), forGo tg o all b N r σ s → forGo tg o all b' N' r σ s
  | [], σ, s, h => ⟨h.1, hN.nx _ _ h.2⟩
  | x :: r, σ, s, h => ⟨h.1, xTg_mono tg (fun σ' h => hb _ _ { nx := fun σ s => forGo tg o all b N r σ s, ct := fun σ s => forGo tg o all b N r σ s, bk := N.nx, rt := N.rt, ex := N.ex } _ ⟨fun σ s h => forGo_mono hb hN r σ s h, hN.rt, hN.nx, fun σ s h => forGo_mono hb hN r σ s h, hN.ex⟩ h) h.2⟩
theorem whlGo_mono {c c' : SE} {b b' : SS} (hc : ∀ σ s (Q Q' : QE) (E E' : XQ), (∀ d s, Q d s → Q' d s) → (∀ e fs s, E e fs s → E' e fs s) → c σ s Q E → c' σ s Q' E')
    (hb : ∀ σ s N N', En.le N N' → b σ s N → b' σ s N') {N N' : En} (hN : En.le N N') {σ : Sl} {s : Sto} (h : whlGo c b N σ s) : whlGo c' b' N' σ s := by
  obtain ⟨W, h0, h⟩ := h
  refine ⟨W, h0, fun m σ s hw => hc _ _ _ _ _ _ (fun d s1 h => ?_) (fun e fs s1 h => hN.ex _ _ _ _ h) (h m σ s hw)⟩
  exact br_mono h (hb _ _ _ _ ⟨fun _ _ h => h, hN.rt, hN.nx, fun _ _ h => h, hN.ex⟩) (hN.nx _ _)
/-- what a meaning of the defs must bear -/
def FS.Mono (G : FS) : Prop := ∀ f vs s (Q Q' : QE) (E E' : XQ), (∀ d s, Q d s → Q' d s) → (∀ c fs s, E c fs s → E' c fs s) → G f vs s Q E → G f vs s Q' E'
section
variable {G : FS} (hG : G.Mono)
include hG
mutual
theorem xE_mono : ∀ (e : EX) {σ : Sl} {s : Sto} {Q Q' : QE} {E E' : XQ}, (∀ d s, Q d s → Q' d s) → (∀ c fs s, E c fs s → E' c fs s) → xE G e σ s Q E → xE G e σ s Q' E'
  | .lit d, _, _, _, _, _, _, hQ, hE, h => hQ _ _ h
  | .var i, σ, s, Q, Q', E, E', hQ, hE, h => by
    simp only [xE] at h ⊢
    split at h
    · exact hQ _ _ h
    · exact absurd h id
  | .bin op a b, σ, s, Q, Q', E, E', hQ, hE, h => by
    simp only [xE] at h ⊢
    exact xE_mono a (fun x s1 h => xE_mono b (fun y s2 h => xBin_mono op x y hQ h) hE h) hE h
  | .neg a, σ, s, Q, Q', E, E', hQ, hE, h => by
    simp only [xE] at h ⊢
    refine xE_mono a (fun x s1 h => ?_) hE h
    cases x <;> first | exact hQ _ _ h | exact absurd h id
  | .cmp op a b, σ, s, Q, Q', E, E', hQ, hE, h => by
    simp only [xE] at h ⊢
    exact xE_mono a (fun x s1 h => xE_mono b (fun y s2 h => obl_mono h fun _ h => hQ _ _ h) hE h) hE h
  | .chn op op' a b c, σ, s, Q, Q', E, E', hQ, hE, h => by
    simp only [xE] at h ⊢
    exact xE_mono a (fun x s1 h => xE_mono b (fun y s2 h => br_mono h (fun h => xE_mono c (fun z s3 h => obl_mono h fun _ h => hQ _ _ h) hE h) (hQ _ _)) hE h) hE h
  | .and a b, σ, s, Q, Q', E, E', hQ, hE, h => by
    simp only [xE] at h ⊢
    exact xE_mono a (fun x s1 h => br_mono h (fun h => xE_mono b hQ hE h) (hQ _ _)) hE h
  | .or a b, σ, s, Q, Q', E, E', hQ, hE, h => by
    simp only [xE] at h ⊢
    exact xE_mono a (fun x s1 h => br_mono h (hQ _ _) (fun h => xE_mono b hQ hE h)) hE h
  | .not a, σ, s, Q, Q', E, E', hQ, hE, h => by
    simp only [xE] at h ⊢
    exact xE_mono a (fun x s1 h => obl_mono h fun _ h => hQ _ _ h) hE h
  | .ite c a b, σ, s, Q, Q', E, E', hQ, hE, h => by
    simp only [xE] at h ⊢
    exact xE_mono c (fun x s1 h => br_mono h (fun h => xE_mono a hQ hE h) (fun h => xE_mono b hQ hE h)) hE h
  | .tup es, σ, s, Q, Q', E, E', hQ, hE, h => by
    simp only [xE] at h ⊢
    exact xEs_mono es (fun vs s1 h => ⟨h.1, hQ _ _ h.2⟩) hE h
  | .lst es, σ, s, Q, Q', E, E', hQ, hE, h => by
    simp only [xE] at h ⊢
    exact xEs_mono es (fun vs s1 h => ⟨h.1, mk_mono hQ h.2⟩) hE h
  | .dct es, σ, s, Q, Q', E, E', hQ, hE, h => by
    simp only [xE] at h ⊢
    refine xEs_mono es (fun vs s1 h => ?_) hE h
    cases hp : pairUp vs with
    | none => rw [hp] at h; exact absurd h id
    | some kvs => rw [hp] at h; exact ⟨h.1, h.2.1, hQ _ _ h.2.2⟩
  | .ix a b, σ, s, Q, Q', E, E', hQ, hE, h => by
    simp only [xE] at h ⊢
    exact xE_mono a (fun x s1 h => xE_mono b (fun y s2 h => xIx_mono x y hQ h) hE h) hE h
  | .sl a l u, σ, s, Q, Q', E, E', hQ, hE, h => by
    simp only [xE] at h ⊢
    exact xE_mono a (fun x s1 h => xE_mono l (fun y s2 h => ⟨h.1, xE_mono u (fun z s3 h => ⟨h.1, xSl_mono x y z hQ h.2⟩) hE h.2⟩) hE h) hE h
  | .call f es, σ, s, Q, Q', E, E', hQ, hE, h => by
    simp only [xE] at h ⊢
    exact xEs_mono es (fun vs s1 h => hG _ _ _ _ _ _ _ hQ hE h) hE h
  | .blt f es, σ, s, Q, Q', E, E', hQ, hE, h => by
    simp only [xE] at h ⊢
    exact xEs_mono es (fun vs s1 h => xBlt_mono f vs hQ h) hE h
  | .meth m o es, σ, s, Q, Q', E, E', hQ, hE, h => by
    simp only [xE] at h ⊢
    exact xE_mono o (fun x s1 h => ⟨h.1, xEs_mono es (fun vs s2 h => xMeth_mono m x vs hQ h) hE h.2⟩) hE h
  | .lc own tg ik its ifs elt, σ, s, Q, Q', E, E', hQ, hE, h => by
    simp only [xE] at h ⊢
    exact xEs_mono its (fun vs s1 h => xIt_mono ik vs (fun l o h => lcGo_mono (t := fun σ' s' K => xIf G ifs σ' s' K) (f := fun σ' s' K => xE G elt σ' s' K (fun _ _ _ => False)) (fun σ s K K' hK h => xIf_mono ifs hK h) (fun σ s Q Q' hQ h => xE_mono elt hQ (fun _ _ _ h => h) h) _ _ (fun s h => hQ _ _ h) h) h) hE h
  | .dc own tg ik its ifs k v, σ, s, Q, Q', E, E', hQ, hE, h => by
    simp only [xE] at h ⊢
    exact xEs_mono its (fun vs s1 h => xIt_mono ik vs (fun l o h => dcGo_mono (t := fun σ' s' K => xIf G ifs σ' s' K) (f := fun σ' s' K => xE G k σ' s' K (fun _ _ _ => False)) (g := fun σ' s' K => xE G v σ' s' K (fun _ _ _ => False)) (fun σ s K K' hK h => xIf_mono ifs hK h) (fun σ s Q Q' hQ h => xE_mono k hQ (fun _ _ _ h => h) h) (fun σ s Q Q' hQ h => xE_mono v hQ (fun _ _ _ h => h) h) _ _ (fun s h => hQ _ _ h) h) h) hE h
  | .fld o f, σ, s, Q, Q', E, E', hQ, hE, h => by
    simp only [xE] at h ⊢
    exact xE_mono o (fun x s1 h => xFld_mono x f hQ h) hE h
  | .mcall m cs o es, σ, s, Q, Q', E, E', hQ, hE, h => by
    simp only [xE] at h ⊢
    exact xE_mono o (fun x s1 h => xMc_mono x m cs (fun c h => xEs_mono es (fun vs s2 h => hG _ _ _ _ _ _ _ hQ hE h) hE h) h) hE h
  | .rvs a, σ, s, Q, Q', E, E', hQ, hE, h => by
    simp only [xE] at h ⊢
    exact xE_mono a (fun x s1 h => xRvs_mono x hQ h) hE h
theorem xEs_mono : ∀ (es : List EX) {σ : Sl} {s : Sto} {Q Q' : List D → Sto → Prop} {E E' : XQ}, (∀ d s, Q d s → Q' d s) → (∀ c fs s, E c fs s → E' c fs s) → xEs G es σ s Q E → xEs G es σ s Q' E'
  | [], _, _, _, _, _, _, hQ, hE, h => hQ _ _ h
  | e :: es, σ, s, Q, Q', E, E', hQ, hE, h => by
    simp only [xEs] at h ⊢
    exact xE_mono e (fun x s1 h => xEs_mono es (fun xs s2 h => hQ _ _ h) hE h) hE h
theorem xIf_mono : ∀ (es : List EX) {σ : Sl} {s : Sto} {K K' : Bool → Sto → Prop}, (∀ d s, K d s → K' d s) → xIf G es σ s K → xIf G es σ s K'
  | [], _, _, _, _, hK, h => hK _ _ h
  | e :: es, σ, s, K, K', hK, h => by
    simp only [xIf] at h ⊢
    exact xE_mono e (fun x s1 h => br_mono h (fun h => xIf_mono es hK h) (hK _ _)) (fun _ _ _ h => h) h
end
mutual
theorem xS_mono : ∀ (st : ST) {σ : Sl} {s : Sto} {N N' : En}, En.le N N' → xS G st σ s N → xS G st σ s N'
  | .expr e, σ, s, N, N', hN, h => by
    simp only [xS] at h ⊢
    exact xE_mono hG e (fun x s1 h => hN.nx _ _ h) (fun _ _ _ h => hN.ex _ _ _ _ h) h
  | .asg tg e, σ, s, N, N', hN, h => by
    simp only [xS] at h ⊢
    exact xE_mono hG e (fun x s1 h => xTg_mono tg (fun σ h => hN.nx _ _ h) h) (fun _ _ _ h => hN.ex _ _ _ _ h) h
  | .aset o i e, σ, s, N, N', hN, h => by
    simp only [xS] at h ⊢
    exact xE_mono hG e (fun v s1 h => xE_mono hG o (fun x s2 h => xE_mono hG i (fun y s3 h => xAset_mono x y v (fun _ h => hN.nx _ _ h) h) (fun _ _ _ h => hN.ex _ _ _ _ h) h) (fun _ _ _ h => hN.ex _ _ _ _ h) h) (fun _ _ _ h => hN.ex _ _ _ _ h) h
  | .aug i op e, σ, s, N, N', hN, h => by
    simp only [xS] at h ⊢
    split at h
    · exact xE_mono hG e (fun v s1 h => xIp_mono op _ _ (fun _ _ h => hN.nx _ _ h) h) (fun _ _ _ h => hN.ex _ _ _ _ h) h
    · exact absurd h id
  | .ite c a b, σ, s, N, N', hN, h => by
    simp only [xS] at h ⊢
    exact xE_mono hG c (fun x s1 h => br_mono h (fun h => xSs_mono a hN h) (fun h => xSs_mono b hN h)) (fun _ _ _ h => hN.ex _ _ _ _ h) h
  | .whl c b, σ, s, N, N', hN, h => by
    simp only [xS] at h ⊢
    exact whlGo_mono (c := fun σ s Q E => xE G c σ s Q E) (b := fun σ s N => xSs G b σ s N) (fun σ s Q Q' E E' hQ hE h => xE_mono hG c hQ hE h) (fun σ s N N' hN h => xSs_mono b hN h) hN h
  | .for_ tg ik its b, σ, s, N, N', hN, h => by
    simp only [xS] at h ⊢
    exact xEs_mono hG its (fun vs s1 h => xIt_mono ik vs (fun l o h => forGo_mono (b := fun σ s N => xSs G b σ s N) (fun σ s N N' hN h => xSs_mono b hN h) hN _ _ _ h) h) (fun _ _ _ h => hN.ex _ _ _ _ h) h
  | .ret e, σ, s, N, N', hN, h => by
    simp only [xS] at h ⊢
    exact xE_mono hG e hN.rt (fun _ _ _ h => hN.ex _ _ _ _ h) h
  | .brk, _, _, _, _, hN, h => hN.bk _ _ h
  | .cnt, _, _, _, _, hN, h => hN.ct _ _ h
  | .pass, _, _, _, _, hN, h => hN.nx _ _ h
  | .fset o f e, σ, s, N, N', hN, h => by
    simp only [xS] at h ⊢
    exact xE_mono hG e (fun v s1 h => xE_mono hG o (fun x s2 h => xFset_mono x f v (fun _ h => hN.nx _ _ h) h) (fun _ _ _ h => hN.ex _ _ _ _ h) h) (fun _ _ _ h => hN.ex _ _ _ _ h) h
  | .faug o f op e, σ, s, N, N', hN, h => by
    simp only [xS] at h ⊢
    exact xE_mono hG o (fun x s1 h => xFa1_mono x f (fun n c v h => xE_mono hG e (fun y s2 h => xFa2_mono op n c f v y (fun _ h => hN.nx _ _ h) h) (fun _ _ _ h => hN.ex _ _ _ _ h) h) h) (fun _ _ _ h => hN.ex _ _ _ _ h) h
  | .forK tg i b, σ, s, N, N', hN, h => by
    simp only [xS] at h ⊢
    refine xFk_mono σ i (fun n kvs h => forGo_mono (b := fun σ s N => xSs G b σ s N) (fun σ s N N' hN h => xSs_mono b hN h) ?_ _ _ _ h) h
    exact ⟨fun σ s h => ⟨h.1, hN.nx _ _ h.2⟩, fun d s h => ⟨h.1, hN.rt _ _ h.2⟩, fun σ s h => ⟨h.1, hN.bk _ _ h.2⟩, fun σ s h => ⟨h.1, hN.ct _ _ h.2⟩, fun _ _ _ _ h => h⟩
  | .ctor c i, σ, s, N, N', hN, h => by
    simp only [xS] at h ⊢
    split at h
    · exact hG _ _ _ _ _ _ _ (fun _ _ h => ⟨h.1, hN.rt _ _ h.2⟩) (fun _ _ _ h => hN.ex _ _ _ _ h) h
    · exact absurd h id
theorem xSs_mono : ∀ (b : List ST) {σ : Sl} {s : Sto} {N N' : En}, En.le N N' → xSs G b σ s N → xSs G b σ s N'
  | [], _, _, _, _, hN, h => hN.nx _ _ h
  | st :: r, σ, s, N, N', hN, h => by
    simp only [xSs] at h ⊢
    exact xS_mono st (N := { N with nx := fun σ s => xSs G r σ s N }) ⟨fun σ s h => xSs_mono r hN h, hN.rt, hN.bk, hN.ct, hN.ex⟩ h
end
end
theorem Lv_mono (T : Nat → Option Fn) : ∀ k, (Lv T k).Mono
  | 0 => fun _ _ _ _ _ _ _ _ _ h => absurd h id
  | k + 1 => fun f vs s Q Q' E E' hQ hE h => by
    simp only [Lv] at h ⊢
    split at h
    · exact absurd h id
    · exact ⟨h.1, xSs_mono (Lv_mono T k) _ (N := { nx := fun _ s' => Q .non s', rt := Q, bk := fun _ _ => False, ct := fun _ _ => False, ex := fun c fs _ s' => E c fs s' }) ⟨fun _ _ h => hQ _ _ h, hQ, fun _ _ h => h, fun _ _ h => h, fun _ _ _ _ h => hE _ _ _ h⟩ h.2⟩
end PX

/-! PX: how plain values and stores stand for the values and heaps of the hand layer. -/
namespace PX
open PySem PySem.Spec PyProof.Rows L2

/-- what of the text the relation leans on: the written part, the constant dicts, the classes, the attributes' names -/
structure Tb where
  K : PySem.W.Frag
  pw : Params
  cl : Nat → Option Addr
  at_ : List Str

/-- a list of the written part -/
def KL (K : PySem.W.Frag) (a : Addr) (xs : List V) : Prop :=
  ∃ (o : Obj) (its : Array Value) (n : Nat), K.lookup a = some o ∧ o.cls = .type "list" ∧ o.dict = none ∧ o.data = .seq its n ∧ its.size ≤ sizeLine ∧ Vals xs its.toList
def FrzL (K : PySem.W.Frag) (H : Hp) (a : Addr) (xs : List V) : Prop := (∃ o, H a = some (.frz o (.lst xs))) ∨ KL K a xs
theorem FrzL.sq {K : PySem.W.Frag} {H : Hp} {a : Addr} {xs : List V} (h : FrzL K H a xs) : SqL K H a xs := by
  rcases h with h | h
  · exact .inl (.inr h)
  · exact .inr h
/-- a text that fits -/
def StrOk (x : List Nat) : Prop := x.length ≤ sizeLine ∧ ∀ c ∈ x, c < 1114112
instance (x : List Nat) : Decidable (StrOk x) := inferInstanceAs (Decidable (_ ∧ _))
/-- the entries of a dict of the written part -/
def CDes : List D → List V → List DictEntry → Prop
  | [], [], [] => True
  | k :: ks, u :: us, e :: es => (∃ a t, k = .str a ∧ e.key = .str ⟨a.toArray⟩ t) ∧ RelV u e.val ∧ CDes ks us es
  | _, _, _ => False
def CD (B : Tb) (a : Addr) (ks : List D) (us : List V) : Prop :=
  ∃ (es : Array DictEntry) (n : Nat), B.K.lookup a = some ⟨.type "dict", none, .dict es n, #[]⟩ ∧ PySem.W.KeysLit B.pw es.toList ∧ (a == sysModules) = false ∧ CDes ks us es.toList
mutual
def RelD (B : Tb) (H : Hp) (ρ : List Addr) : D → V → Prop
  | .non, v => v = .non
  | .bl b, v => v = .bl b
  | .int i, v => v = .int i
  | .str x, v => v = .str ⟨x.toArray⟩ ∧ StrOk x
  | .tup xs, v => ∃ a vs, v = .ref a ∧ SqT B.K H a vs ∧ xs.length ≤ sizeLine ∧ RelDs B H ρ xs vs
  | .fl xs, v => ∃ a vs, v = .ref a ∧ FrzL B.K H a vs ∧ RelDs B H ρ xs vs
  | .kd _, _ => False
  | .ref n, v => ∃ a, v = .ref a ∧ ρ[n]? = some a
  | .fd ks vs, v => ∃ a us, v = .ref a ∧ CD B a ks us ∧ RelDs B H ρ vs us
def RelDs (B : Tb) (H : Hp) (ρ : List Addr) : List D → List V → Prop
  | [], vs => vs = []
  | x :: xs, vs => ∃ v r, vs = v :: r ∧ RelD B H ρ x v ∧ RelDs B H ρ xs r
end
/-- what never changes is kept -/
structure Keep (H H' : Hp) : Prop where
  tup : ∀ a xs, H a = some (.tup xs) → H' a = some (.tup xs)
  frz : ∀ a o u, H a = some (.frz o u) → H' a = some (.frz o u)
theorem Keep.refl (H : Hp) : Keep H H := ⟨fun _ _ h => h, fun _ _ _ h => h⟩
theorem Keep.trans {H H1 H2 : Hp} (a : Keep H H1) (b : Keep H1 H2) : Keep H H2 := ⟨fun c xs h => b.tup c xs (a.tup c xs h), fun c o u h => b.frz c o u (a.frz c o u h)⟩
theorem Keep.new {H : Hp} {p : Addr} {o : HO} (h : H p = none) : Keep H (upd H p o) :=
  ⟨fun a xs e => by rw [upd_ne (ne_of_none e h)]; exact e, fun a o u e => by rw [upd_ne (ne_of_none e h)]; exact e⟩
theorem Keep.lst {H : Hp} {p : Addr} {xs : List V} {o : HO} (h : H p = some (.lst xs)) : Keep H (upd H p o) :=
  ⟨fun a ys e => by rw [upd_ne (ne_of e h (by intro z; cases z))]; exact e, fun a o u e => by rw [upd_ne (ne_of e h (by intro z; cases z))]; exact e⟩
/-- .. as far as plain values go -/
structure KeepD (H H' : Hp) : Prop where
  tup : ∀ a xs, H a = some (.tup xs) → H' a = some (.tup xs)
  ft : ∀ a o xs, H a = some (.frz o (.tup xs)) → H' a = some (.frz o (.tup xs))
  fl : ∀ a o xs, H a = some (.frz o (.lst xs)) → H' a = some (.frz o (.lst xs))
theorem Keep.toD {H H' : Hp} (k : Keep H H') : KeepD H H' := ⟨k.tup, fun a o xs => k.frz a o _, fun a o xs => k.frz a o _⟩
theorem KeepD.sqT {K : PySem.W.Frag} {H H' : Hp} {a : Addr} {xs : List V} (k : KeepD H H') (h : SqT K H a xs) : SqT K H' a xs := by
  rcases h with (h | ⟨o, h⟩) | h
  · exact .inl (.inl (k.tup _ _ h))
  · exact .inl (.inr ⟨o, k.ft _ _ _ h⟩)
  · exact .inr h
theorem KeepD.frzL {K : PySem.W.Frag} {H H' : Hp} {a : Addr} {xs : List V} (k : KeepD H H') (h : FrzL K H a xs) : FrzL K H' a xs := by
  rcases h with ⟨o, h⟩ | h
  · exact .inl ⟨o, k.fl _ _ _ h⟩
  · exact .inr h
theorem Keep.sqT {K : PySem.W.Frag} {H H' : Hp} {a : Addr} {xs : List V} (k : Keep H H') (h : SqT K H a xs) : SqT K H' a xs := by
  rcases h with (h | ⟨o, h⟩) | h
  · exact .inl (.inl (k.tup _ _ h))
  · exact .inl (.inr ⟨o, k.frz _ _ _ h⟩)
  · exact .inr h
theorem Keep.frzL {K : PySem.W.Frag} {H H' : Hp} {a : Addr} {xs : List V} (k : Keep H H') (h : FrzL K H a xs) : FrzL K H' a xs := by
  rcases h with ⟨o, h⟩ | h
  · exact .inl ⟨o, k.frz _ _ _ h⟩
  · exact .inr h
section
variable {B : Tb} {H H' : Hp} {ρ ρ' : List Addr}
theorem pre_get {α : Type} {l m : List α} {n : Nat} {a : α} (p : l <+: m) (h : l[n]? = some a) : m[n]? = some a := by
  obtain ⟨r, rfl⟩ := p
  rw [List.getElem?_append_left (List.getElem?_eq_some_iff.mp h).1]
  exact h
mutual
theorem RelD.monoD (p : ρ <+: ρ') (k : KeepD H H') : ∀ {x : D} {v : V}, RelD B H ρ x v → RelD B H' ρ' x v
  | .non, _, h => h
  | .bl _, _, h => h
  | .int _, _, h => h
  | .str _, _, h => h
  | .tup xs, v, h => by
    obtain ⟨a, vs, e, q, z, r⟩ := h
    exact ⟨a, vs, e, k.sqT q, z, RelDs.monoD p k r⟩
  | .fl xs, v, h => by
    obtain ⟨a, vs, e, q, r⟩ := h
    exact ⟨a, vs, e, k.frzL q, RelDs.monoD p k r⟩
  | .kd _, _, h => h
  | .ref n, v, h => by
    obtain ⟨a, e, q⟩ := h
    exact ⟨a, e, pre_get p q⟩
  | .fd ks vs, v, h => by
    obtain ⟨a, us, e, q, r⟩ := h
    exact ⟨a, us, e, q, RelDs.monoD p k r⟩
theorem RelDs.monoD (p : ρ <+: ρ') (k : KeepD H H') : ∀ {xs : List D} {vs : List V}, RelDs B H ρ xs vs → RelDs B H' ρ' xs vs
  | [], _, h => h
  | x :: xs, vs, h => by
    obtain ⟨v, r, e, h1, h2⟩ := h
    exact ⟨v, r, e, RelD.monoD p k h1, RelDs.monoD p k h2⟩
end
theorem RelD.mono (p : ρ <+: ρ') (k : Keep H H') {x : D} {v : V} (h : RelD B H ρ x v) : RelD B H' ρ' x v := h.monoD p k.toD
theorem RelDs.mono (p : ρ <+: ρ') (k : Keep H H') {xs : List D} {vs : List V} (h : RelDs B H ρ xs vs) : RelDs B H' ρ' xs vs := h.monoD p k.toD
theorem RelDs.length : ∀ {xs : List D} {vs : List V}, RelDs B H ρ xs vs → xs.length = vs.length
  | [], vs, h => by
    have e : vs = [] := h
    subst e
    rfl
  | x :: xs, vs, h => by
    obtain ⟨v, r, rfl, _, h2⟩ := h
    rw [List.length_cons, List.length_cons, RelDs.length h2]
theorem RelDs.get : ∀ {xs : List D} {vs : List V}, RelDs B H ρ xs vs → ∀ {i : Nat} {x : D}, xs[i]? = some x → ∃ v, vs[i]? = some v ∧ RelD B H ρ x v
  | [], _, h, i, x, e => by simp at e
  | y :: xs, vs, h, i, x, e => by
    obtain ⟨v, r, rfl, h1, h2⟩ := h
    cases i with
    | zero =>
      have e' : y = x := Option.some.inj e
      subst e'
      exact ⟨v, rfl, h1⟩
    | succ i => exact RelDs.get h2 (i := i) e
theorem RelDs.getV : ∀ {xs : List D} {vs : List V}, RelDs B H ρ xs vs → ∀ {i : Nat} {v : V}, vs[i]? = some v → ∃ x, xs[i]? = some x ∧ RelD B H ρ x v
  | [], vs, h, i, x, e => by
    have e' : vs = [] := h
    subst e'
    simp at e
  | y :: xs, vs, h, i, x, e => by
    obtain ⟨v, r, rfl, h1, h2⟩ := h
    cases i with
    | zero =>
      have e' : v = x := Option.some.inj e
      subst e'
      exact ⟨y, rfl, h1⟩
    | succ i => exact RelDs.getV h2 (i := i) e
theorem RelDs.append : ∀ {xs ys : List D} {vs ws : List V}, RelDs B H ρ xs vs → RelDs B H ρ ys ws → RelDs B H ρ (xs ++ ys) (vs ++ ws)
  | [], ys, vs, ws, h, q => by
    have e : vs = [] := h
    subst e
    exact q
  | x :: xs, ys, vs, ws, h, q => by
    obtain ⟨v, r, rfl, h1, h2⟩ := h
    exact ⟨v, r ++ ws, rfl, h1, RelDs.append h2 q⟩
theorem RelDs.take : ∀ {xs : List D} {vs : List V} (n : Nat), RelDs B H ρ xs vs → RelDs B H ρ (xs.take n) (vs.take n)
  | _, _, 0, _ => rfl
  | [], vs, n + 1, h => by rw [show vs = [] from h]; rfl
  | x :: xs, vs, n + 1, h => by
    obtain ⟨v, r, rfl, h1, h2⟩ := h
    exact ⟨v, r.take n, rfl, h1, RelDs.take n h2⟩
theorem RelDs.drop : ∀ {xs : List D} {vs : List V} (n : Nat), RelDs B H ρ xs vs → RelDs B H ρ (xs.drop n) (vs.drop n)
  | _, _, 0, h => h
  | [], vs, n + 1, h => by rw [show vs = [] from h]; rfl
  | x :: xs, vs, n + 1, h => by
    obtain ⟨v, r, rfl, h1, h2⟩ := h
    exact RelDs.drop n h2
theorem RelDs.set {x : D} {v : V} (hx : RelD B H ρ x v) : ∀ {xs : List D} {vs : List V} (n : Nat), RelDs B H ρ xs vs → RelDs B H ρ (xs.set n x) (vs.set n v)
  | [], vs, n, h => by rw [show vs = [] from h]; rfl
  | y :: xs, vs, 0, h => by
    obtain ⟨w, r, rfl, h1, h2⟩ := h
    exact ⟨v, r, rfl, hx, h2⟩
  | y :: xs, vs, n + 1, h => by
    obtain ⟨w, r, rfl, h1, h2⟩ := h
    exact ⟨w, _, rfl, h1, RelDs.set hx n h2⟩
theorem RelDs.dropLast {xs : List D} {vs : List V} (h : RelDs B H ρ xs vs) : RelDs B H ρ xs.dropLast vs.dropLast := by
  rw [List.dropLast_eq_take, List.dropLast_eq_take, ← h.length]
  exact h.take _
theorem RelDs.reverse : ∀ {xs : List D} {vs : List V}, RelDs B H ρ xs vs → RelDs B H ρ xs.reverse vs.reverse
  | [], vs, h => by rw [show vs = [] from h]; rfl
  | x :: xs, vs, h => by
    obtain ⟨v, r, rfl, h1, h2⟩ := h
    rw [List.reverse_cons, List.reverse_cons]
    exact (RelDs.reverse h2).append ⟨v, [], rfl, h1, rfl⟩
theorem RelDs.rep {xs : List D} {vs : List V} (h : RelDs B H ρ xs vs) : ∀ k : Nat, RelDs B H ρ (List.replicate k xs).flatten (List.replicate k vs).flatten
  | 0 => rfl
  | k + 1 => by
    rw [List.replicate_succ, List.replicate_succ, List.flatten_cons, List.flatten_cons]
    exact h.append (RelDs.rep h k)
theorem RelDs.cut {xs : List D} {vs : List V} (h : RelDs B H ρ xs vs) (lo hi : Option Int) : RelDs B H ρ (PX.cut xs lo hi) (cutV vs lo hi) := by
  unfold PX.cut cutV
  rw [h.length]
  exact (h.drop _).take _
theorem RelDs.ints : ∀ {ns : List Int}, RelDs B H ρ (ns.map D.int) (ns.map V.int)
  | [] => rfl
  | n :: ns => ⟨_, _, rfl, rfl, RelDs.ints⟩
/-- a key, as the hand layer has it -/
def keyV : D → Option Key
  | .int i => some (.inl i)
  | .str a => if StrOk a then some (.inr ⟨a.toArray⟩) else none
  | _ => none
/-- the entries of a tracked dict -/
def RelKV (B : Tb) (H : Hp) (ρ : List Addr) : List (D × D) → List (Key × V) → Prop
  | [], l => l = []
  | (k, d) :: r, l => ∃ k' v l', l = (k', v) :: l' ∧ keyV k = some k' ∧ RelD B H ρ d v ∧ RelKV B H ρ r l'
theorem RelKV.monoD (p : ρ <+: ρ') (k : KeepD H H') : ∀ {kvs : List (D × D)} {l : List (Key × V)}, RelKV B H ρ kvs l → RelKV B H' ρ' kvs l
  | [], _, h => h
  | (x, d) :: r, l, h => by
    obtain ⟨k', v, l', e, h1, h2, h3⟩ := h
    exact ⟨k', v, l', e, h1, h2.monoD p k, h3.monoD p k⟩
theorem RelKV.mono (p : ρ <+: ρ') (k : Keep H H') {kvs : List (D × D)} {l : List (Key × V)} (h : RelKV B H ρ kvs l) : RelKV B H' ρ' kvs l := h.monoD p k.toD
/-- an object's fields -/
def RelF (B : Tb) (H : Hp) (ρ : List Addr) : List (Nat × D) → List (Str × V) → Prop
  | [], l => l = []
  | (f, d) :: r, l => ∃ x v l', l = (x, v) :: l' ∧ B.at_[f]? = some x ∧ RelD B H ρ d v ∧ RelF B H ρ r l'
theorem RelF.monoD (p : ρ <+: ρ') (k : KeepD H H') : ∀ {fs : List (Nat × D)} {l : List (Str × V)}, RelF B H ρ fs l → RelF B H' ρ' fs l
  | [], _, h => h
  | (x, d) :: r, l, h => by
    obtain ⟨k', v, l', e, h1, h2, h3⟩ := h
    exact ⟨k', v, l', e, h1, h2.monoD p k, h3.monoD p k⟩
theorem RelF.mono (p : ρ <+: ρ') (k : Keep H H') {fs : List (Nat × D)} {l : List (Str × V)} (h : RelF B H ρ fs l) : RelF B H' ρ' fs l := h.monoD p k.toD
theorem RelF.length : ∀ {fs : List (Nat × D)} {l : List (Str × V)}, RelF B H ρ fs l → fs.length = l.length
  | [], l, h => by rw [show l = [] from h]; rfl
  | (x, d) :: r, l, h => by
    obtain ⟨k', v, l', rfl, _, _, h3⟩ := h
    rw [List.length_cons, List.length_cons, h3.length]
/-- no two attributes of one name -/
def NmOk (B : Tb) : Prop := B.at_.Nodup
theorem nm_inj (n : NmOk B) {f g : Nat} {x : Str} (h1 : B.at_[f]? = some x) (h2 : B.at_[g]? = some x) : f = g := by
  have a := List.getElem?_eq_some_iff.mp h1
  have b := List.getElem?_eq_some_iff.mp h2
  exact (List.getElem_inj n).mp (a.2.trans b.2.symm)
theorem RelF.get (n : NmOk B) {f : Nat} {x : Str} (hx : B.at_[f]? = some x) : ∀ {fs : List (Nat × D)} {l : List (Str × V)}, RelF B H ρ fs l → (∀ d, fGet fs f = some d → ∃ v, l.lookup x = some v ∧ RelD B H ρ d v) ∧ (fGet fs f = none → l.lookup x = none)
  | [], l, h => by
    rw [show l = [] from h]
    exact ⟨fun d z => by simp [fGet] at z, fun _ => rfl⟩
  | (g, d) :: r, l, h => by
    obtain ⟨y, v, l', rfl, h1, h2, h3⟩ := h
    have ih := RelF.get n hx h3
    by_cases e : g = f
    · subst e
      rw [hx] at h1
      cases h1
      have e1 : fGet ((g, d) :: r) g = some d := by simp [fGet]
      rw [e1, List.lookup_cons, beq_self_eq_true]
      exact ⟨fun d' z => ⟨v, rfl, by cases z; exact h2⟩, fun z => by cases z⟩
    · have e1 : fGet ((g, d) :: r) f = fGet r f := by simp [fGet, e]
      have e2 : (x == y) = false := by
        rw [beq_eq_false_iff_ne]
        rintro rfl
        exact e (nm_inj n h1 hx)
      rw [e1, List.lookup_cons, e2]
      exact ih
theorem RelF.put (n : NmOk B) {f : Nat} {x : Str} {d : D} {v : V} (hx : B.at_[f]? = some x) (hd : RelD B H ρ d v) : ∀ {fs : List (Nat × D)} {l : List (Str × V)}, RelF B H ρ fs l → RelF B H ρ (fPut fs f d) (putF x v l)
  | [], l, h => by
    rw [show l = [] from h]
    exact ⟨x, v, [], rfl, hx, hd, rfl⟩
  | (g, d') :: r, l, h => by
    obtain ⟨y, v', l', rfl, h1, h2, h3⟩ := h
    have ih := RelF.put n hx hd h3
    by_cases e : g = f
    · subst e
      rw [hx] at h1
      cases h1
      have e1 : fPut ((g, d') :: r) g d = (g, d) :: r := by simp [fPut]
      have e2 : putF x v ((x, v') :: l') = (x, v) :: l' := by simp [putF]
      rw [e1, e2]
      exact ⟨x, v, l', rfl, hx, hd, h3⟩
    · have e1 : fPut ((g, d') :: r) f d = (g, d') :: fPut r f d := by simp [fPut, e]
      have e2 : putF x v ((y, v') :: l') = (y, v') :: putF x v l' := by
        have : ¬ y = x := by
          rintro rfl
          exact e (nm_inj n h1 hx)
        simp [putF, this]
      rw [e1, e2]
      exact ⟨y, v', _, rfl, h1, h2, ih⟩
/-- what an object is -/
def RelU (B : Tb) (H : Hp) (ρ : List Addr) : Ob → HO → Prop
  | .lst xs, u => ∃ vs, u = .lst vs ∧ RelDs B H ρ xs vs
  | .ins c fs, u => ∃ C dx l, B.cl c = some C ∧ u = .ins C dx l ∧ RelF B H ρ fs l
  | .dic kvs, u => ∃ l, u = .dK l ∧ RelKV B H ρ kvs l
  | .ldic kvs, u => ∃ o l, u = .frz o (.dK l) ∧ RelKV B H ρ kvs l
/-- it may be written -/
def wrO : Ob → Bool
  | .ldic _ => false
  | _ => true
theorem RelU.monoD (p : ρ <+: ρ') (k : KeepD H H') : ∀ {o : Ob} {u : HO}, RelU B H ρ o u → RelU B H' ρ' o u
  | .lst _, _, ⟨vs, e, r⟩ => ⟨vs, e, r.monoD p k⟩
  | .dic _, _, ⟨l, e, r⟩ => ⟨l, e, r.monoD p k⟩
  | .ldic _, _, ⟨o, l, e, r⟩ => ⟨o, l, e, r.monoD p k⟩
  | .ins _ _, _, ⟨C, dx, l, e1, e2, r⟩ => ⟨C, dx, l, e1, e2, r.monoD p k⟩
theorem RelU.mono (p : ρ <+: ρ') (k : Keep H H') {o : Ob} {u : HO} (h : RelU B H ρ o u) : RelU B H' ρ' o u := h.monoD p k.toD
/-- .. that may be written anew -/
theorem RelU.keep {o : Ob} {u u' : HO} {p : Addr} (hw : wrO o = true) (h : RelU B H ρ o u) (hp : H p = some u) : Keep H (upd H p u') := by
  have t : ∀ a ys, H a = some (.tup ys) → a ≠ p := fun a ys e => ne_of e hp (by
    intro z
    subst z
    cases o with
    | lst xs => obtain ⟨vs, z, _⟩ := h; cases z
    | dic kvs => obtain ⟨vs, z, _⟩ := h; cases z
    | ldic kvs => cases hw
    | ins c fs => obtain ⟨_, _, _, _, z, _⟩ := h; cases z)
  have f : ∀ a o' u', H a = some (.frz o' u') → a ≠ p := fun a o' u' e => ne_of e hp (by
    intro z
    subst z
    cases o with
    | lst xs => obtain ⟨vs, z, _⟩ := h; cases z
    | dic kvs => obtain ⟨vs, z, _⟩ := h; cases z
    | ldic kvs => cases hw
    | ins c fs => obtain ⟨_, _, _, _, z, _⟩ := h; cases z)
  exact ⟨fun a ys e => by rw [upd_ne (t a ys e)]; exact e, fun a o' u' e => by rw [upd_ne (f a o' u' e)]; exact e⟩
/-- what stands at an address -/
def RelO (B : Tb) (H : Hp) (ρ : List Addr) (a : Addr) (o : Ob) : Prop := ∃ u, H a = some u ∧ RelU B H ρ o u
theorem RelO.ne {a : Addr} {o : Ob} {p : Addr} {u : HO} (h : RelO B H ρ a o) (hp : H p = none) : RelO B (upd H p u) ρ a o := by
  obtain ⟨u', h1, h2⟩ := h
  exact ⟨u', by rw [upd_ne (ne_of_none h1 hp)]; exact h1, h2.mono (List.prefix_refl _) (.new hp)⟩
structure RelS (B : Tb) (H : Hp) (ρ : List Addr) (s : Sto) : Prop where
  len : ρ.length = s.length
  nd : ρ.Nodup
  ob : ∀ (n : Nat) (a : Addr) (o : Ob), ρ[n]? = some a → s[n]? = some o → RelO B H ρ a o
theorem RelS.lstOf {s : Sto} (S : RelS B H ρ s) {n : Nat} {a : Addr} {xs : List D} (e : ρ[n]? = some a) (h : s[n]? = some (.lst xs)) : ∃ vs, H a = some (.lst vs) ∧ RelDs B H ρ xs vs := by
  obtain ⟨u, h1, vs, rfl, h2⟩ := S.ob n a _ e h
  exact ⟨vs, h1, h2⟩
theorem RelS.dicOf {s : Sto} (S : RelS B H ρ s) {n : Nat} {a : Addr} {kvs : List (D × D)} (e : ρ[n]? = some a) (h : s[n]? = some (.dic kvs)) : ∃ l, H a = some (.dK l) ∧ RelKV B H ρ kvs l := by
  obtain ⟨u, h1, vs, rfl, h2⟩ := S.ob n a _ e h
  exact ⟨vs, h1, h2⟩
theorem RelS.ldicOf {s : Sto} (S : RelS B H ρ s) {n : Nat} {a : Addr} {kvs : List (D × D)} (e : ρ[n]? = some a) (h : s[n]? = some (.ldic kvs)) : ∃ o l, H a = some (.frz o (.dK l)) ∧ RelKV B H ρ kvs l := by
  obtain ⟨u, h1, o, vs, rfl, h2⟩ := S.ob n a _ e h
  exact ⟨o, vs, h1, h2⟩
theorem RelS.insOf {s : Sto} (S : RelS B H ρ s) {n : Nat} {a : Addr} {c : Nat} {fs : List (Nat × D)} (e : ρ[n]? = some a) (h : s[n]? = some (.ins c fs)) : ∃ C dx l, B.cl c = some C ∧ H a = some (.ins C dx l) ∧ RelF B H ρ fs l := by
  obtain ⟨u, h1, C, dx, l, h2, rfl, h3⟩ := S.ob n a _ e h
  exact ⟨C, dx, l, h2, h1, h3⟩
theorem RelS.obj {s : Sto} (S : RelS B H ρ s) {n : Nat} {a : Addr} (e : ρ[n]? = some a) : ∃ o, H a = some o := by
  have h1 : n < s.length := by rw [← S.len]; exact (List.getElem?_eq_some_iff.mp e).1
  obtain ⟨u, h, _⟩ := S.ob n a s[n] e (List.getElem?_eq_getElem h1)
  exact ⟨u, h⟩
/-- a thing that is not of the store is made -/
theorem RelS.out {s : Sto} (S : RelS B H ρ s) {p : Addr} {o : HO} (hp : H p = none) : RelS B (upd H p o) ρ s := ⟨S.len, S.nd, fun n a o' e1 e2 => (S.ob n a o' e1 e2).ne hp⟩
/-- a new object -/
theorem RelS.push {s : Sto} (S : RelS B H ρ s) {p : Addr} {o : HO} {ob : Ob} (hp : H p = none) (h : RelO B (upd H p o) (ρ ++ [p]) p ob) : RelS B (upd H p o) (ρ ++ [p]) (s ++ [ob]) := by
  refine ⟨by simp [S.len], ?_, fun n a o' e1 e2 => ?_⟩
  · refine List.nodup_append.mpr ⟨S.nd, by simp, fun x hx y hy z => ?_⟩
    obtain ⟨n, hn⟩ := List.getElem?_of_mem hx
    obtain ⟨o', ho⟩ := S.obj hn
    rw [z, List.mem_singleton.mp hy, hp] at ho
    cases ho
  · by_cases hn : n < s.length
    · rw [List.getElem?_append_left hn] at e2
      rw [List.getElem?_append_left (by rw [S.len]; exact hn)] at e1
      obtain ⟨u, h1, h2⟩ := (S.ob n a o' e1 e2).ne (u := o) hp
      exact ⟨u, h1, h2.mono (List.prefix_append _ _) (Keep.refl _)⟩
    · have hn' : n = s.length := by
        have := (List.getElem?_eq_some_iff.mp e2).1
        rw [List.length_append, List.length_singleton] at this
        omega
      subst hn'
      rw [List.getElem?_append_right (Nat.le_refl _), Nat.sub_self] at e2
      rw [List.getElem?_append_right (by rw [S.len]; exact Nat.le_refl _), S.len, Nat.sub_self] at e1
      cases Option.some.inj e1
      cases Option.some.inj e2
      exact h
/-- an object is written -/
theorem RelS.setO {s : Sto} (S : RelS B H ρ s) {n : Nat} {p : Addr} {o o' : Ob} {u u' : HO} (hw : wrO o = true) (e : ρ[n]? = some p) (hs : s[n]? = some o) (h : H p = some u) (hu : RelU B H ρ o u) (r : RelU B H ρ o' u') :
    RelS B (upd H p u') ρ (s.set n o') := by
  have k : Keep H (upd H p u') := hu.keep hw h
  refine ⟨by rw [List.length_set]; exact S.len, S.nd, fun m a o2 e1 e2 => ?_⟩
  by_cases hm : m = n
  · subst hm
    rw [List.getElem?_set_self (List.getElem?_eq_some_iff.mp hs).1] at e2
    rw [e] at e1
    cases Option.some.inj e1
    cases Option.some.inj e2
    exact ⟨u', upd_same, r.mono (List.prefix_refl _) k⟩
  · rw [List.getElem?_set_ne (Ne.symm hm)] at e2
    have hne : a ≠ p := fun z => by
      have e1' : ρ[m]? = some p := by rw [← z]; exact e1
      have h1 := List.getElem?_eq_some_iff.mp e1'
      have h2 := List.getElem?_eq_some_iff.mp e
      exact hm ((List.getElem_inj S.nd).mp (h1.2.trans h2.2.symm))
    obtain ⟨u2, h1, h2⟩ := S.ob m a o2 e1 e2
    exact ⟨u2, by rw [upd_ne hne]; exact h1, h2.mono (List.prefix_refl _) k⟩
/-- an object is exchanged for another one, the plain values stay -/
theorem RelS.setK {s : Sto} (S : RelS B H ρ s) {n : Nat} {p : Addr} {o o' : Ob} {u' : HO} (k : KeepD H (upd H p u')) (e : ρ[n]? = some p) (hs : s[n]? = some o) (r : RelU B H ρ o' u') :
    RelS B (upd H p u') ρ (s.set n o') := by
  refine ⟨by rw [List.length_set]; exact S.len, S.nd, fun m a o2 e1 e2 => ?_⟩
  by_cases hm : m = n
  · subst hm
    rw [List.getElem?_set_self (List.getElem?_eq_some_iff.mp hs).1] at e2
    rw [e] at e1
    cases Option.some.inj e1
    cases Option.some.inj e2
    exact ⟨u', upd_same, r.monoD (List.prefix_refl _) k⟩
  · rw [List.getElem?_set_ne (Ne.symm hm)] at e2
    have hne : a ≠ p := fun z => by
      have e1' : ρ[m]? = some p := by rw [← z]; exact e1
      have h1 := List.getElem?_eq_some_iff.mp e1'
      have h2 := List.getElem?_eq_some_iff.mp e
      exact hm ((List.getElem_inj S.nd).mp (h1.2.trans h2.2.symm))
    obtain ⟨u2, h1, h2⟩ := S.ob m a o2 e1 e2
    exact ⟨u2, by rw [upd_ne hne]; exact h1, h2.monoD (List.prefix_refl _) k⟩
/-- a list is written -/
theorem RelS.setL {s : Sto} (S : RelS B H ρ s) {n : Nat} {p : Addr} {xs ys : List D} {vs ws : List V} (e : ρ[n]? = some p) (hs : s[n]? = some (.lst xs)) (h : H p = some (.lst vs)) (r : RelDs B H ρ ys ws) :
    RelS B (upd H p (.lst ws)) ρ (s.set n (.lst ys)) := by
  obtain ⟨vs', h1, h2⟩ := S.lstOf e hs
  rw [h] at h1
  cases h1
  exact S.setO rfl e hs h ⟨vs, rfl, h2⟩ ⟨ws, rfl, r⟩
/-- slots -/
structure RelL (B : Tb) (H : Hp) (ρ : List Addr) (σ : Sl) (σV : L2.St) : Prop where
  len : σ.length = σV.length
  at_ : ∀ (i : Nat) (d : D), σ[i]? = some (some d) → ∃ v, σV[i]? = some (some v) ∧ RelD B H ρ d v
theorem RelL.mono {σ : Sl} {σV : L2.St} (r : RelL B H ρ σ σV) (p : ρ <+: ρ') (k : Keep H H') : RelL B H' ρ' σ σV :=
  ⟨r.len, fun i d e => let ⟨v, h1, h2⟩ := r.at_ i d e; ⟨v, h1, h2.mono p k⟩⟩
theorem RelL.set {σ : Sl} {σV : L2.St} (r : RelL B H ρ σ σV) {d : D} {v : V} (h : RelD B H ρ d v) (i : Nat) : RelL B H ρ (σ.set i (some d)) (σV.set i (some v)) := by
  refine ⟨by simp [r.len], fun j x e => ?_⟩
  by_cases hj : i = j
  · subst hj
    have hi : i < σ.length := by
      have := (List.getElem?_eq_some_iff.mp e).1
      simpa using this
    rw [List.getElem?_set_self hi] at e
    cases Option.some.inj (Option.some.inj e)
    exact ⟨v, List.getElem?_set_self (by rw [← r.len]; exact hi), h⟩
  · rw [List.getElem?_set_ne hj] at e ⊢
    exact r.at_ j x e
theorem RelL.wipe {σ : Sl} {σV : L2.St} (r : RelL B H ρ σ σV) : ∀ vs : List Nat, RelL B H ρ (wipeS σ vs) (wipe σV vs)
  | [] => r
  | v :: vs => by
    have ih := RelL.wipe r vs
    refine ⟨by simp [wipeS, L2.wipe, ih.len], fun j x e => ?_⟩
    unfold wipeS at e
    by_cases hj : v = j
    · subst hj
      by_cases hv : v < (wipeS σ vs).length
      · rw [List.getElem?_set_self hv] at e; cases e
      · rw [List.getElem?_eq_none (by simpa using hv)] at e; cases e
    · rw [List.getElem?_set_ne hj] at e
      unfold L2.wipe
      rw [List.getElem?_set_ne hj]
      exact ih.at_ j x e
end

/-- what is wanted of a plain value, as of a value -/
def Lift (B : Tb) (H : Hp) (ρ : List Addr) (Q : VK) : QE := fun d s' => ∀ ρ' H' v, ρ <+: ρ' → Keep H H' → RelD B H' ρ' d v → RelS B H' ρ' s' → Q v H'
def LiftA (B : Tb) (H : Hp) (ρ : List Addr) (Q : List V → Hp → Prop) : List D → Sto → Prop := fun ds s' => ∀ ρ' H' vs, ρ <+: ρ' → Keep H H' → RelDs B H' ρ' ds vs → RelS B H' ρ' s' → Q vs H'
/-- an exception that leaves -/
abbrev WQ := Nat → List (Nat × D) → L2.St → Hp → List Addr → Sto → Prop
def LiftX (B : Tb) (H : Hp) (ρ : List Addr) (σ : L2.St) (W : WQ) : XQ := fun c fs s' => ∀ ρ' H', ρ <+: ρ' → Keep H H' → RelS B H' ρ' s' → W c fs σ H' ρ' s'
section
variable {B : Tb} {H H' : Hp} {ρ ρ' : List Addr} {s : Sto}
theorem Lift.mono {Q : VK} {d : D} {s : Sto} (p : ρ <+: ρ') (k : Keep H H') (h : Lift B H ρ Q d s) : Lift B H' ρ' Q d s :=
  fun ρ2 H2 v p2 k2 r S => h ρ2 H2 v (p.trans p2) (k.trans k2) r S
theorem LiftX.mono {W : WQ} {σ : L2.St} {c : Nat} {fs : List (Nat × D)} {s : Sto} (p : ρ <+: ρ') (k : Keep H H') (h : LiftX B H ρ σ W c fs s) : LiftX B H' ρ' σ W c fs s :=
  fun ρ2 H2 p2 k2 S => h ρ2 H2 (p.trans p2) (k.trans k2) S
theorem Lift.here {Q : VK} {d : D} {s : Sto} {v : V} (h : Lift B H ρ Q d s) (r : RelD B H ρ d v) (S : RelS B H ρ s) : Q v H := h ρ H v (List.prefix_refl _) (Keep.refl _) r S
/-- a new list -/
theorem mk_new {Q : VK} {xs : List D} {vs : List V} (S : RelS B H ρ s) (r : RelDs B H ρ xs vs) (h : mk (.lst xs) s (Lift B H ρ Q)) {p : Addr} (hp : H p = none) : Q (.ref p) (upd H p (.lst vs)) := by
  have k : Keep H (upd H p (.lst vs)) := .new hp
  have pr : ρ <+: ρ ++ [p] := List.prefix_append _ _
  refine h (ρ ++ [p]) _ (.ref p) pr k ⟨p, rfl, ?_⟩ (S.push hp ⟨_, upd_same, vs, rfl, r.mono pr k⟩)
  rw [← S.len, List.getElem?_append_right (Nat.le_refl _), Nat.sub_self]
  rfl
/-- a new tuple -/
theorem tup_new {Q : VK} {xs : List D} {vs : List V} (S : RelS B H ρ s) (r : RelDs B H ρ xs vs) (hz : xs.length ≤ sizeLine) (h : Lift B H ρ Q (.tup xs) s) {p : Addr} (hp : H p = none) : Q (.ref p) (upd H p (.tup vs)) := by
  have k : Keep H (upd H p (.tup vs)) := .new hp
  exact h ρ _ (.ref p) (List.prefix_refl _) k ⟨p, vs, rfl, .inl (.inl upd_same), hz, r.mono (List.prefix_refl _) k⟩ (S.out hp)
/-- a list is written, and None handed back, or another thing -/
theorem set_lst {Q : VK} {d : D} {v : V} {n : Nat} {p : Addr} {xs ys : List D} {vs ws : List V} (S : RelS B H ρ s) (e : ρ[n]? = some p) (hs : s[n]? = some (.lst xs)) (hp : H p = some (.lst vs)) (r : RelDs B H ρ ys ws) (rd : RelD B H ρ d v)
    (h : Lift B H ρ Q d (s.set n (.lst ys))) : Q v (upd H p (.lst ws)) :=
  h ρ _ v (List.prefix_refl _) (.lst hp) (rd.mono (List.prefix_refl _) (.lst hp)) (S.setL e hs hp r)
/-- a sequence is read -/
theorem seq_of {x : D} {v : V} {xs : List D} (S : RelS B H ρ s) (r : RelD B H ρ x v) (h : seqOf s x = some xs) : ∃ a vs, v = .ref a ∧ (SqL B.K H a vs ∨ SqT B.K H a vs) ∧ RelDs B H ρ xs vs := by
  cases x <;> simp only [seqOf] at h
  case tup ys =>
    cases h
    obtain ⟨a, vs, e, q, _, r⟩ := r
    exact ⟨a, vs, e, .inr q, r⟩
  case fl ys =>
    cases h
    obtain ⟨a, vs, e, q, r⟩ := r
    exact ⟨a, vs, e, .inl q.sq, r⟩
  case ref n =>
    obtain ⟨a, e, q⟩ := r
    split at h
    · rename_i ys hs
      cases h
      obtain ⟨vs, h1, h2⟩ := S.lstOf q hs
      exact ⟨a, vs, e, .inl (.inl (.inl h1)), h2⟩
    · cases h
  all_goals cases h
/-- .. and no tuple: a list -/
theorem seq_list {x : D} {v : V} {xs : List D} (S : RelS B H ρ s) (r : RelD B H ρ x v) (h : seqOf s x = some xs) (hn : ∀ ys, x ≠ .tup ys) : ∃ a vs, v = .ref a ∧ SqL B.K H a vs ∧ RelDs B H ρ xs vs := by
  cases x <;> simp only [seqOf] at h
  case tup ys => exact absurd rfl (hn ys)
  case fl ys =>
    cases h
    obtain ⟨a, vs, e, q, r⟩ := r
    exact ⟨a, vs, e, q.sq, r⟩
  case ref n =>
    obtain ⟨a, e, q⟩ := r
    split at h
    · rename_i ys hs
      cases h
      obtain ⟨vs, h1, h2⟩ := S.lstOf q hs
      exact ⟨a, vs, e, .inl (.inl h1), h2⟩
    · cases h
  all_goals cases h
theorem rel_one {x : D} {v : V} (r : RelD B H ρ x v) : RelDs B H ρ [x] [v] := ⟨v, [], rfl, r, rfl⟩
end
end PX

/-! PX: the operations, sound. -/
namespace PX
open PySem PySem.Spec PyProof.Rows L2
abbrev F2 := D → D → Sto → QE → Prop
def rO (B : Tb) (f : F2) : R2 := fun vx vy H Q => ∃ (x y : D) (s : Sto) (ρ : List Addr), RelD B H ρ x vx ∧ RelD B H ρ y vy ∧ RelS B H ρ s ∧ f x y s (Lift B H ρ Q)
theorem int_of {B : Tb} {H : Hp} {ρ : List Addr} {i : Int} {v : V} (r : RelD B H ρ (.int i) v) : v = .int i := r
theorem toArr_add (a b : List Nat) : (⟨a.toArray⟩ : Str) ++ ⟨b.toArray⟩ = ⟨(a ++ b).toArray⟩ := by
  show (⟨a.toArray ++ b.toArray⟩ : Str) = _
  rw [List.append_toArray]
theorem toArr_len (a : List Nat) : (⟨a.toArray⟩ : Str).length = a.length := by
  show a.toArray.size = a.length
  exact List.size_toArray
theorem StrOk.add {a b : List Nat} (h1 : StrOk a) (h2 : StrOk b) (h : a.length + b.length ≤ sizeLine) : StrOk (a ++ b) :=
  ⟨by rw [List.length_append]; exact h, fun c hc => (List.mem_append.mp hc).elim (h1.2 c) (h2.2 c)⟩
theorem StrOk.sub {a b : List Nat} (h1 : StrOk a) (h : ∀ c ∈ b, c ∈ a) (hl : b.length ≤ a.length) : StrOk b := ⟨Nat.le_trans hl h1.1, fun c hc => h1.2 c (h c hc)⟩
theorem StrOk.rep {a : List Nat} (h1 : StrOk a) (k : Nat) (h : a.length * k ≤ sizeLine) : StrOk (List.replicate k a).flatten := by
  refine ⟨?_, fun c hc => ?_⟩
  · rw [List.length_flatten, List.map_replicate, List.sum_replicate_nat, Nat.mul_comm]
    exact h
  · obtain ⟨l, hl, hc⟩ := List.mem_flatten.mp hc
    rw [(List.mem_replicate.mp hl).2] at hc
    exact h1.2 c hc
theorem txt_mul (a : List Nat) (n : Int) : Txt.mul ⟨a.toArray⟩ n = ⟨(List.replicate n.toNat a).flatten.toArray⟩ := by
  have f0 : ∀ (m : Nat) (acc : List Nat), List.foldl (fun x1 x2 => x1 ++ x2) acc.toArray (List.replicate m a.toArray) = (acc ++ (List.replicate m a).flatten).toArray := by
    intro m
    induction m with
    | zero => intro acc; simp
    | succ m ih =>
      intro acc
      rw [List.replicate_succ, List.foldl_cons, List.replicate_succ, List.flatten_cons, List.append_toArray, ih, List.append_assoc]
  unfold Txt.mul
  by_cases h1 : n < 1
  · rw [if_pos h1, show n.toNat = 0 by omega]
    rfl
  · rw [if_neg h1]
    by_cases h2 : (n == 1 || (⟨a.toArray⟩ : Str).length == 0) = true
    · rw [if_pos h2, toArr_len] at *
      rw [Bool.or_eq_true] at h2
      rcases h2 with h2 | h2
      · have e : n = 1 := by simpa using h2
        subst e
        simp
      · have e : a = [] := by simpa using h2
        subst e
        simp
    · rw [if_neg h2]
      have := f0 n.toNat []
      rw [show ([] : List Nat).toArray = #[] from rfl, List.nil_append] at this
      rw [this]
section
variable {X : Cx} {B : Tb} (hK : B.K = X.K) (hu : X.A.units + 65 < cLine)
section
include hK
theorem or_add : OpR X (binaryOp .Add) (rO B (xBin .Add)) := by
  intro pins s σ H vx vy v u Q I rx ry h
  obtain ⟨x, y, st, ρ, r1, r2, S, h⟩ := h
  cases x <;> cases y <;> simp only [xBin] at h
  case int.int i j =>
    cases int_of r1; cases int_of r2
    exact op_add pins s σ H _ _ v u Q I rx ry ⟨i, j, rfl, rfl, h.here rfl S⟩
  case str.str a b =>
    obtain ⟨rfl, z1⟩ := r1
    obtain ⟨rfl, z2⟩ := r2
    refine op_add_str pins s σ H _ _ v u Q I rx ry ⟨_, _, rfl, rfl, by rw [toArr_len, toArr_len]; exact h.1, ?_⟩
    rw [toArr_add]
    exact h.2.here ⟨rfl, z1.add z2 h.1⟩ S
  case tup.tup a b =>
    obtain ⟨p, vs, rfl, q1, z1, d1⟩ := id r1
    obtain ⟨p2, ws, rfl, q2, z2, d2⟩ := id r2
    have l1 := d1.length
    have l2 := d2.length
    refine op_catA pins s σ H _ _ v u Q I rx ry ⟨p, p2, vs, ws, rfl, rfl, hK ▸ q1, hK ▸ q2, by rw [← l1, ← l2]; exact h.1, fun e => ?_, fun _ e => ?_, fun _ _ t ht => ?_⟩
    · subst e
      have e : a = [] := List.eq_nil_of_length_eq_zero l1
      subst e
      exact h.2.here r2 S
    · subst e
      have e : b = [] := List.eq_nil_of_length_eq_zero l2
      subst e
      rw [List.append_nil] at h
      exact h.2.here r1 S
    · exact tup_new S (d1.append d2) (by rw [List.length_append]; exact h.1) h.2 ht
  case ref.ref m n =>
    obtain ⟨p, rfl, e1⟩ := r1
    obtain ⟨p2, rfl, e2⟩ := r2
    split at h
    · rename_i a b h1 h2
      obtain ⟨vs, g1, d1⟩ := S.lstOf e1 h1
      obtain ⟨ws, g2, d2⟩ := S.lstOf e2 h2
      refine op_cat pins s σ H _ _ v u Q I rx ry ⟨p, p2, vs, ws, rfl, rfl, g1, g2, by rw [← d1.length, ← d2.length]; exact h.1, fun l hl => ?_⟩
      exact mk_new S (d1.append d2) h.2 hl
    · exact h.elim
  all_goals exact h.elim
end
theorem or_sub : OpR X (binaryOp .Sub) (rO B (xBin .Sub)) := by
  intro pins s σ H vx vy v u Q I rx ry h
  obtain ⟨x, y, st, ρ, r1, r2, S, h⟩ := h
  cases x <;> cases y <;> simp only [xBin] at h
  case int.int i j =>
    cases int_of r1; cases int_of r2
    exact op_sub pins s σ H _ _ v u Q I rx ry ⟨i, j, rfl, rfl, h.here rfl S⟩
  all_goals exact h.elim
theorem or_mul : OpR X (binaryOp .Mult) (rO B (xBin .Mult)) := by
  intro pins s σ H vx vy v u Q I rx ry h
  obtain ⟨x, y, st, ρ, r1, r2, S, h⟩ := h
  cases x <;> cases y <;> simp only [xBin] at h
  case int.int i j =>
    cases int_of r1; cases int_of r2
    exact op_mulW pins s σ H _ _ v u Q I rx ry ⟨i, j, rfl, rfl, h.1, h.2.here rfl S⟩
  case str.int a j =>
    obtain ⟨rfl, z1⟩ := r1
    cases int_of r2
    obtain ⟨t, rfl⟩ := rx
    obtain ⟨t', rfl⟩ := ry
    have hz : a.length * j.toNat ≤ sizeLine := Nat.le_trans h.1.2.2 (by decide)
    have hs : sizeLine = 16777216 := rfl
    refine PySem.SB.mul ⟨?_, fun h1 h2 h3 => ?_, fun _ _ => ?_⟩ fun t' k => ?_
    · have h1 := h.1.1
      have h2 := h.1.2.1
      rw [Bool.or_eq_false_iff]
      exact ⟨decide_eq_false (by omega), decide_eq_false (by omega)⟩
    · rw [toArr_len] at h3
      have e : (a.length : Int) ≤ (2 ^ 63 - 1) / j := by
        rw [Int.le_ediv_iff_mul_le (by omega)]
        have e1 : ((a.length * j.toNat : Nat) : Int) = (a.length : Int) * j := by
          rw [Int.natCast_mul, Int.toNat_of_nonneg h.1.1]
        have e2 : ((a.length * j.toNat : Nat) : Int) ≤ 16777216 := by
          have := h.1.2.2
          omega
        omega
      omega
    · rw [toArr_len]
      show decide (a.length * j.toNat > sizeLine) = false
      exact decide_eq_false (by omega)
    · refine ⟨.str (Txt.mul ⟨a.toArray⟩ j), H, I.tok _, ⟨_, rfl⟩, ?_⟩
      rw [txt_mul]
      exact h.2.here ⟨rfl, z1.rep _ hz⟩ S
  case ref.int n j =>
    obtain ⟨p, rfl, e1⟩ := r1
    cases int_of r2
    split at h
    · rename_i a h1
      obtain ⟨vs, g1, d1⟩ := S.lstOf e1 h1
      refine op_rep pins s σ H _ _ v u Q I rx ry ⟨p, j, vs, rfl, rfl, g1, h.1.1, h.1.2.1, by rw [← d1.length]; exact h.1.2.2, fun l hl => ?_⟩
      exact mk_new S (d1.rep _) h.2 hl
    · exact h.elim
  all_goals exact h.elim
theorem or_fdiv : OpR X (binaryOp .FloorDiv) (rO B (xBin .FloorDiv)) := by
  intro pins s σ H vx vy v u Q I rx ry h
  obtain ⟨x, y, st, ρ, r1, r2, S, h⟩ := h
  cases x <;> cases y <;> simp only [xBin] at h
  case int.int i j =>
    cases int_of r1; cases int_of r2
    exact op_fdivW pins s σ H _ _ v u Q I rx ry ⟨i, j, rfl, rfl, h.1, h.2.here rfl S⟩
  all_goals exact h.elim
theorem or_mod : OpR X (binaryOp .Mod) (rO B (xBin .Mod)) := by
  intro pins s σ H vx vy v u Q I rx ry h
  obtain ⟨x, y, st, ρ, r1, r2, S, h⟩ := h
  cases x <;> cases y <;> simp only [xBin] at h
  case int.int i j =>
    cases int_of r1; cases int_of r2
    exact op_mod pins s σ H _ _ v u Q I rx ry ⟨i, j, rfl, rfl, h.1, h.2.here rfl S⟩
  all_goals exact h.elim
theorem or_pow : OpR X (binaryOp .Pow) (rO B (xBin .Pow)) := by
  intro pins s σ H vx vy v u Q I rx ry h
  obtain ⟨x, y, st, ρ, r1, r2, S, h⟩ := h
  cases x <;> cases y <;> simp only [xBin] at h
  case int.int i j =>
    cases int_of r1; cases int_of r2
    exact op_pow pins s σ H _ _ v u Q I rx ry ⟨i, j, rfl, rfl, h.1, h.2.here rfl S⟩
  all_goals exact h.elim
theorem or_iadd : OpR X (inplaceOp .Add) (rO B (xIp .Add)) := by
  intro pins s σ H vx vy v u Q I rx ry h
  obtain ⟨x, y, st, ρ, r1, r2, S, h⟩ := h
  cases x <;> cases y <;> simp only [xIp] at h
  case int.int i j =>
    cases int_of r1; cases int_of r2
    exact iop_add pins s σ H _ _ v u Q I rx ry ⟨i, j, rfl, rfl, h.here rfl S⟩
  case str.str a b =>
    obtain ⟨rfl, z1⟩ := r1
    obtain ⟨rfl, z2⟩ := r2
    refine iop_add_str pins s σ H _ _ v u Q I rx ry ⟨_, _, rfl, rfl, by rw [toArr_len, toArr_len]; exact h.1, ?_⟩
    rw [toArr_add]
    exact h.2.here ⟨rfl, z1.add z2 h.1⟩ S
  all_goals exact h.elim
theorem or_isub : OpR X (inplaceOp .Sub) (rO B (xIp .Sub)) := by
  intro pins s σ H vx vy v u Q I rx ry h
  obtain ⟨x, y, st, ρ, r1, r2, S, h⟩ := h
  cases x <;> cases y <;> simp only [xIp] at h
  case int.int i j =>
    cases int_of r1; cases int_of r2
    exact iop_sub pins s σ H _ _ v u Q I rx ry ⟨i, j, rfl, rfl, h.here rfl S⟩
  all_goals exact h.elim

/-! ### comparisons -/
mutual
def toPy : D → PyData
  | .non => .none
  | .bl b => .bool b
  | .int i => .int i
  | .str x => .str ⟨x.toArray⟩
  | .tup xs => .tuple (toPys xs)
  | .fl xs => .list (toPys xs)
  | .kd _ => .none
  | .ref _ => .none
  | .fd _ _ => .none
def toPys : List D → List PyData
  | [] => []
  | x :: xs => toPy x :: toPys xs
end
def xCmp (op : CmpOp) : F2 := fun x y s Q => obl (cmpD s op x y) fun c => Q (.bl c) s
theorem str_lay {a : List Nat} (h : StrOk a) : PyData.strOk ⟨a.toArray⟩ = true := by
  show a.toArray.all (· < 0x110000) = true
  rw [List.all_toArray, List.all_eq_true]
  exact fun c hc => decide_eq_true (h.2 c hc)
section
variable {K : PySem.W.Frag} {H : Hp} {ρ : List Addr}
mutual
theorem resW_dp {r : Nat → Option D} (hr : ∀ (n : Nat) (a : Addr) (x' : D), r n = some x' → ρ[n]? = some a → Dp B.K H (.ref a) (toPy x') ∧ PyData.canLay0 (toPy x') = true) :
    ∀ (x : D) {v : V} {x' : D}, RelD B H ρ x v → resW r x = some x' → Dp B.K H v (toPy x') ∧ PyData.canLay0 (toPy x') = true
  | .non, v, x', h, e => by
    cases (show v = .non from h)
    cases e
    exact ⟨.non, rfl⟩
  | .bl b, v, x', h, e => by
    cases (show v = .bl b from h)
    cases e
    exact ⟨.bl b, rfl⟩
  | .int i, v, x', h, e => by
    cases (show v = .int i from h)
    cases e
    exact ⟨.int i, rfl⟩
  | .str a, v, x', h, e => by
    obtain ⟨rfl, z⟩ := h
    cases e
    exact ⟨.str _, by simp only [toPy, PyData.canLay0]; exact str_lay z⟩
  | .kd n, v, x', h, e => h.elim
  | .fd ks vs, v, x', h, e => by simp [resW] at e
  | .ref n, v, x', h, e => by
    obtain ⟨a, rfl, q⟩ := h
    exact hr n a x' e q
  | .tup xs, v, x', h, e => by
    obtain ⟨a, vs, rfl, q, _, d⟩ := h
    simp only [resW] at e
    cases e2 : resWs r xs with
    | none => rw [e2] at e; cases e
    | some ys =>
      rw [e2] at e
      cases e
      obtain ⟨h1, h2⟩ := resWs_dp hr xs d e2
      exact ⟨by simp only [toPy]; exact .tup q h1, by simp only [toPy, PyData.canLay0]; exact h2⟩
  | .fl xs, v, x', h, e => by
    obtain ⟨a, vs, rfl, q, d⟩ := h
    simp only [resW] at e
    cases e2 : resWs r xs with
    | none => rw [e2] at e; cases e
    | some ys =>
      rw [e2] at e
      cases e
      obtain ⟨h1, h2⟩ := resWs_dp hr xs d e2
      exact ⟨by simp only [toPy]; exact .lst q.sq h1, by simp only [toPy, PyData.canLay0]; exact h2⟩
theorem resWs_dp {r : Nat → Option D} (hr : ∀ (n : Nat) (a : Addr) (x' : D), r n = some x' → ρ[n]? = some a → Dp B.K H (.ref a) (toPy x') ∧ PyData.canLay0 (toPy x') = true) :
    ∀ (xs : List D) {vs : List V} {ys : List D}, RelDs B H ρ xs vs → resWs r xs = some ys → DpAll B.K H vs (toPys ys) ∧ PyData.canLayAll0 (toPys ys) = true
  | [], vs, ys, h, e => by
    cases (show vs = [] from h)
    cases e
    exact ⟨.nil, rfl⟩
  | x :: xs, vs, ys, h, e => by
    obtain ⟨v, rr, rfl, h1, h2⟩ := h
    simp only [resWs] at e
    split at e
    · rename_i y zs e1 e2
      cases e
      obtain ⟨g1, g2⟩ := resW_dp hr x h1 e1
      obtain ⟨g3, g4⟩ := resWs_dp hr xs h2 e2
      exact ⟨.cons g1 g3, by simp only [toPys, PyData.canLayAll0, g2, g4, Bool.and_self]⟩
    · cases e
end
theorem res_dp {s : Sto} (S : RelS B H ρ s) : ∀ (k : Nat) (x : D) {v : V} {x' : D}, RelD B H ρ x v → res s k x = some x' → Dp B.K H v (toPy x') ∧ PyData.canLay0 (toPy x') = true
  | 0, x, v, x', h, e => resW_dp (fun _ _ _ z => by cases z) x h e
  | k + 1, x, v, x', h, e => by
    refine resW_dp (fun n a x' e q => ?_) x h e
    split at e
    · rename_i xs hs
      obtain ⟨vs, h1, h2⟩ := S.lstOf q hs
      cases e2 : resWs (fun m => res s k (.ref m)) xs with
      | none => rw [e2] at e; cases e
      | some ys =>
        rw [e2] at e
        cases e
        obtain ⟨g1, g2⟩ := resWs_dp (fun n a x' e q => res_dp S k (.ref n) ⟨a, rfl, q⟩ e) xs h2 e2
        exact ⟨by simp only [toPy]; exact .lst (.inl (.inl h1)) g1, by simp only [toPy, PyData.canLay0]; exact g2⟩
    · cases e
end
mutual
theorem nob_depth : ∀ (k : Nat) (x : D), nob k x = true → PyData.depth (toPy x) ≤ k
  | _, .non, _ => Nat.zero_le _
  | _, .int _, _ => Nat.zero_le _
  | _, .str _, _ => Nat.zero_le _
  | k + 1, .tup xs, h => by
    simp only [toPy, PyData.depth]
    exact Nat.succ_le_succ (nobs_depth k xs h)
  | k + 1, .fl xs, h => by
    simp only [toPy, PyData.depth]
    exact Nat.succ_le_succ (nobs_depth k xs h)
  | 0, .tup xs, h => by simp [nob] at h
  | 0, .fl xs, h => by simp [nob] at h
  | _, .bl _, h => by simp [nob] at h
  | _, .kd _, h => by simp [nob] at h
  | _, .ref _, h => by simp [nob] at h
  | _, .fd _ _, h => by simp [nob] at h
theorem nobs_depth : ∀ (k : Nat) (xs : List D), nobs k xs = true → PyData.depthAll (toPys xs) ≤ k
  | _, [], _ => Nat.zero_le _
  | k, x :: xs, h => by
    simp only [nobs, Bool.and_eq_true] at h
    simp only [toPys, PyData.depthAll]
    exact Nat.max_le.mpr ⟨nob_depth k x h.1, nobs_depth k xs h.2⟩
end
theorem str_beq (a b : List Nat) : ((⟨a.toArray⟩ : Str) == ⟨b.toArray⟩) = (a == b) := by
  rw [Bool.eq_iff_iff, beq_iff_eq, beq_iff_eq]
  exact ⟨fun h => by simpa using h, fun h => by rw [h]⟩
mutual
theorem eqv_nob : ∀ (k l : Nat) (x y : D), nob k x = true → nob l y = true → PyData.eqv (toPy x) (toPy y) = D.beq x y
  | k, l, .tup xs, y, h, g => by
    cases k with
    | zero => simp [nob] at h
    | succ k =>
      cases y <;> simp only [toPy, PyData.eqv, D.beq]
      case tup ys =>
        cases l with
        | zero => simp [nob] at g
        | succ l => exact eqvs_nob k l xs ys h g
      all_goals simp [nob] at g
  | k, l, .fl xs, y, h, g => by
    cases k with
    | zero => simp [nob] at h
    | succ k =>
      cases y <;> simp only [toPy, PyData.eqv, D.beq]
      case fl ys =>
        cases l with
        | zero => simp [nob] at g
        | succ l => exact eqvs_nob k l xs ys h g
      all_goals simp [nob] at g
  | k, l, .non, y, h, g => by cases y <;> simp_all [toPy, PyData.eqv, D.beq, nob]
  | k, l, .int i, y, h, g => by cases y <;> simp_all [toPy, PyData.eqv, D.beq, nob]
  | k, l, .str a, y, h, g => by
    cases y <;> simp_all [toPy, PyData.eqv, D.beq, nob]
    exact str_beq _ _
  | k, l, .bl b, y, h, g => by simp [nob] at h
  | k, l, .kd b, y, h, g => by simp [nob] at h
  | k, l, .ref b, y, h, g => by simp [nob] at h
  | k, l, .fd _ _, y, h, g => by simp [nob] at h
theorem eqvs_nob : ∀ (k l : Nat) (xs ys : List D), nobs k xs = true → nobs l ys = true → PyData.eqvAll (toPys xs) (toPys ys) = D.beqs xs ys
  | k, l, [], ys, h, g => by cases ys <;> simp [toPys, PyData.eqvAll, D.beqs]
  | k, l, x :: xs, ys, h, g => by
    cases ys with
    | nil => simp [toPys, PyData.eqvAll, D.beqs]
    | cons y ys =>
      simp only [nobs, Bool.and_eq_true] at h g
      simp only [toPys, PyData.eqvAll, D.beqs]
      rw [eqv_nob k l x y h.1 g.1, eqvs_nob k l xs ys h.2 g.2]
end
theorem beq_dec (x y : D) : D.beq x y = decide (x = y) := by
  rw [Bool.eq_iff_iff, D.beq_iff, decide_eq_true_iff]
theorem deep_eq {H : Hp} {ρ : List Addr} {s : Sto} (S : RelS B H ρ s) {x y : D} {vx vy : V} {c : Bool} (r1 : RelD B H ρ x vx) (r2 : RelD B H ρ y vy) (h : eqDeep s x y = some c) :
    ∃ d e, Dp B.K H vx d ∧ Dp B.K H vy e ∧ SeqAt.shaped d = true ∧ SeqAt.shaped e = true ∧ PyData.eqv d e = c := by
  unfold eqDeep at h
  split at h
  · rename_i a b e1 e2
    split at h
    · rename_i hn
      cases h
      rw [Bool.and_eq_true] at hn
      obtain ⟨g1, g2⟩ := res_dp S 3 x r1 e1
      obtain ⟨g3, g4⟩ := res_dp S 3 y r2 e2
      have d1 := nob_depth 40 a hn.1
      have d2 := nob_depth 40 b hn.2
      refine ⟨_, _, g1, g3, ?_, ?_, by rw [eqv_nob 40 40 a b hn.1 hn.2, beq_dec]⟩
      · show (PyData.canLay0 _ && decide (PyData.depth _ ≤ 64)) = true
        rw [g2, decide_eq_true (by omega)]
        rfl
      · show (PyData.canLay0 _ && decide (PyData.depth _ ≤ 64)) = true
        rw [g4, decide_eq_true (by omega)]
        rfl
    · cases h
  · cases h
end
end PX

/-! PX: dicts. -/
namespace PX
open PySem PySem.Spec PyProof.Rows L2
section
variable {X : Cx} {B : Tb} {H : Hp} {ρ : List Addr}
/-- a dict, tracked or of the written part -/
def DicV (B : Tb) (H : Hp) (ρ : List Addr) (x : D) (kvs : List (D × D)) (a : Addr) : Prop :=
  (∃ l, Rd H a (.dK l) ∧ RelKV B H ρ kvs l ∧ ∀ k, kOk x k = keyOk k) ∨ ∃ ks vs us, x = .fd ks vs ∧ kvs = ks.zip vs ∧ CD B a ks us ∧ RelDs B H ρ vs us
theorem dic_of {s : Sto} (S : RelS B H ρ s) {x : D} {v : V} {kvs : List (D × D)} (r : RelD B H ρ x v) (h : dicOf s x = some kvs) : ∃ a, v = .ref a ∧ DicV B H ρ x kvs a := by
  cases x <;> simp only [dicOf] at h
  case fd ks vs =>
    cases h
    obtain ⟨a, us, e, q, r⟩ := r
    exact ⟨a, e, .inr ⟨ks, vs, us, rfl, rfl, q, r⟩⟩
  case ref n =>
    obtain ⟨a, e, q⟩ := r
    split at h
    · rename_i l hs
      cases h
      obtain ⟨l, h1, h2⟩ := S.dicOf q hs
      exact ⟨a, e, .inl ⟨l, .inl h1, h2, fun _ => rfl⟩⟩
    · rename_i l hs
      cases h
      obtain ⟨o, l, h1, h2⟩ := S.ldicOf q hs
      exact ⟨a, e, .inl ⟨l, .inr ⟨o, h1⟩, h2, fun _ => rfl⟩⟩
    · cases h
  all_goals cases h
theorem keyV_of {y : D} {v : V} (r : RelD B H ρ y v) (h : keyOk y = true) : ∃ k, keyV y = some k ∧ v = kV k := by
  cases y <;> simp only [keyOk] at h <;> try cases h
  case int i => cases int_of r; exact ⟨.inl i, rfl, rfl⟩
  case str a => obtain ⟨rfl, z⟩ := r; exact ⟨.inr _, if_pos z, rfl⟩
theorem toArr_inj {a b : List Nat} (h : a.toArray = b.toArray) : a = b := by
  have := congrArg Array.toList h
  simpa using this
theorem keyV_str {x : D} {z : Str} (h : keyV x = some (.inr z)) : ∃ a, x = .str a ∧ StrOk a ∧ z = ⟨a.toArray⟩ := by
  cases x <;> simp only [keyV] at h <;> try cases h
  rename_i a
  split at h
  · rename_i o; cases h; exact ⟨a, rfl, o, rfl⟩
  · cases h
theorem keyV_int {x : D} {z : Int} (h : keyV x = some (.inl z)) : x = .int z := by
  cases x <;> simp only [keyV] at h <;> try cases h
  · rfl
  · split at h <;> cases h
/-- a key's value -/
theorem keyV_rel {x : D} {k : Key} (h : keyV x = some k) : RelD B H ρ x (kV k) := by
  cases k with
  | inl z => rw [keyV_int h]; rfl
  | inr z =>
    obtain ⟨a, rfl, o, rfl⟩ := keyV_str h
    exact ⟨rfl, o⟩
theorem keyV_inj {x y : D} {k : Key} (h1 : keyV x = some k) (h2 : keyV y = some k) : x = y := by
  cases k with
  | inl z => rw [keyV_int h1, keyV_int h2]
  | inr z =>
    obtain ⟨a, rfl, _, rfl⟩ := keyV_str h1
    obtain ⟨b, rfl, _, e⟩ := keyV_str h2
    rw [toArr_inj (congrArg Str.cps e)]
theorem kv_val {y : D} {k : Key} (hy : keyV y = some k) : ∀ {kvs : List (D × D)} {l : List (Key × V)}, RelKV B H ρ kvs l → (∀ d, dGet kvs y = some d → ∃ v, valV l k = some v ∧ RelD B H ρ d v) ∧ (dGet kvs y = none → valV l k = none)
  | [], l, h => by
    rw [show l = [] from h]
    exact ⟨fun d z => by simp [dGet] at z, fun _ => rfl⟩
  | (x, d) :: r, l, h => by
    obtain ⟨k', v, l', rfl, h1, h2, h3⟩ := h
    have ih := kv_val hy h3
    by_cases e : x = y
    · subst e
      rw [h1] at hy
      cases hy
      refine ⟨fun d' z => ?_, fun z => ?_⟩
      · have : dGet ((x, d) :: r) x = some d := by simp [dGet]
        rw [this] at z
        cases z
        exact ⟨v, valV_pos rfl, h2⟩
      · have : dGet ((x, d) :: r) x = some d := by simp [dGet]
        rw [this] at z
        cases z
    · have e1 : dGet ((x, d) :: r) y = dGet r y := by simp [dGet, e]
      have e2 : ¬ k' = k := fun z => e (keyV_inj (z ▸ h1) hy)
      rw [e1, valV_neg e2]
      exact ih
theorem cd_val {z : List Nat} : ∀ {ks vs : List D} {us : List V} {es : List DictEntry}, CDes ks us es → RelDs B H ρ vs us →
    (∀ d, dGet (ks.zip vs) (.str z) = some d → ∃ u v, findBy Value.isStrOf es.toArray ⟨z.toArray⟩ = some u ∧ RelV v u ∧ RelD B H ρ d v) ∧ (dGet (ks.zip vs) (.str z) = none → findBy Value.isStrOf es.toArray ⟨z.toArray⟩ = none)
  | [], vs, us, es, c, r => by
    cases us <;> cases es <;> first | exact c.elim | skip
    rw [show vs = [] from (by cases vs with
      | nil => rfl
      | cons x r' => obtain ⟨_, _, e, _⟩ := r; cases e)]
    exact ⟨fun d z => by simp [dGet] at z, fun _ => rfl⟩
  | k :: ks, vs, us, es, c, r => by
    cases us with
    | nil => cases es <;> exact c.elim
    | cons u us =>
    cases es with
    | nil => exact c.elim
    | cons e es =>
    obtain ⟨⟨a, t, rfl, he⟩, ru, c⟩ := c
    cases vs with
    | nil => cases (show u :: us = [] from r)
    | cons d vs =>
    obtain ⟨u', us', e0, rd, r⟩ := r
    cases e0
    have ih := cd_val (z := z) c r
    by_cases ez : a = z
    · subst ez
      have f1 : dGet ((D.str a :: ks).zip (d :: vs)) (.str a) = some d := by simp [dGet]
      have f2 : findBy Value.isStrOf (e :: es).toArray ⟨a.toArray⟩ = some e.val := by
        unfold findBy
        rw [List.find?_toArray, List.find?_cons]
        rw [he]
        show Option.map _ (match (Str.mk a.toArray == Str.mk a.toArray) with
          | true => _
          | false => _) = _
        simp
      rw [f1, f2]
      exact ⟨fun d' q => by cases q; exact ⟨_, u, rfl, ru, rd⟩, fun q => by cases q⟩
    · have f1 : dGet ((D.str a :: ks).zip (d :: vs)) (.str z) = dGet (ks.zip vs) (.str z) := by simp [dGet, ez]
      have f2 : findBy Value.isStrOf (e :: es).toArray ⟨z.toArray⟩ = findBy Value.isStrOf es.toArray ⟨z.toArray⟩ := by
        unfold findBy
        rw [List.find?_toArray, List.find?_toArray, List.find?_cons]
        have : Value.isStrOf ⟨z.toArray⟩ e.key = false := by
          rw [he]
          show (Str.mk a.toArray == Str.mk z.toArray) = false
          rw [beq_eq_false_iff_ne]
          intro q
          exact ez (toArr_inj (congrArg Str.cps q))
        rw [this]
      rw [f1, f2]
      exact ih
variable (hK : B.K = X.K) (hP : B.pw = X.w.params) (hu : X.A.units + 1 < cLine)
section
variable {pins : List (Addr × Obj)} {σ : L2.St} {s : Shared} {a : Addr} {x y : D} {vy : V} {u : Value} {kvs : List (D × D)} {E : Value → Shared → Prop}
include hK hP in
theorem dx_type (I : Inv X pins σ H s) (g : DicV B H ρ x kvs a) : s.TypeIs (.ref a) "dict" ∧ (∀ b, Value.ref a = .ref b → ∃ ob, s.heap.get? b = some ob ∧ ob.dict = none) := by
  rcases g with ⟨l, e, _⟩ | ⟨ks, vs, us, _, _, ⟨es, n, hl, hk, low, c⟩, r⟩
  · obtain ⟨t1, t2, _⟩ := isD_at I (.inl ⟨l, e⟩)
    exact ⟨t1, t2⟩
  · have hm := PySem.W.mapOf_K (prog := X.prog) (w := X.w) I.kIn (hK ▸ hl) (hP ▸ hk)
    exact ⟨hm.typeIs, hm.noDict⟩
theorem kOk_key {x k : D} (h : kOk x k = true) : keyOk k = true := by
  cases x <;> try exact h
  cases k <;> first | rfl | cases h
include hK hP hu in
theorem dx_getItem {d : D} {Q : Value → Shared → Prop} (I : Inv X pins σ H s) (g : DicV B H ρ x kvs a) (ok : kOk x y = true) (ry : RelD B H ρ y vy) (rv : RelV vy u) (hd : dGet kvs y = some d)
    (h : ∀ v w' s', Inv X pins σ H s' → RelV v w' → RelD B H ρ d v → Q w' s') : wpAny (model X.prog X.w) X.A (getItem (.ref a) u) Q E s := by
  obtain ⟨k, ky, rfl⟩ := keyV_of ry (kOk_key ok)
  rcases g with ⟨l, e, q, _⟩ | ⟨ks, vs, us, rfl, rfl, ⟨es, n, hl, hk, low, c⟩, r⟩
  · obtain ⟨v, hv, rd⟩ := (kv_val ky q).1 d hd
    exact d_getItem hu I (hv ▸ (.inl ⟨_, _, e, rfl, rfl⟩)) rv fun w' s' I' rw' => h v w' s' I' rw' rd
  · have hm := PySem.W.mapOf_K (prog := X.prog) (w := X.w) I.kIn (hK ▸ hl) (hP ▸ hk)
    cases y <;> first | cases ok | skip
    rename_i z
    have ky' : k = .inr ⟨z.toArray⟩ := by
      simp only [keyV] at ky
      split at ky
      · cases ky; rfl
      · cases ky
    subst ky'
    obtain ⟨t, rfl⟩ := (show ∃ t, u = Value.str _ t from rv)
    obtain ⟨l⟩ := es
    obtain ⟨u', v, f, ru, rd⟩ := (cd_val (z := z) c r).1 d hd
    exact wpAny_getItem_of (strKind_is X.prog X.w _ t) hm f (h v u' _ (I.tok _) ru rd)
include hK hP hu in
theorem dx_in {Q : Value → Shared → Prop} (I : Inv X pins σ H s) (g : DicV B H ρ x kvs a) (ok : kOk x y = true) (ry : RelD B H ρ y vy) (rv : RelV vy u)
    (h : ∀ s', Inv X pins σ H s' → Q (.bool (dGet kvs y).isSome) s') : wpAny (model X.prog X.w) X.A (compareOp .In u (.ref a)) Q E s := by
  obtain ⟨k, ky, rfl⟩ := keyV_of ry (kOk_key ok)
  rcases g with ⟨l, e, q, _⟩ | ⟨ks, vs, us, rfl, rfl, ⟨es, n, hl, hk, low, c⟩, r⟩
  · have : (dGet kvs y).isSome = (valV l k).isSome := by
      cases hd : dGet kvs y with
      | none => rw [(kv_val ky q).2 hd]; rfl
      | some d => obtain ⟨v, hv, _⟩ := (kv_val ky q).1 d hd; rw [hv]; rfl
    rw [this] at h
    exact d_in hu I (.inl ⟨_, _, e, rfl, rfl⟩) rv h
  · have hm := PySem.W.mapOf_K (prog := X.prog) (w := X.w) I.kIn (hK ▸ hl) (hP ▸ hk)
    cases y <;> first | cases ok | skip
    rename_i z
    have ky' : k = .inr ⟨z.toArray⟩ := by
      simp only [keyV] at ky
      split at ky
      · cases ky; rfl
      · cases ky
    subst ky'
    obtain ⟨t, rfl⟩ := (show ∃ t, u = Value.str _ t from rv)
    obtain ⟨l⟩ := es
    refine wpAny_in_of (strKind_is X.prog X.w _ t) low hm ?_
    have : (dGet (ks.zip vs) (.str z)).isSome = (findBy Value.isStrOf l.toArray ⟨z.toArray⟩).isSome := by
      cases hd : dGet (ks.zip vs) (.str z) with
      | none => rw [(cd_val (z := z) c r).2 hd]; rfl
      | some d => obtain ⟨u', v, f, _⟩ := (cd_val (z := z) c r).1 d hd; rw [f]; rfl
    rw [← this]
    exact h _ (I.tok _)
include hK hP hu in
theorem dx_notIn {Q : Value → Shared → Prop} (I : Inv X pins σ H s) (g : DicV B H ρ x kvs a) (ok : kOk x y = true) (ry : RelD B H ρ y vy) (rv : RelV vy u)
    (h : ∀ s', Inv X pins σ H s' → Q (.bool (!(dGet kvs y).isSome)) s') : wpAny (model X.prog X.w) X.A (compareOp .NotIn u (.ref a)) Q E s := by
  obtain ⟨k, ky, rfl⟩ := keyV_of ry (kOk_key ok)
  rcases g with ⟨l, e, q, _⟩ | ⟨ks, vs, us, rfl, rfl, ⟨es, n, hl, hk, low, c⟩, r⟩
  · have : (dGet kvs y).isSome = (valV l k).isSome := by
      cases hd : dGet kvs y with
      | none => rw [(kv_val ky q).2 hd]; rfl
      | some d => obtain ⟨v, hv, _⟩ := (kv_val ky q).1 d hd; rw [hv]; rfl
    rw [this] at h
    exact d_notIn hu I (.inl ⟨_, _, e, rfl, rfl⟩) rv h
  · have hm := PySem.W.mapOf_K (prog := X.prog) (w := X.w) I.kIn (hK ▸ hl) (hP ▸ hk)
    cases y <;> first | cases ok | skip
    rename_i z
    have ky' : k = .inr ⟨z.toArray⟩ := by
      simp only [keyV] at ky
      split at ky
      · cases ky; rfl
      · cases ky
    subst ky'
    obtain ⟨t, rfl⟩ := (show ∃ t, u = Value.str _ t from rv)
    obtain ⟨l⟩ := es
    refine wpAny_notIn_of (strKind_is X.prog X.w _ t) low hm ?_
    have : (dGet (ks.zip vs) (.str z)).isSome = (findBy Value.isStrOf l.toArray ⟨z.toArray⟩).isSome := by
      cases hd : dGet (ks.zip vs) (.str z) with
      | none => rw [(cd_val (z := z) c r).2 hd]; rfl
      | some d => obtain ⟨u', v, f, _⟩ := (cd_val (z := z) c r).1 d hd; rw [f]; rfl
    rw [← this]
    exact h _ (I.tok _)
include hK hP hu in
theorem dx_get2 {d : D} {vd : V} {ud : Value} {Q : Value → Shared → Prop} (I : Inv X pins σ H s) (g : DicV B H ρ x kvs a) (ok : kOk x y = true) (ry : RelD B H ρ y vy) (rv : RelV vy u) (rd : RelD B H ρ d vd) (rw2 : RelV vd ud)
    (h : ∀ v w' s', Inv X pins σ H s' → RelV v w' → RelD B H ρ ((dGet kvs y).getD d) v → Q w' s') : wpAny (model X.prog X.w) X.A (call (.builtin "dict.get") [.ref a, u, ud]) Q E s := by
  obtain ⟨k, ky, rfl⟩ := keyV_of ry (kOk_key ok)
  rcases g with ⟨l, e, q, _⟩ | ⟨ks, vs, us, rfl, rfl, ⟨es, n, hl, hk, low, c⟩, r⟩
  · have : RelD B H ρ ((dGet kvs y).getD d) ((valV l k).getD vd) := by
      cases hd : dGet kvs y with
      | none => rw [(kv_val ky q).2 hd]; exact rd
      | some d' => obtain ⟨v, hv, rr⟩ := (kv_val ky q).1 d' hd; rw [hv]; exact rr
    exact d_get2 hu I (.inl ⟨_, _, e, rfl, rfl⟩) rv rw2 fun w' s' I' rw' => h _ w' s' I' rw' this
  · have hm := PySem.W.mapOf_K (prog := X.prog) (w := X.w) I.kIn (hK ▸ hl) (hP ▸ hk)
    cases y <;> first | cases ok | skip
    rename_i z
    have ky' : k = .inr ⟨z.toArray⟩ := by
      simp only [keyV] at ky
      split at ky
      · cases ky; rfl
      · cases ky
    subst ky'
    obtain ⟨t, rfl⟩ := (show ∃ t, u = Value.str _ t from rv)
    obtain ⟨l⟩ := es
    refine call_meetsIn PySem.F.slot_dict_get hm.typeIs PySem.F.entry_dict_get (PySem.F.args_dict_get_3 _ _ _) (meets_dict_get_default (strKind X.prog X.w) a (strKind_is X.prog X.w _ t) low ud) ⟨_, hm, ?_⟩
    have : ∃ v, RelV v ((findBy Value.isStrOf l.toArray ⟨z.toArray⟩).getD ud) ∧ RelD B H ρ ((dGet (ks.zip vs) (.str z)).getD d) v := by
      cases hd : dGet (ks.zip vs) (.str z) with
      | none => rw [(cd_val (z := z) c r).2 hd]; exact ⟨vd, rw2, rd⟩
      | some d' => obtain ⟨u', v, f, ru, rr⟩ := (cd_val (z := z) c r).1 d' hd; rw [f]; exact ⟨v, ru, rr⟩
    obtain ⟨v, h1, h2⟩ := this
    exact h v _ _ (I.tok _) h1 h2
end
theorem kv_any {y : D} {k : Key} (hy : keyV y = some k) : ∀ {kvs : List (D × D)} {l : List (Key × V)}, RelKV B H ρ kvs l → (kvs.any fun p => decide (p.1 = y)) = (l.any fun p => decide (p.1 = k))
  | [], l, h => by rw [show l = [] from h]; rfl
  | (x, d) :: r, l, h => by
    obtain ⟨k', v, l', rfl, h1, h2, h3⟩ := h
    rw [List.any_cons, List.any_cons, kv_any hy h3]
    congr 1
    rw [Bool.eq_iff_iff, decide_eq_true_eq, decide_eq_true_eq]
    exact ⟨fun e => by subst e; rw [h1] at hy; exact Option.some.inj hy, fun e => keyV_inj (h1.trans (congrArg some e)) hy⟩
theorem kv_repl {y d' : D} {k : Key} {v' : V} (hy : keyV y = some k) (rd : RelD B H ρ d' v') : ∀ {kvs : List (D × D)} {l : List (Key × V)}, RelKV B H ρ kvs l → RelKV B H ρ (kvs.map fun p => if p.1 = y then (p.1, d') else p) (l.map fun p => if p.1 = k then (p.1, v') else p)
  | [], l, h => by rw [show l = [] from h]; rfl
  | (x, d) :: r, l, h => by
    obtain ⟨k', v, l', rfl, h1, h2, h3⟩ := h
    rw [List.map_cons, List.map_cons]
    by_cases e : x = y
    · subst e
      have : k' = k := by rw [h1] at hy; exact Option.some.inj hy
      subst this
      rw [if_pos rfl, if_pos rfl]
      exact ⟨k', v', _, rfl, h1, rd, kv_repl hy rd h3⟩
    · have : ¬ k' = k := fun z => e (keyV_inj (z ▸ h1) hy)
      rw [if_neg e, if_neg this]
      exact ⟨k', v, _, rfl, h1, h2, kv_repl hy rd h3⟩
theorem kv_app {kvs kvs2 : List (D × D)} {l l2 : List (Key × V)} : RelKV B H ρ kvs l → RelKV B H ρ kvs2 l2 → RelKV B H ρ (kvs ++ kvs2) (l ++ l2) := by
  induction kvs generalizing l with
  | nil => intro h1 h2; rw [show l = [] from h1]; exact h2
  | cons p r ih =>
    intro h1 h2
    obtain ⟨x, d⟩ := p
    obtain ⟨k', v, l', rfl, g1, g2, g3⟩ := h1
    exact ⟨k', v, _, rfl, g1, g2, ih g3 h2⟩
theorem kv_put {y d : D} {k : Key} {v : V} (hy : keyV y = some k) (rd : RelD B H ρ d v) {kvs : List (D × D)} {l : List (Key × V)} (h : RelKV B H ρ kvs l) : RelKV B H ρ (dPut kvs y d) (putK l k v) := by
  unfold dPut putK
  rw [kv_any hy h]
  split
  · exact kv_repl hy rd h
  · exact kv_app h ⟨k, v, [], rfl, hy, rd, rfl⟩
theorem kv_len {kvs : List (D × D)} {l : List (Key × V)} (h : RelKV B H ρ kvs l) : kvs.length = l.length := by
  induction kvs generalizing l with
  | nil => rw [show l = [] from h]; rfl
  | cons p r ih =>
    obtain ⟨x, d⟩ := p
    obtain ⟨k', v, l', rfl, g1, g2, g3⟩ := h
    rw [List.length_cons, List.length_cons, ih g3]
end
end PX

/-! PX: comparisons, subscripts, calls of built-ins, sound. -/
namespace PX
open PySem PySem.Spec PyProof.Rows L2
section
variable {B : Tb} {H : Hp} {ρ : List Addr}
theorem flat_of {x : D} {v : V} (r : RelD B H ρ x v) (h : flatD x = true) : flatV v = true := by
  cases x <;> simp only [flatD] at h
  case non => cases (show v = .non from r); rfl
  case bl b => cases (show v = .bl b from r); rfl
  case int i => cases (show v = .int i from r); rfl
  case str a => obtain ⟨rfl, _⟩ := r; rfl
  all_goals cases h
theorem eqF_of {x y : D} {v w : V} (r : RelD B H ρ x v) (q : RelD B H ρ y w) (h : flatD x = true) (h' : flatD y = true) : eqV v w = eqF x y := by
  cases x <;> simp only [flatD] at h
  case non =>
    cases (show v = .non from r)
    cases y <;> simp only [flatD] at h'
    case non => cases (show w = .non from q); rfl
    case bl b => cases (show w = .bl b from q); rfl
    case int i => cases (show w = .int i from q); rfl
    case str a => obtain ⟨rfl, _⟩ := q; rfl
    all_goals cases h'
  case bl b =>
    cases (show v = .bl b from r)
    cases y <;> simp only [flatD] at h'
    case non => cases (show w = .non from q); rfl
    case bl b => cases (show w = .bl b from q); rfl
    case int i => cases (show w = .int i from q); rfl
    case str a => obtain ⟨rfl, _⟩ := q; rfl
    all_goals cases h'
  case int b =>
    cases (show v = .int b from r)
    cases y <;> simp only [flatD] at h'
    case non => cases (show w = .non from q); rfl
    case bl b => cases (show w = .bl b from q); rfl
    case int i => cases (show w = .int i from q); rfl
    case str a => obtain ⟨rfl, _⟩ := q; rfl
    all_goals cases h'
  case str b =>
    obtain ⟨rfl, _⟩ := r
    cases y <;> simp only [flatD] at h'
    case non => cases (show w = .non from q); rfl
    case bl b => cases (show w = .bl b from q); rfl
    case int i => cases (show w = .int i from q); rfl
    case str a => obtain ⟨rfl, _⟩ := q; exact str_beq _ _
    all_goals cases h'
  all_goals cases h
theorem flats_of : ∀ {xs : List D} {vs : List V}, RelDs B H ρ xs vs → xs.all flatD = true → vs.all flatV = true
  | [], vs, h, _ => by
    have e : vs = [] := h
    subst e
    rfl
  | x :: xs, vs, h, f => by
    obtain ⟨v, r, rfl, h1, h2⟩ := h
    rw [List.all_cons, Bool.and_eq_true] at f ⊢
    exact ⟨flat_of h1 f.1, flats_of h2 f.2⟩
theorem anys_of {y : D} {w : V} (q : RelD B H ρ y w) (hf : flatD y = true) : ∀ {xs : List D} {vs : List V}, RelDs B H ρ xs vs → xs.all flatD = true → (vs.any fun z => eqV z w) = xs.any fun z => eqF z y
  | [], vs, h, _ => by
    have e : vs = [] := h
    subst e
    rfl
  | x :: xs, vs, h, f => by
    obtain ⟨v, r, rfl, h1, h2⟩ := h
    rw [List.all_cons, Bool.and_eq_true] at f
    rw [List.any_cons, List.any_cons, anys_of q hf h2 f.2, eqF_of h1 q f.1 hf]
theorem isNon_of {x : D} {v : V} (r : RelD B H ρ x v) : decide (v = .non) = isNon x := by
  cases x with
  | non => cases (show v = .non from r); rfl
  | bl b => cases (show v = .bl b from r); rfl
  | int i => cases (show v = .int i from r); rfl
  | str a => obtain ⟨rfl, _⟩ := r; rfl
  | tup xs => obtain ⟨a, _, rfl, _⟩ := r; rfl
  | fl xs => obtain ⟨a, _, rfl, _⟩ := r; rfl
  | kd n => exact r.elim
  | ref n => obtain ⟨a, rfl, _⟩ := r; rfl
  | fd ks vs => obtain ⟨a, _, rfl, _⟩ := r; rfl
end
section
variable {X : Cx} {B : Tb} (hK : B.K = X.K) (hP : B.pw = X.w.params) (hu : X.A.units + 65 < cLine)
include hK hu in
theorem or_eq : OpR X (compareOp .Eq) (rO B (xCmp .Eq)) := by
  intro pins s σ H vx vy v u Q I rx ry h
  obtain ⟨x, y, st, ρ, r1, r2, S, h⟩ := h
  have deep : obl (eqDeep st x y) (fun c => Lift B H ρ Q (.bl c) st) → wpAny (model X.prog X.w) X.A (compareOp .Eq v u) (EP X pins σ Q) X.xe s := fun h => by
    cases e : eqDeep st x y with
    | none => rw [e] at h; exact h.elim
    | some c =>
      rw [e] at h
      obtain ⟨d1, d2, g1, g2, g3, g4, g5⟩ := deep_eq S r1 r2 e
      exact op_eqD (Nat.lt_of_succ_lt hu) pins s σ H _ _ v u Q I rx ry ⟨d1, d2, hK ▸ g1, hK ▸ g2, g3, g4, by rw [g5]; exact h.here (rfl : V.bl c = _) S⟩
  cases x <;> cases y <;> simp only [xCmp, cmpD, eqD] at h <;> first
    | exact deep h
    | skip
  case int.int i j =>
    cases int_of r1; cases int_of r2
    exact op_eq pins s σ H _ _ v u Q I rx ry ⟨rfl, by rw [show decide (V.int i = V.int j) = decide (i = j) by simp]; exact Lift.here h rfl S⟩
  case str.str a b =>
    obtain ⟨rfl, _⟩ := r1
    obtain ⟨rfl, _⟩ := r2
    exact op_eq pins s σ H _ _ v u Q I rx ry ⟨rfl, by rw [show decide (V.str ⟨a.toArray⟩ = V.str ⟨b.toArray⟩) = decide (a = b) by simp]; exact Lift.here h rfl S⟩
  case bl.bl a b =>
    cases (show vx = .bl a from r1); cases (show vy = .bl b from r2)
    exact op_eq pins s σ H _ _ v u Q I rx ry ⟨rfl, by rw [show decide (V.bl a = V.bl b) = decide (a = b) by simp]; exact Lift.here h rfl S⟩
include hK hu in
theorem or_ne : OpR X (compareOp .NotEq) (rO B (xCmp .NotEq)) := by
  intro pins s σ H vx vy v u Q I rx ry h
  obtain ⟨x, y, st, ρ, r1, r2, S, h⟩ := h
  have deep : obl ((eqDeep st x y).map fun b => !b) (fun c => Lift B H ρ Q (.bl c) st) → wpAny (model X.prog X.w) X.A (compareOp .NotEq v u) (EP X pins σ Q) X.xe s := fun h => by
    cases e : eqDeep st x y with
    | none => rw [e] at h; exact h.elim
    | some c =>
      rw [e] at h
      obtain ⟨d1, d2, g1, g2, g3, g4, g5⟩ := deep_eq S r1 r2 e
      exact op_neD (Nat.lt_of_succ_lt hu) pins s σ H _ _ v u Q I rx ry ⟨d1, d2, hK ▸ g1, hK ▸ g2, g3, g4, by rw [g5]; exact Lift.here h (rfl : V.bl (!c) = _) S⟩
  cases x <;> cases y <;> simp only [xCmp, cmpD, eqD] at h <;> first
    | exact deep h
    | skip
  case int.int i j =>
    cases int_of r1; cases int_of r2
    exact op_ne pins s σ H _ _ v u Q I rx ry ⟨rfl, by rw [show decide (V.int i = V.int j) = decide (i = j) by simp]; exact Lift.here h rfl S⟩
  case str.str a b =>
    obtain ⟨rfl, _⟩ := r1
    obtain ⟨rfl, _⟩ := r2
    exact op_ne pins s σ H _ _ v u Q I rx ry ⟨rfl, by rw [show decide (V.str ⟨a.toArray⟩ = V.str ⟨b.toArray⟩) = decide (a = b) by simp]; exact Lift.here h rfl S⟩
  case bl.bl a b =>
    cases (show vx = .bl a from r1); cases (show vy = .bl b from r2)
    exact op_ne pins s σ H _ _ v u Q I rx ry ⟨rfl, by rw [show decide (V.bl a = V.bl b) = decide (a = b) by simp]; exact Lift.here h rfl S⟩
theorem or_ints (op : CmpOp) (g : Int → Int → Bool) (ho : OpR X (compareOp op) (rI0 fun i j => .bl (g i j))) (hc : ∀ s x y, cmpD s op x y ≠ none → ∃ i j, x = .int i ∧ y = .int j ∧ cmpD s op x y = some (g i j)) : OpR X (compareOp op) (rO B (xCmp op)) := by
  intro pins s σ H vx vy v u Q I rx ry h
  obtain ⟨x, y, st, ρ, r1, r2, S, h⟩ := h
  simp only [xCmp] at h
  have hne : cmpD st op x y ≠ none := fun e => by rw [e] at h; exact h.elim
  obtain ⟨i, j, rfl, rfl, e⟩ := hc st x y hne
  rw [e] at h
  cases int_of r1; cases int_of r2
  exact ho pins s σ H _ _ v u Q I rx ry ⟨i, j, rfl, rfl, Lift.here h rfl S⟩
theorem or_lt : OpR X (compareOp .Lt) (rO B (xCmp .Lt)) := or_ints .Lt (fun i j => decide (i < j)) op_lt fun s x y h => by
  cases x <;> cases y <;> simp_all [cmpD]
theorem or_le : OpR X (compareOp .LtE) (rO B (xCmp .LtE)) := or_ints .LtE (fun i j => decide (i ≤ j)) op_le fun s x y h => by
  cases x <;> cases y <;> simp_all [cmpD]
theorem or_gt : OpR X (compareOp .Gt) (rO B (xCmp .Gt)) := or_ints .Gt (fun i j => decide (j < i)) op_gt fun s x y h => by
  cases x <;> cases y <;> simp_all [cmpD]
theorem or_ge : OpR X (compareOp .GtE) (rO B (xCmp .GtE)) := or_ints .GtE (fun i j => decide (j ≤ i)) op_ge fun s x y h => by
  cases x <;> cases y <;> simp_all [cmpD]
theorem or_is : OpR X (compareOp .Is) (rO B (xCmp .Is)) := by
  intro pins s σ H vx vy v u Q I rx ry h
  obtain ⟨x, y, st, ρ, r1, r2, S, h⟩ := h
  cases y <;> simp only [xCmp, cmpD] at h
  case non =>
    cases (show vy = .non from r2)
    exact op_isN pins s σ H _ _ v u Q I rx ry ⟨rfl, by rw [isNon_of r1]; exact Lift.here h rfl S⟩
  all_goals exact h.elim
theorem or_isn : OpR X (compareOp .IsNot) (rO B (xCmp .IsNot)) := by
  intro pins s σ H vx vy v u Q I rx ry h
  obtain ⟨x, y, st, ρ, r1, r2, S, h⟩ := h
  cases y <;> simp only [xCmp, cmpD] at h
  case non =>
    cases (show vy = .non from r2)
    exact op_notN pins s σ H _ _ v u Q I rx ry ⟨rfl, by rw [isNon_of r1]; exact Lift.here h rfl S⟩
  all_goals exact h.elim
include hK hP hu in
theorem or_in : OpR X (compareOp .In) (rO B (xCmp .In)) := by
  intro pins s σ H vx vy v u Q I rx ry h
  obtain ⟨x, y, st, ρ, r1, r2, S, h⟩ := h
  simp only [xCmp, cmpD] at h
  unfold inD at h
  split at h
  · rename_i kvs hd
    split at h
    · rename_i ok
      obtain ⟨a, rfl, g⟩ := dic_of S r2 hd
      obtain rfl : u = Value.ref a := ry
      exact dx_in hK hP (by omega) I g ok r1 rx fun s' I' => ⟨.bl _, H, I', rfl, Lift.here h rfl S⟩
    · exact h.elim
  unfold inS at h
  split at h
  · rename_i b
    obtain ⟨rfl, _⟩ := r2
    split at h
    · rename_i a
      obtain ⟨rfl, _⟩ := r1
      refine op_in_str pins s σ H _ _ v u Q I rx ry ⟨_, _, rfl, rfl, ?_⟩
      rw [toArr_len]
      exact Lift.here h rfl S
    · exact h.elim
  · split at h
    · rename_i ys hs
      split at h
      · rename_i hf
        rw [Bool.and_eq_true] at hf
        obtain ⟨a, vs, rfl, q, d⟩ := seq_of S r2 hs
        refine op_in_seq pins s σ H _ _ v u Q I rx ry ⟨a, vs, rfl, hK ▸ q, flat_of r1 hf.1, flats_of d hf.2, ?_⟩
        rw [if_neg Bool.false_ne_true]
        unfold inV
        rw [anys_of r1 hf.1 d hf.2]
        exact Lift.here h rfl S
      · exact h.elim
    · exact h.elim
include hK hP hu in
theorem or_nin : OpR X (compareOp .NotIn) (rO B (xCmp .NotIn)) := by
  intro pins s σ H vx vy v u Q I rx ry h
  obtain ⟨x, y, st, ρ, r1, r2, S, h⟩ := h
  simp only [xCmp, cmpD] at h
  unfold inD at h
  split at h
  · rename_i kvs hd
    split at h
    · rename_i ok
      obtain ⟨a, rfl, g⟩ := dic_of S r2 hd
      obtain rfl : u = Value.ref a := ry
      exact dx_notIn hK hP (by omega) I g ok r1 rx fun s' I' => ⟨.bl _, H, I', rfl, Lift.here h rfl S⟩
    · exact h.elim
  unfold inS at h
  split at h
  · rename_i b
    obtain ⟨rfl, _⟩ := r2
    split at h
    · rename_i a
      obtain ⟨rfl, _⟩ := r1
      refine op_notin_str pins s σ H _ _ v u Q I rx ry ⟨_, _, rfl, rfl, ?_⟩
      rw [toArr_len]
      exact Lift.here h rfl S
    · exact h.elim
  · split at h
    · rename_i ys hs
      split at h
      · rename_i hf
        rw [Bool.and_eq_true] at hf
        obtain ⟨a, vs, rfl, q, d⟩ := seq_of S r2 hs
        refine op_notIn_seq pins s σ H _ _ v u Q I rx ry ⟨a, vs, rfl, hK ▸ q, flat_of r1 hf.1, flats_of d hf.2, ?_⟩
        rw [if_pos rfl]
        unfold inV
        rw [anys_of r1 hf.1 d hf.2]
        exact Lift.here h rfl S
      · exact h.elim
    · exact h.elim
include hK hP hu in
theorem or_cmp (op : CmpOp) : OpR X (compareOp op) (rO B (xCmp op)) := by
  cases op
  · exact or_eq hK hu
  · exact or_ne hK hu
  · exact or_lt
  · exact or_le
  · exact or_gt
  · exact or_ge
  · exact or_is
  · exact or_isn
  · exact or_in hK hP hu
  · exact or_nin hK hP hu

/-! ### subscripts -/
theorem atI_rel {H : Hp} {ρ : List Addr} {xs : List D} {vs : List V} (d : RelDs B H ρ xs vs) {i : Int} {x : D} (h : atI xs i = some x) : ∃ v, atI vs i = some v ∧ RelD B H ρ x v := by
  unfold atI at h ⊢
  rw [← d.length]
  cases e : ixN xs.length i with
  | none => rw [e] at h; cases h
  | some j =>
    rw [e] at h
    exact d.get h
theorem atI_mem {α : Type} {xs : List α} {i : Int} {x : α} (h : atI xs i = some x) : x ∈ xs := by
  obtain ⟨j, _, e, _⟩ := atI_get h
  exact List.mem_of_getElem? e
include hK hP hu in
theorem ix_ok : IxR X (rO B xIx) := by
  intro ve se pins s σ H vx vy v u Q I rx ry h hs
  obtain ⟨x, y, st, ρ, r1, r2, S, h⟩ := h
  unfold xIx at h
  split at h
  · rename_i kvs hd
    obtain ⟨a, rfl, g⟩ := dic_of S r1 hd
    obtain rfl : v = Value.ref a := rx
    obtain ⟨ok, h⟩ := h
    split at h
    · rename_i d hg
      exact tail_any (dx_type hK hP I g).1 slot_dict_getitem.lookup (dx_getItem hK hP (by omega) I g ok r2 ry hg fun w w' s' I' rw' rd => ⟨w, H, I', rw', Lift.here h rd S⟩) hs
    · exact h.elim
  unfold xIs at h
  split at h
  · rename_i i
    cases int_of r2
    split at h
    · rename_i a
      obtain ⟨rfl, z⟩ := r1
      split at h
      · rename_i c hc
        refine ix_str ve se pins s σ H _ _ v u Q I rx ry ⟨_, i, c, rfl, rfl, by rw [toArr_len]; exact z.1, hc, ?_⟩ hs
        exact Lift.here h ⟨rfl, z.sub (fun c' hc' => by rw [List.mem_singleton.mp hc']; exact atI_mem hc) (List.length_pos_of_mem (atI_mem hc))⟩ S
      · exact h.elim
    · split at h
      · rename_i xs hx
        obtain ⟨a, vs, rfl, q, d⟩ := seq_of S r1 hx
        split at h
        · rename_i y hy
          obtain ⟨w, e, r⟩ := atI_rel d hy
          have fin := Lift.here h r S
          rcases q with q | q
          · exact ix_list ve se pins s σ H _ _ v u Q I rx ry ⟨a, vs, i, w, rfl, rfl, hK ▸ q, e, fin⟩ hs
          · exact ix_tup ve se pins s σ H _ _ v u Q I rx ry ⟨a, vs, i, w, rfl, rfl, hK ▸ q, e, fin⟩ hs
        · exact h.elim
      · exact h.elim
  · exact h.elim
def rS (B : Tb) : V → Option Int → Option Int → Hp → VK → Prop := fun vx lo hi H Q => ∃ (x l u : D) (s : Sto) (ρ : List Addr), RelD B H ρ x vx ∧ partD l = some lo ∧ partD u = some hi ∧ RelS B H ρ s ∧ xSl x l u s (Lift B H ρ Q)
theorem mem_cut {α : Type} {xs : List α} {lo hi : Option Int} {x : α} (h : x ∈ cut xs lo hi) : x ∈ xs := List.mem_of_mem_drop (List.mem_of_mem_take h)
theorem len_cut {α : Type} (xs : List α) (lo hi : Option Int) : (cut xs lo hi).length ≤ xs.length := by
  unfold cut
  rw [List.length_take, List.length_drop]
  omega
include hK in
theorem sl_ok : SlR X (rS B) := by
  intro pins s σ H vx v vl vu lo hi sl Q I rx hs pl pu h
  obtain ⟨x, l, u, st, ρ, r1, e1, e2, S, h⟩ := h
  unfold xSl at h
  rw [e1, e2] at h
  simp only at h
  cases x <;> simp only at h
  case str a =>
    obtain ⟨rfl, z⟩ := r1
    refine sl_str pins s σ H _ v vl vu lo hi sl Q I rx hs pl pu ⟨_, rfl, by rw [toArr_len]; exact z.1, ?_⟩
    exact h.here ⟨rfl, z.sub (fun c hc => mem_cut hc) (len_cut _ _ _)⟩ S
  case tup xs =>
    obtain ⟨a, vs, rfl, q, z, d⟩ := id r1
    have hl := d.cut lo hi
    have hz : (cut xs lo hi).length ≤ sizeLine := Nat.le_trans (len_cut _ _ _) z
    refine sl_tupA pins s σ H _ v vl vu lo hi sl Q I rx hs pl pu ⟨a, vs, rfl, hK ▸ q, fun w => ?_, fun w t ht => tup_new S hl hz h ht⟩
    have e : cut xs lo hi = xs := by
      unfold cut
      rw [d.length, w.1, w.2, Nat.sub_zero, List.drop_zero, ← d.length, List.take_length]
    rw [e] at h
    exact h.here r1 S
  case fl xs =>
    obtain ⟨a, vs, rfl, q, d⟩ := id r1
    refine sl_list pins s σ H _ v vl vu lo hi sl Q I rx hs pl pu ⟨a, vs, rfl, hK ▸ q.sq, fun p hp => mk_new S (d.cut lo hi) h hp⟩
  case ref n =>
    obtain ⟨a, rfl, q⟩ := r1
    split at h
    · rename_i xs hx
      obtain ⟨vs, g, d⟩ := S.lstOf q hx
      exact sl_list pins s σ H _ v vl vu lo hi sl Q I rx hs pl pu ⟨a, vs, rfl, SqL.of g, fun p hp => mk_new S (d.cut lo hi) h hp⟩
    · exact h.elim
  all_goals exact h.elim
end
end PX

/-! PX: calls of built-ins and of the methods of built-in types, sound. -/
namespace PX
open PySem PySem.Spec PyProof.Rows L2
def rB (B : Tb) (f : BF) : List V → Hp → VK → Prop := fun vs H Q => ∃ (ds : List D) (s : Sto) (ρ : List Addr), RelDs B H ρ ds vs ∧ RelS B H ρ s ∧ xBlt f ds s (Lift B H ρ Q)
def rM (B : Tb) (m : MF) : V → List V → Hp → VK → Prop := fun v vs H Q => ∃ (x : D) (ds : List D) (s : Sto) (ρ : List Addr), RelD B H ρ x v ∧ RelDs B H ρ ds vs ∧ RelS B H ρ s ∧ xMeth m x ds s (Lift B H ρ Q)
section
variable {B : Tb} {H : Hp} {ρ : List Addr}
theorem rel1 {x : D} {vs : List V} (h : RelDs B H ρ [x] vs) : ∃ v, vs = [v] ∧ RelD B H ρ x v := by
  obtain ⟨v, r, rfl, h1, h2⟩ := h
  have e : r = [] := h2
  subst e
  exact ⟨v, rfl, h1⟩
theorem rel2 {x y : D} {vs : List V} (h : RelDs B H ρ [x, y] vs) : ∃ v w, vs = [v, w] ∧ RelD B H ρ x v ∧ RelD B H ρ y w := by
  obtain ⟨v, r, rfl, h1, h2⟩ := h
  obtain ⟨w, rfl, h3⟩ := rel1 h2
  exact ⟨v, w, rfl, h1, h3⟩
theorem rel0 {vs : List V} (h : RelDs B H ρ [] vs) : vs = [] := h
theorem strs_of : ∀ {xs : List D} {vs : List V} {l : List (List Nat)}, RelDs B H ρ xs vs → strsOf xs = some l → vs = (l.map fun a => (⟨a.toArray⟩ : Str)).map V.str ∧ ∀ a ∈ l, StrOk a
  | [], vs, l, h, e => by
    cases e
    exact ⟨h, fun _ z => absurd z (by simp)⟩
  | x :: xs, vs, l, h, e => by
    obtain ⟨v, r, rfl, h1, h2⟩ := h
    cases x <;> simp only [strsOf] at e
    case str a =>
      cases e2 : strsOf xs with
      | none => rw [e2] at e; cases e
      | some m =>
        rw [e2] at e
        cases e
        obtain ⟨rfl, z⟩ := h1
        obtain ⟨g1, g2⟩ := strs_of h2 e2
        exact ⟨by rw [g1]; rfl, fun b hb => (List.mem_cons.mp hb).elim (fun q => q ▸ z) (g2 b)⟩
    all_goals cases e
theorem join_toArr (sep : List Nat) : ∀ l : List (List Nat), Str.join ⟨sep.toArray⟩ (l.map fun a => (⟨a.toArray⟩ : Str)) = ⟨(joinS sep l).toArray⟩
  | [] => rfl
  | [a] => rfl
  | a :: b :: r => by
    have ih := join_toArr sep (b :: r)
    simp only [List.map_cons, Str.join, joinS] at ih ⊢
    rw [ih, toArr_add, toArr_add]
theorem joinS_len (sep : List Nat) : ∀ l : List (List Nat), (joinS sep l).length ≤ (l.map List.length).sum + l.length * sep.length
  | [] => Nat.zero_le _
  | [a] => by simp [joinS]
  | a :: b :: r => by
    have ih := joinS_len sep (b :: r)
    simp only [joinS, List.length_append, List.map_cons, List.sum_cons, List.length_cons] at ih ⊢
    rw [Nat.add_mul (r.length + 1) 1, Nat.one_mul]
    omega
theorem joinS_mem (sep : List Nat) (c : Nat) : ∀ l : List (List Nat), c ∈ joinS sep l → c ∈ sep ∨ ∃ a ∈ l, c ∈ a
  | [], h => by simp [joinS] at h
  | [a], h => .inr ⟨a, by simp, h⟩
  | a :: b :: r, h => by
    simp only [joinS, List.mem_append] at h
    rcases h with (h | h) | h
    · exact .inr ⟨a, by simp, h⟩
    · exact .inl h
    · rcases joinS_mem sep c (b :: r) h with h | ⟨d, h1, h2⟩
      · exact .inl h
      · exact .inr ⟨d, List.mem_cons_of_mem _ h1, h2⟩
end
theorem strI_ok (i : Int) (h0 : 0 ≤ i) (h : i < 10 ^ 10) : StrOk (strI i) := by
  have e : strI i = (toString i).toList.map Char.toNat := PyProof.Rows.signs_ofString (toString i)
  refine ⟨?_, fun c hc => ?_⟩
  · have := PyProof.Rows.toString_length_le h0 (k := 10) (by decide) h
    show (Str.ofString (toString i)).cps.toList.length ≤ sizeLine
    rw [Array.length_toList]
    exact Nat.le_trans this (by decide)
  · rw [e] at hc
    obtain ⟨ch, _, rfl⟩ := List.mem_map.mp hc
    have hv := ch.valid
    simp only [UInt32.isValidChar, Nat.isValidChar] at hv
    show ch.val.toNat < 1114112
    omega
theorem log_small {i : Int} (h0 : 0 ≤ i) (h : i < 10 ^ 10) : i.natAbs.log2 < 1920 := by
  have h1 : i.natAbs < 2 ^ 1920 := Nat.lt_of_lt_of_le (by omega : i.natAbs < 10 ^ 10) (Nat.le_trans (by decide : 10 ^ 10 ≤ 2 ^ 34) (Nat.pow_le_pow_right (by decide) (by decide)))
  exact PySem.Flt.log2_lt_of (by decide) h1
theorem blt1 {f : BF} {g : D → Sto → QE → Prop} (hg : ∀ ds s Q, xBlt f ds s Q → ∃ x, ds = [x] ∧ g x s Q) {B : Tb} {vs : List V} {H : Hp} {Q : VK} (h : rB B f vs H Q) :
    ∃ x v s ρ, vs = [v] ∧ RelD B H ρ x v ∧ RelS B H ρ s ∧ g x s (Lift B H ρ Q) := by
  obtain ⟨ds, st, ρ, d, S, h⟩ := h
  obtain ⟨x, rfl, h'⟩ := hg _ _ _ h
  obtain ⟨v, rfl, r⟩ := rel1 d
  exact ⟨x, v, st, ρ, rfl, r, S, h'⟩
theorem blt2 {f : BF} {g : D → D → Sto → QE → Prop} (hg : ∀ ds s Q, xBlt f ds s Q → ∃ x y, ds = [x, y] ∧ g x y s Q) {B : Tb} {vs : List V} {H : Hp} {Q : VK} (h : rB B f vs H Q) :
    ∃ x y v w s ρ, vs = [v, w] ∧ RelD B H ρ x v ∧ RelD B H ρ y w ∧ RelS B H ρ s ∧ g x y s (Lift B H ρ Q) := by
  obtain ⟨ds, st, ρ, d, S, h⟩ := h
  obtain ⟨x, y, rfl, h'⟩ := hg _ _ _ h
  obtain ⟨v, w, rfl, r, q⟩ := rel2 d
  exact ⟨x, y, v, w, st, ρ, rfl, r, q, S, h'⟩
theorem one_of {f : BF} {g : D → Sto → QE → Prop} (h0 : ∀ s Q, ¬ xBlt f [] s Q) (h1 : ∀ x s Q, xBlt f [x] s Q → g x s Q) (h2 : ∀ x y r s Q, ¬ xBlt f (x :: y :: r) s Q) : ∀ ds s Q, xBlt f ds s Q → ∃ x, ds = [x] ∧ g x s Q
  | [], s, Q, h => (h0 s Q h).elim
  | [x], s, Q, h => ⟨x, rfl, h1 x s Q h⟩
  | x :: y :: r, s, Q, h => (h2 x y r s Q h).elim
theorem two_of {f : BF} {g : D → D → Sto → QE → Prop} (h0 : ∀ s Q, ¬ xBlt f [] s Q) (h1 : ∀ x s Q, ¬ xBlt f [x] s Q) (h2 : ∀ x y s Q, xBlt f [x, y] s Q → g x y s Q) (h3 : ∀ x y z r s Q, ¬ xBlt f (x :: y :: z :: r) s Q) :
    ∀ ds s Q, xBlt f ds s Q → ∃ x y, ds = [x, y] ∧ g x y s Q
  | [], s, Q, h => (h0 s Q h).elim
  | [x], s, Q, h => (h1 x s Q h).elim
  | [x, y], s, Q, h => ⟨x, y, rfl, h2 x y s Q h⟩
  | x :: y :: z :: r, s, Q, h => (h3 x y z r s Q h).elim
section
variable {X : Cx} {B : Tb} (hK : B.K = X.K) (hc : X.calm = true)
include hK in
theorem bf_len : CallR X (.builtin "len") (rB B .len) := by
  intro pins s σ H vs us Q I r h
  obtain ⟨x, v, st, ρ, rfl, rx, S, k⟩ := blt1 (g := bLen) (one_of (f := .len) (fun _ _ h => h) (fun _ _ _ h => h) (fun _ _ _ _ _ h => h)) h
  have seq : ∀ {xs : List D}, seqOf st x = some xs → Lift B H ρ Q (.int xs.length) st → wpAny (model X.prog X.w) X.A (call (.builtin "len") us) (EP X pins σ Q) X.xe s := fun {xs} hx k => by
    obtain ⟨a, vs, rfl, q, d⟩ := seq_of S rx hx
    exact call_len_seq pins s σ H _ us Q I r ⟨a, vs, rfl, hK ▸ q, by rw [← d.length]; exact k.here rfl S⟩
  cases x <;> simp only [bLen] at k
  case str a =>
    obtain ⟨rfl, z⟩ := rx
    exact call_len_str pins s σ H _ us Q I r ⟨_, rfl, by rw [toArr_len]; exact z.1, by rw [toArr_len]; exact k.here rfl S⟩
  all_goals
    split at k
    · rename_i xs hx; exact seq hx k
    · exact k.elim
theorem bf_int : CallR X (.type "int") (rB B .int) := by
  intro pins s σ H vs us Q I r h
  obtain ⟨x, v, st, ρ, rfl, rx, S, k⟩ := blt1 (g := bInt) (one_of (f := .int) (fun _ _ h => h) (fun _ _ _ h => h) (fun _ _ _ _ _ h => h)) h
  cases x <;> simp only [bInt] at k
  case int i =>
    cases int_of rx
    exact call_int1 pins s σ H _ us Q I r (.inl ⟨i, rfl, k.here rfl S⟩)
  case bl b =>
    cases (show v = .bl b from rx)
    exact call_int1 pins s σ H _ us Q I r (.inr ⟨b, rfl, k.here rfl S⟩)
  all_goals exact k.elim
theorem bf_abs : CallR X (.builtin "abs") (rB B .abs) := by
  intro pins s σ H vs us Q I r h
  obtain ⟨x, v, st, ρ, rfl, rx, S, k⟩ := blt1 (g := bAbs) (one_of (f := .abs) (fun _ _ h => h) (fun _ _ _ h => h) (fun _ _ _ _ _ h => h)) h
  cases x <;> simp only [bAbs] at k
  case int i =>
    cases int_of rx
    exact call_abs pins s σ H _ us Q I r ⟨i, rfl, k.here rfl S⟩
  all_goals exact k.elim
theorem bf_str : CallR X (.type "str") (rB B .str) := by
  intro pins s σ H vs us Q I r h
  obtain ⟨x, v, st, ρ, rfl, rx, S, k⟩ := blt1 (g := bStr) (one_of (f := .str) (fun _ _ h => h) (fun _ _ _ h => h) (fun _ _ _ _ _ h => h)) h
  cases x <;> simp only [bStr] at k
  case int i =>
    cases int_of rx
    refine call_str_int pins s σ H _ us Q I r ⟨i, rfl, log_small k.1.1 k.1.2, k.2.here ⟨?_, strI_ok i k.1.1 k.1.2⟩ S⟩
    show V.str _ = V.str ⟨(((toString i : Str)).cps.toList).toArray⟩
    rw [Array.toArray_toList]
  all_goals exact k.elim
include hK in
theorem bf_tuple : CallR X (.type "tuple") (rB B .tuple) := by
  intro pins s σ H vs us Q I r h
  obtain ⟨x, v, st, ρ, rfl, rx, S, k⟩ := blt1 (g := bTup) (one_of (f := .tuple) (fun _ _ h => h) (fun _ _ _ h => h) (fun _ _ _ _ _ h => h)) h
  have seq : ∀ {xs : List D}, seqOf st x = some xs → (∀ ys, x ≠ .tup ys) → Lift B H ρ Q (.tup xs) st → wpAny (model X.prog X.w) X.A (call (.type "tuple") us) (EP X pins σ Q) X.xe s := fun {xs} hx hn k => by
    obtain ⟨a, vs, rfl, q', d⟩ := seq_list S rx hx hn
    obtain ⟨its, _, _, z⟩ := I.list (hK ▸ q')
    exact call_tuple_of pins s σ H _ us Q I r ⟨a, vs, rfl, .inl ⟨hK ▸ q', fun l hl => tup_new S d (by rw [d.length]; exact z) k hl⟩⟩
  cases x <;> simp only [bTup] at k
  case tup xs =>
    obtain ⟨a, vs, rfl, q, z, d⟩ := id rx
    exact call_tuple_of pins s σ H _ us Q I r ⟨a, vs, rfl, .inr ⟨hK ▸ q, k.here rx S⟩⟩
  all_goals
    split at k
    · rename_i xs hx; exact seq hx (fun _ z => by cases z) k
    · exact k.elim
include hK in
theorem bf_list : CallR X (.type "list") (rB B .list) := by
  intro pins s σ H vs us Q I r h
  obtain ⟨x, v, st, ρ, rfl, rx, S, k⟩ := blt1 (g := bLst) (one_of (f := .list) (fun _ _ h => h) (fun _ _ _ h => h) (fun _ _ _ _ _ h => h)) h
  unfold bLst at k
  split at k
  · rename_i xs hx
    obtain ⟨a, vs, rfl, q, d⟩ := seq_of S rx hx
    exact call_list_of pins s σ H _ us Q I r ⟨a, vs, rfl, hK ▸ q, fun l hl => mk_new S d k hl⟩
  · exact k.elim
include hc in
theorem bf_max : CallR X (.builtin "max") (rB B .max2) := by
  intro pins s σ H vs us Q I r h
  obtain ⟨x, y, v, w, st, ρ, rfl, rx, ry, S, k⟩ := blt2 (g := bMax) (two_of (f := .max2) (fun _ _ h => h) (fun _ _ _ h => h) (fun _ _ _ _ h => h) (fun _ _ _ _ _ _ h => h)) h
  cases x <;> cases y <;> simp only [bMax] at k
  case int.int i j =>
    cases int_of rx; cases int_of ry
    exact call_max2 hc pins s σ H _ us Q I r ⟨i, j, rfl, k.here rfl S⟩
  all_goals exact k.elim
include hc in
theorem bf_min : CallR X (.builtin "min") (rB B .min2) := by
  intro pins s σ H vs us Q I r h
  obtain ⟨x, y, v, w, st, ρ, rfl, rx, ry, S, k⟩ := blt2 (g := bMin) (two_of (f := .min2) (fun _ _ h => h) (fun _ _ _ h => h) (fun _ _ _ _ h => h) (fun _ _ _ _ _ _ h => h)) h
  cases x <;> cases y <;> simp only [bMin] at k
  case int.int i j =>
    cases int_of rx; cases int_of ry
    exact call_min2 hc pins s σ H _ us Q I r ⟨i, j, rfl, k.here rfl S⟩
  all_goals exact k.elim
theorem ints_of : ∀ {xs : List D} {vs : List V} {ns : List Int} {H : Hp} {ρ : List Addr}, RelDs B H ρ xs vs → intsOf xs = some ns → vs = ns.map V.int
  | [], vs, ns, H, ρ, h, e => by
    cases e
    exact h
  | x :: xs, vs, ns, H, ρ, h, e => by
    obtain ⟨v, r, rfl, h1, h2⟩ := h
    cases x <;> simp only [intsOf] at e
    case int i =>
      cases e2 : intsOf xs with
      | none => rw [e2] at e; cases e
      | some m =>
        rw [e2] at e
        cases e
        cases int_of h1
        rw [ints_of h2 e2]
        rfl
    all_goals cases e
include hc in
theorem bf_min1 : CallR X (.builtin "min") (rB B .min1) := by
  intro pins s σ H vs us Q I r h
  obtain ⟨x, v, st, ρ, rfl, rx, S, k⟩ := blt1 (g := bMin1) (one_of (f := .min1) (fun _ _ h => h) (fun _ _ _ h => h) (fun _ _ _ _ _ h => h)) h
  unfold bMin1 at k
  repeat' split at k
  all_goals first | exact k.elim | skip
  rename_i n _ xs hs _ ns hn
  obtain ⟨a, rfl, e⟩ := rx
  obtain ⟨ws, g, d⟩ := S.lstOf e hs
  cases ints_of d hn
  exact cr_min hc pins s σ H _ us Q I r ⟨a, ns, rfl, SqL.of g, k.1, fun m h1 h2 => (k.2 m h1 h2).here rfl S⟩
include hc in
theorem bf_max1 : CallR X (.builtin "max") (rB B .max1) := by
  intro pins s σ H vs us Q I r h
  obtain ⟨x, v, st, ρ, rfl, rx, S, k⟩ := blt1 (g := bMax1) (one_of (f := .max1) (fun _ _ h => h) (fun _ _ _ h => h) (fun _ _ _ _ _ h => h)) h
  unfold bMax1 at k
  repeat' split at k
  all_goals first | exact k.elim | skip
  rename_i n _ xs hs _ ns hn
  obtain ⟨a, rfl, e⟩ := rx
  obtain ⟨ws, g, d⟩ := S.lstOf e hs
  cases ints_of d hn
  exact cr_max hc pins s σ H _ us Q I r ⟨a, ns, rfl, SqL.of g, k.1, fun m h1 h2 => (k.2 m h1 h2).here rfl S⟩
include hc in
theorem bf_sum : CallR X (.builtin "sum") (rB B .sum) := by
  intro pins s σ H vs us Q I r h
  obtain ⟨x, v, st, ρ, rfl, rx, S, k⟩ := blt1 (g := bSum) (one_of (f := .sum) (fun _ _ h => h) (fun _ _ _ h => h) (fun _ _ _ _ _ h => h)) h
  unfold bSum at k
  repeat' split at k
  all_goals first | exact k.elim | skip
  rename_i n _ xs hs _ ns hn
  obtain ⟨a, rfl, e⟩ := rx
  obtain ⟨ws, g, d⟩ := S.lstOf e hs
  cases ints_of d hn
  exact cr_sum hc pins s σ H _ us Q I r ⟨a, ns, rfl, SqL.of g, k.here rfl S⟩
theorem bf_sorted : CallR X (.builtin "sorted") (rB B .sorted) := by
  intro pins s σ H vs us Q I r h
  obtain ⟨x, v, st, ρ, rfl, rx, S, k⟩ := blt1 (g := bSorted) (one_of (f := .sorted) (fun _ _ h => h) (fun _ _ _ h => h) (fun _ _ _ _ _ h => h)) h
  unfold bSorted at k
  repeat' split at k
  all_goals first | exact k.elim | skip
  rename_i n _ xs hs _ ns hn
  obtain ⟨a, rfl, e⟩ := rx
  obtain ⟨ws, g, d⟩ := S.lstOf e hs
  cases ints_of d hn
  exact cr_sortedI pins s σ H _ us Q I r ⟨a, ns, rfl, SqL.of g, fun ms p h1 h2 hp => mk_new S RelDs.ints (k ms h1 h2) hp⟩
/-! ### methods -/
theorem mf_append : MtR X "list.append" (rM B .append) := by
  intro pins s σ H v vs u us Q I rv r h
  obtain ⟨x, ds, st, ρ, rx, d, S, h⟩ := h
  unfold xMeth at h
  split at h <;> rename_i e1 <;> try cases e1
  · rename_i n y
    obtain ⟨a, rfl, e⟩ := rx
    obtain ⟨w, rfl, ry⟩ := rel1 d
    split at h
    · rename_i xs hs
      obtain ⟨ws, g, d⟩ := S.lstOf e hs
      exact mt_append pins s σ H _ _ u us Q I rv r ⟨a, ws, w, rfl, rfl, g, by rw [← d.length]; exact h.1, set_lst S e hs g (d.append (rel_one ry)) (show RelD B H ρ .non .non from rfl) h.2⟩
    · exact h.elim
  all_goals exact h.elim
theorem mf_pop0 : MtR X "list.pop" (rM B .pop0) := by
  intro pins s σ H v vs u us Q I rv r h
  obtain ⟨x, ds, st, ρ, rx, d, S, h⟩ := h
  unfold xMeth at h
  split at h <;> rename_i e1 <;> try cases e1
  · rename_i n
    obtain ⟨a, rfl, e⟩ := rx
    have e0 := rel0 d
    subst e0
    split at h
    · rename_i xs hs
      obtain ⟨ws, g, d⟩ := S.lstOf e hs
      split at h
      · rename_i y hy
        obtain ⟨w, hw, ry⟩ := d.get hy
        exact mt_pop pins s σ H _ _ u us Q I rv r ⟨a, ws, w, rfl, rfl, g, by rw [← d.length]; exact hw, set_lst S e hs g d.dropLast ry h⟩
      · exact h.elim
    · exact h.elim
  all_goals exact h.elim
theorem mf_extend : MtR X "list.extend" (rM B .extend) := by
  intro pins s σ H v vs u us Q I rv r h
  obtain ⟨x, ds, st, ρ, rx, d, S, h⟩ := h
  unfold xMeth at h
  split at h <;> rename_i e1 <;> try cases e1
  · rename_i n m
    obtain ⟨a, rfl, e⟩ := rx
    obtain ⟨w, rfl, ry⟩ := rel1 d
    obtain ⟨b, rfl, e2⟩ := ry
    split at h
    · rename_i xs ys hs hs2
      obtain ⟨ws, g, d⟩ := S.lstOf e hs
      obtain ⟨zs, g2, d2⟩ := S.lstOf e2 hs2
      exact mt_extend pins s σ H _ _ u us Q I rv r ⟨a, b, ws, zs, rfl, rfl, g, g2, by rw [← d.length, ← d2.length]; exact h.1, set_lst S e hs g (d.append d2) (show RelD B H ρ .non .non from rfl) h.2⟩
    · exact h.elim
  all_goals exact h.elim
theorem ints_are : ∀ {ns : List Int} {its : List Value}, Vals (ns.map V.int) its → IntsAre its ns
  | [], _, .nil => .nil
  | n :: ns, _, .cons r rs => by
    obtain ⟨t, rfl⟩ := r
    exact .cons n t (ints_are rs)
theorem mf_index : MtR X "list.index" (rM B .index) := by
  intro pins s σ H v vs u us Q I rv r h
  obtain ⟨x, ds, st, ρ, rx, d, S, h⟩ := h
  unfold xMeth at h
  split at h <;> rename_i e1 <;> try cases e1
  · rename_i n k
    obtain ⟨a, rfl, e⟩ := rx
    obtain ⟨w, rfl, ry⟩ := rel1 d
    cases ry
    split at h
    · rename_i xs hs
      obtain ⟨ws, g, d⟩ := S.lstOf e hs
      split at h
      · rename_i ns hn
        cases ints_of d hn
        cases rv
        obtain ⟨u1, rfl, r1⟩ := r.one
        obtain ⟨t, rfl⟩ := r1
        obtain ⟨z, its, n, rr, hl, e2⟩ := I.lstM g
        refine PySem.SeqAt.list_index_ints (vs := its) ⟨_, e2, rfl, n, rfl⟩ (ints_are rr) h.1.2 h.1.1 ?_
        exact ⟨.int _, H, I.tok _, ⟨_, rfl⟩, h.2.here rfl S⟩
      · exact h.elim
    · exact h.elim
  all_goals exact h.elim
theorem mf_reverse : MtR X "list.reverse" (rM B .reverse) := by
  intro pins s σ H v vs u us Q I rv r h
  obtain ⟨x, ds, st, ρ, rx, d, S, h⟩ := h
  unfold xMeth at h
  split at h <;> rename_i e1 <;> try cases e1
  · rename_i n
    obtain ⟨a, rfl, e⟩ := rx
    have e0 := rel0 d
    subst e0
    split at h
    · rename_i xs hs
      obtain ⟨ws, g, d⟩ := S.lstOf e hs
      exact mt_reverse pins s σ H _ _ u us Q I rv r ⟨a, ws, rfl, rfl, g, set_lst S e hs g d.reverse (show RelD B H ρ .non .non from rfl) h⟩
    · exact h.elim
  all_goals exact h.elim
theorem joinS_ok {sep : List Nat} {l : List (List Nat)} (hs : StrOk sep) (hl : ∀ a ∈ l, StrOk a) (hz : (l.map List.length).sum + l.length * sep.length ≤ 16777216) : StrOk (joinS sep l) := by
  refine ⟨Nat.le_trans (joinS_len sep l) hz, fun c hc => ?_⟩
  rcases joinS_mem sep c l hc with h | ⟨a, h1, h2⟩
  · exact hs.2 c h
  · exact (hl a h1).2 c h2
include hK in
theorem mf_join : MtR X "str.join" (rM B .join) := by
  intro pins s σ H v vs u us Q I rv r h
  obtain ⟨x, ds, st, ρ, rx, d, S, h⟩ := h
  unfold xMeth at h
  split at h <;> rename_i e1 <;> try cases e1
  · rename_i sep y
    obtain ⟨rfl, z⟩ := rx
    obtain ⟨w, rfl, ry⟩ := rel1 d
    split at h
    · rename_i xs hx
      obtain ⟨a, vs, rfl, q, d⟩ := seq_of S ry hx
      split at h
      · rename_i l hl
        obtain ⟨rfl, hz⟩ := strs_of d hl
        refine mt_join pins s σ H _ _ u us Q I rv r ⟨_, a, _, rfl, rfl, hK ▸ q, ?_, ?_⟩
        · rw [toArr_len, List.length_map, List.map_map]
          have e : (Str.length ∘ fun a : List Nat => (⟨a.toArray⟩ : Str)) = List.length := by
            funext a
            exact toArr_len a
          rw [e]
          exact h.1
        · rw [TL.join_eq, join_toArr]
          exact h.2.here ⟨rfl, joinS_ok z hz h.1⟩ S
      · exact h.elim
    · exact h.elim
  all_goals exact h.elim
theorem mf_insert : MtR X "list.insert" (rM B .insert) := by
  intro pins s σ H v vs u us Q I rv r h
  obtain ⟨x, ds, st, ρ, rx, d, S, h⟩ := h
  unfold xMeth at h
  split at h <;> rename_i e1 <;> try cases e1
  · rename_i n i y
    obtain ⟨a, rfl, e⟩ := rx
    obtain ⟨w1, w, rfl, ri, ry⟩ := rel2 d
    cases int_of ri
    split at h
    · rename_i xs hs
      obtain ⟨ws, g, d⟩ := S.lstOf e hs
      exact mt_insert pins s σ H _ _ u us Q I rv r ⟨a, ws, i, w, rfl, rfl, g, by rw [← d.length]; exact h.1.1, h.1.2.1, h.1.2.2,
        set_lst S e hs g (((d.take _).append (rel_one ry)).append (d.drop _)) (show RelD B H ρ .non .non from rfl) h.2⟩
    · exact h.elim
  all_goals exact h.elim
theorem strip_sub {x : Str} {f : Nat → Bool} {l r : Bool} : (∀ c ∈ (Txt.stripBy f l r x).cps.toList, c ∈ x.cps.toList) ∧ (Txt.stripBy f l r x).cps.toList.length ≤ x.cps.toList.length := by
  unfold Txt.stripBy
  split
  · exact ⟨fun c h => h, Nat.le_refl _⟩
  · unfold stripped Builtin.Str.strSub
    refine ⟨fun c h => ?_, ?_⟩
    · have h := Array.mem_toList_iff.mp h
      obtain ⟨k, hk, rfl⟩ := Array.mem_extract_iff_getElem.mp h
      exact Array.mem_toList_iff.mpr (Array.getElem_mem _)
    · show (Array.extract _ _ _).toList.length ≤ _
      rw [Array.length_toList, Array.length_toList, Array.size_extract]
      omega
theorem mf_rstrip : MtR X "str.rstrip" (rM B .rstrip) := by
  intro pins s σ H v vs u us Q I rv r h
  obtain ⟨x, ds, st, ρ, rx, d, S, h⟩ := h
  unfold xMeth at h
  split at h <;> rename_i e1 <;> try cases e1
  · rename_i a
    obtain ⟨rfl, z⟩ := rx
    have e0 := rel0 d
    subst e0
    refine mt_rstrip pins s σ H _ _ u us Q I rv r ⟨_, rfl, rfl, by rw [toArr_len]; exact z.1, ?_⟩
    have := @strip_sub ⟨a.toArray⟩ Unicode.isSpace false true
    exact h.here ⟨by unfold rstripL; rw [Array.toArray_toList], z.sub (fun c hc => by have := this.1 c hc; simpa using this) (by have := this.2; simpa [rstripL, Txt.rstrip] using this)⟩ S
  all_goals exact h.elim
variable (hP : B.pw = X.w.params) (hu : X.A.units + 65 < cLine)
include hK hP hu in
theorem mf_get2 : MtR X "dict.get" (rM B .get2) := by
  intro pins s σ H v vs u us Q I rv r h
  obtain ⟨x, ds, st, ρ, rx, d, S, h⟩ := h
  unfold xMeth at h
  split at h <;> rename_i e1 <;> try cases e1
  · rename_i k dd
    split at h
    · rename_i kvs hd
      obtain ⟨a, rfl, g⟩ := dic_of S rx hd
      obtain rfl : u = Value.ref a := rv
      obtain ⟨w1, w2, rfl, r1, r2⟩ := rel2 d
      obtain ⟨u1, u2, rfl, q1, q2⟩ := Vals.two r
      exact dx_get2 hK hP (by omega) I g h.1 r1 q1 r2 q2 fun w w' s' I' rw' rd => ⟨w, H, I', rw', Lift.here h.2 rd S⟩
    · exact h.elim
  all_goals exact h.elim
def mT : MF → String
  | .join | .rstrip => "str"
  | .get1 | .get2 => "dict"
  | _ => "list"
/-- the receiver's type -/
theorem mTy_ok {m : MF} {x : D} {v : V} {H : Hp} {ρ : List Addr} {st : Sto} (rx : RelD B H ρ x v) (S : RelS B H ρ st) (h : mTy m x st) (hm : mT m ≠ "dict") : tyV X.K (mT m) v H := by
  have lst : ∀ n, x = .ref n → (match st[n]? with | some (.lst _) => True | _ => False) → tyV X.K "list" v H := fun n e hl => by
    subst e
    obtain ⟨a, rfl, e⟩ := rx
    cases hs : st[n]? with
    | none => rw [hs] at hl; exact hl.elim
    | some o =>
      rw [hs] at hl
      cases o with
      | lst xs =>
        obtain ⟨ws, g, d⟩ := S.lstOf e hs
        exact .inl ⟨rfl, ws, SqL.of g⟩
      | ins c fs => exact hl.elim
      | dic kvs => exact hl.elim
      | ldic kvs => exact hl.elim
  cases m <;> cases x <;> simp only [mTy] at h
  case join.str a =>
    obtain ⟨rfl, _⟩ := rx
    rfl
  case rstrip.str a =>
    obtain ⟨rfl, _⟩ := rx
    rfl
  all_goals try exact absurd rfl hm
  all_goals first | exact h.elim | exact lst _ rfl h
end
end PX

/-! PX: the rules of expressions. -/
namespace PX
open PySem PySem.Spec PyProof.Rows L2
def MonoSE (m : SE) : Prop := ∀ σ s (Q Q' : QE) (E E' : XQ), (∀ d s, Q d s → Q' d s) → (∀ c fs s, E c fs s → E' c fs s) → m σ s Q E → m σ s Q' E'
abbrev SA := Sl → Sto → (List D → Sto → Prop) → XQ → Prop
def MonoSA (m : SA) : Prop := ∀ σ s (Q Q' : List D → Sto → Prop) (E E' : XQ), (∀ d s, Q d s → Q' d s) → (∀ c fs s, E c fs s → E' c fs s) → m σ s Q E → m σ s Q' E'
/-- the reading of a plain meaning -/
def tO (B : Tb) (W : WQ) (m : SE) : TE := fun σV H Q => ∃ (ρ : List Addr) (σ : Sl) (s : Sto), RelL B H ρ σ σV ∧ RelS B H ρ s ∧ m σ s (Lift B H ρ Q) (LiftX B H ρ σV W)
def LiftB (B : Tb) (H : Hp) (ρ : List Addr) (Q : Bool → Hp → Prop) : Bool → Sto → Prop := fun b s' => ∀ ρ' H', ρ <+: ρ' → Keep H H' → RelS B H' ρ' s' → Q b H'
/-- .. as a test -/
def tT (B : Tb) (W : WQ) (m : SE) : TT := fun σV H Q => ∃ (ρ : List Addr) (σ : Sl) (s : Sto), RelL B H ρ σ σV ∧ RelS B H ρ s ∧ m σ s (fun d s1 => obl (tru s1 d) fun b => LiftB B H ρ Q b s1) (LiftX B H ρ σV W)
def tAr (B : Tb) (W : WQ) (m : SA) : TA := fun σV H Q => ∃ (ρ : List Addr) (σ : Sl) (s : Sto), RelL B H ρ σ σV ∧ RelS B H ρ s ∧ m σ s (LiftA B H ρ Q) (LiftX B H ρ σV W)
theorem PE.imp {X : Cx} {e : Expr} {t t' : TE} (h : PE X e t) (i : ∀ σ H Q, t' σ H Q → t σ H Q) : PE X e t' := ⟨fun pins s σ H Q I q => h.run pins s σ H Q I (i σ H Q q)⟩
theorem PT.imp {X : Cx} {e : Expr} {t t' : TT} (h : PT X e t) (i : ∀ σ H Q, t' σ H Q → t σ H Q) : PT X e t' := ⟨fun pins s σ H Q I q => h.run pins s σ H Q I (i σ H Q q)⟩
theorem PW.imp {X : Cx} {e : Expr} {t t' : TT} (h : PW X e t) (i : ∀ σ H Q, t' σ H Q → t σ H Q) : PW X e t' := ⟨fun wh pins s σ H Q I q => h.run wh pins s σ H Q I (i σ H Q q)⟩
theorem PA.imp {X : Cx} {es : List Expr} {t t' : TA} (h : PA X es t) (i : ∀ σ H Q, t' σ H Q → t σ H Q) : PA X es t' := ⟨fun pos pins s σ H Q I q => h.run pos pins s σ H Q I (i σ H Q q)⟩
theorem PS.imp {X : Cx} {st : Stmt} {t t' : TS} (h : PS X st t) (i : ∀ D σ H, t' D σ H → t D σ H) : PS X st t' := ⟨fun pins s σ H D I q => h.run pins s σ H D I (i D σ H q)⟩
theorem PSs.imp {X : Cx} {st : List Stmt} {t t' : TS} (h : PSs X st t) (i : ∀ D σ H, t' D σ H → t D σ H) : PSs X st t' := ⟨fun pins s σ H D I q => h.run pins s σ H D I (i D σ H q)⟩
section
variable {X : Cx} {B : Tb} {W : WQ} (hK : B.K = X.K)
theorem LiftB.mono {H H' : Hp} {ρ ρ' : List Addr} {Q : Bool → Hp → Prop} {b : Bool} {s : Sto} (p : ρ <+: ρ') (k : Keep H H') (h : LiftB B H ρ Q b s) : LiftB B H' ρ' Q b s :=
  fun ρ2 H2 p2 k2 S => h ρ2 H2 (p.trans p2) (k.trans k2) S
theorem LiftB.here {H : Hp} {ρ : List Addr} {Q : Bool → Hp → Prop} {b : Bool} {s : Sto} (h : LiftB B H ρ Q b s) (S : RelS B H ρ s) : Q b H := h ρ H (List.prefix_refl _) (Keep.refl _) S
/-- truth -/
theorem tru_of {H : Hp} {ρ : List Addr} {s : Sto} {d : D} {v : V} {b : Bool} (r : RelD B H ρ d v) (S : RelS B H ρ s) (hK : B.K = X.K) (h : tru s d = some b) : TruV X.K v H b := by
  cases d <;> simp only [tru] at h
  case non => cases h; cases (show v = .non from r); rfl
  case bl c =>
    have e : v = .bl c := r
    subst e
    exact (Option.some.inj h).symm
  case int i => cases h; cases (show v = .int i from r); rfl
  case str a =>
    cases h
    obtain ⟨rfl, z⟩ := r
    refine ⟨by rw [toArr_len]; exact z.1, ?_⟩
    rw [toArr_len]
    cases a <;> simp
    omega
  case tup xs =>
    cases h
    obtain ⟨a, vs, rfl, q, _, d⟩ := r
    refine .inr (.inl ⟨vs, hK ▸ q, ?_⟩)
    have := d.length
    cases xs <;> cases vs <;> simp_all
  case fl xs =>
    cases h
    obtain ⟨a, vs, rfl, q, d⟩ := r
    refine .inl ⟨vs, hK ▸ q.sq, ?_⟩
    have := d.length
    cases xs <;> cases vs <;> simp_all
  case ref n =>
    obtain ⟨a, rfl, q⟩ := r
    split at h
    · rename_i xs hs
      cases h
      obtain ⟨vs, g, d⟩ := S.lstOf q hs
      refine .inl ⟨vs, SqL.of g, ?_⟩
      have := d.length
      cases xs <;> cases vs <;> simp_all
    · cases h
  all_goals cases h
/-! ### leaves -/
theorem pe_lit {e : Expr} {d : D} {v : V} (h : PE X e (tC v)) (r : ∀ H ρ, RelD B H ρ d v) : PE X e (tO B W fun σ s Q E => Q d s) :=
  PE.imp h fun σ H Q ⟨ρ, σ', s, L, S, q⟩ => q.here (r H ρ) S
theorem pe_vr {e : Expr} {i : Nat} (h : PE X e (tVar i)) : PE X e (tO B W fun σ s Q E => match σ[i]? with
    | some (some d) => Q d s
    | _ => False) := PE.imp h fun σ H Q ⟨ρ, σ', s, L, S, q⟩ => by
  dsimp only at q
  split at q
  · rename_i d hd
    obtain ⟨v, h1, h2⟩ := L.at_ i d hd
    exact ⟨v, h1, q.here h2 S⟩
  · exact q.elim
/-! ### two expressions -/
theorem two_imp {ma mb : SE} (Ma : MonoSE ma) (Mb : MonoSE mb) {f : F2} (Mf : ∀ x y s Q Q', (∀ d s, Q d s → Q' d s) → f x y s Q → f x y s Q') {σ : L2.St} {H : Hp} {Q : VK}
    (h : tO B W (fun σ s Q E => ma σ s (fun x s1 => mb σ s1 (fun y s2 => f x y s2 Q) E) E) σ H Q) : tOp (rO B f) (tO B W ma) (tO B W mb) σ H Q := by
  obtain ⟨ρ, σ', s, L, S, q⟩ := h
  refine ⟨ρ, σ', s, L, S, Ma _ _ _ _ _ _ (fun x s1 q ρ1 H1 vx p1 k1 rx S1 => ?_) (fun _ _ _ h => h) q⟩
  refine ⟨ρ1, σ', s1, L.mono p1 k1, S1, Mb _ _ _ _ _ _ (fun y s2 q ρ2 H2 vy p2 k2 ry S2 => ?_) (fun _ _ _ h => LiftX.mono p1 k1 h) q⟩
  exact ⟨x, y, s2, ρ2, rx.mono p2 k2, ry, S2, Mf _ _ _ _ _ (fun d s h => Lift.mono (p1.trans p2) (k1.trans k2) h) q⟩
theorem pe_bin {a b : Expr} {op : Operator} {pos : Pos} {ma mb : SE} (Ma : MonoSE ma) (Mb : MonoSE mb) (ho : OpR X (binaryOp op) (rO B (xBin op))) (ha : PE X a (tO B W ma)) (hb : PE X b (tO B W mb)) :
    PE X (.BinOp a op b pos) (tO B W fun σ s Q E => ma σ s (fun x s1 => mb σ s1 (fun y s2 => xBin op x y s2 Q) E) E) :=
  PE.imp (pe_op ho ha hb) fun σ H Q h => two_imp (f := xBin op) Ma Mb (fun x y s Q Q' hQ h => xBin_mono op x y hQ h) h
theorem xCmp_mono (op : CmpOp) (x y : D) (s : Sto) (Q Q' : QE) (hQ : ∀ d s, Q d s → Q' d s) (h : xCmp op x y s Q) : xCmp op x y s Q' := obl_mono h fun _ h => hQ _ _ h
theorem pe_cm {a b : Expr} {op : CmpOp} {pos : Pos} {ma mb : SE} (Ma : MonoSE ma) (Mb : MonoSE mb) (ho : OpR X (compareOp op) (rO B (xCmp op))) (ha : PE X a (tO B W ma)) (hb : PE X b (tO B W mb)) (hm : behindInMarks op b = false) :
    PE X (.Compare a [op] [b] pos) (tO B W fun σ s Q E => ma σ s (fun x s1 => mb σ s1 (fun y s2 => obl (cmpD s2 op x y) fun c => Q (.bl c) s2) E) E) :=
  PE.imp (pe_cmpR ho ha hb hm) fun σ H Q h => two_imp (f := xCmp op) Ma Mb (xCmp_mono op) h
theorem tT_tO {m : SE} (hm : ∀ σ s Q Q' E, (∀ c s, Q (.bl c) s → Q' (.bl c) s) → m σ s Q E → m σ s Q' E) {σ : L2.St} {H : Hp} {Q : Bool → Hp → Prop} (h : tT B W m σ H Q) : tO B W m σ H fun v H' => ∃ k, v = .bl k ∧ Q k H' := by
  obtain ⟨ρ, σ', s, L, S, q⟩ := h
  refine ⟨ρ, σ', s, L, S, hm _ _ _ _ _ (fun c s1 q ρ1 H1 v p1 k1 r S1 => ?_) q⟩
  exact ⟨c, r, q ρ1 H1 p1 k1 S1⟩
theorem pt_cm {a b : Expr} {op : CmpOp} {pos : Pos} {ma mb : SE} (Ma : MonoSE ma) (Mb : MonoSE mb) (ho : OpR X (compareOp op) (rO B (xCmp op))) (ha : PE X a (tO B W ma)) (hb : PE X b (tO B W mb)) (hm : behindInMarks op b = false) :
    PT X (.Compare a [op] [b] pos) (tT B W fun σ s Q E => ma σ s (fun x s1 => mb σ s1 (fun y s2 => obl (cmpD s2 op x y) fun c => Q (.bl c) s2) E) E) :=
  PT.imp (pt_cmpR ho ha hb hm) fun σ H Q h => two_imp (f := xCmp op) Ma Mb (xCmp_mono op)
    (tT_tO (m := fun σ s Q E => ma σ s (fun x s1 => mb σ s1 (fun y s2 => obl (cmpD s2 op x y) fun c => Q (.bl c) s2) E) E) (fun σ s Q Q' E hQ h => Ma _ _ _ _ _ _ (fun x s1 h => Mb _ _ _ _ _ _ (fun y s2 h => obl_mono h fun _ h => hQ _ _ h) (fun _ _ _ h => h) h) (fun _ _ _ h => h) h) h)
theorem chn_imp {op op' : CmpOp} {ma mb mc : SE} (Ma : MonoSE ma) (Mb : MonoSE mb) (Mc : MonoSE mc) {σ : L2.St} {H : Hp} {Q : VK}
    (h : tO B W (fun σ s Q E => ma σ s (fun x s1 => mb σ s1 (fun y s2 => br (cmpD s2 op x y) (mc σ s2 (fun z s3 => obl (cmpD s3 op' y z) fun c => Q (.bl c) s3) E) (Q (.bl false) s2)) E) E) σ H Q) :
    tChain (rO B (xCmp op)) (rO B (xCmp op')) (tO B W ma) (tO B W mb) (tO B W mc) σ H Q := by
  obtain ⟨ρ, σ', s, L, S, q⟩ := h
  refine ⟨ρ, σ', s, L, S, Ma _ _ _ _ _ _ (fun x s1 q ρ1 H1 vx p1 k1 rx S1 => ?_) (fun _ _ _ h => h) q⟩
  refine ⟨ρ1, σ', s1, L.mono p1 k1, S1, Mb _ _ _ _ _ _ (fun y s2 q ρ2 H2 vy p2 k2 ry S2 => ?_) (fun _ _ _ h => LiftX.mono p1 k1 h) q⟩
  refine ⟨x, y, s2, ρ2, rx.mono p2 k2, ry, S2, ?_⟩
  unfold xCmp
  cases e : cmpD s2 op x y with
  | none => rw [e] at q; exact q.elim
  | some c =>
    rw [e] at q
    intro ρ3 H3 v3 p3 k3 r3 S3
    refine ⟨c, r3, ?_⟩
    have P := (p1.trans p2).trans p3
    have KK := (k1.trans k2).trans k3
    cases c with
    | false =>
      rw [if_neg Bool.false_ne_true]
      exact Lift.here (Lift.mono P KK q) rfl S3
    | true =>
      rw [if_pos rfl]
      refine ⟨ρ3, σ', s2, L.mono P KK, S3, Mc _ _ _ _ _ _ (fun z s4 q ρ4 H4 vz p4 k4 rz S4 => ?_) (fun _ _ _ h => LiftX.mono P KK h) q⟩
      exact ⟨y, z, s4, ρ4, ry.mono (p3.trans p4) (k3.trans k4), rz, S4, obl_mono q fun _ h => Lift.mono (P.trans p4) (KK.trans k4) h⟩
theorem pe_chn {a b c : Expr} {op op' : CmpOp} {pos : Pos} {ma mb mc : SE} (Ma : MonoSE ma) (Mb : MonoSE mb) (Mc : MonoSE mc) (ho : OpR X (compareOp op) (rO B (xCmp op))) (ho' : OpR X (compareOp op') (rO B (xCmp op')))
    (ha : PE X a (tO B W ma)) (hb : PE X b (tO B W mb)) (hc : PE X c (tO B W mc)) (hm : lastMarks [op, op'] [b, c] = false) :
    PE X (.Compare a [op, op'] [b, c] pos) (tO B W fun σ s Q E => ma σ s (fun x s1 => mb σ s1 (fun y s2 => br (cmpD s2 op x y) (mc σ s2 (fun z s3 => obl (cmpD s3 op' y z) fun c => Q (.bl c) s3) E) (Q (.bl false) s2)) E) E) :=
  PE.imp (pe_chain ho ho' ha hb hc hm) fun σ H Q h => chn_imp Ma Mb Mc h
theorem pt_chn {a b c : Expr} {op op' : CmpOp} {pos : Pos} {ma mb mc : SE} (Ma : MonoSE ma) (Mb : MonoSE mb) (Mc : MonoSE mc) (ho : OpR X (compareOp op) (rO B (xCmp op))) (ho' : OpR X (compareOp op') (rO B (xCmp op')))
    (ha : PE X a (tO B W ma)) (hb : PE X b (tO B W mb)) (hc : PE X c (tO B W mc)) (hm : lastMarks [op, op'] [b, c] = false) :
    PT X (.Compare a [op, op'] [b, c] pos) (tT B W fun σ s Q E => ma σ s (fun x s1 => mb σ s1 (fun y s2 => br (cmpD s2 op x y) (mc σ s2 (fun z s3 => obl (cmpD s3 op' y z) fun c => Q (.bl c) s3) E) (Q (.bl false) s2)) E) E) :=
  PT.imp (pt_chain ho ho' ha hb hc hm) fun σ H Q h => chn_imp Ma Mb Mc
    (tT_tO (m := fun σ s Q E => ma σ s (fun x s1 => mb σ s1 (fun y s2 => br (cmpD s2 op x y) (mc σ s2 (fun z s3 => obl (cmpD s3 op' y z) fun c => Q (.bl c) s3) E) (Q (.bl false) s2)) E) E) (fun σ s Q Q' E hQ h => Ma _ _ _ _ _ _ (fun x s1 h => Mb _ _ _ _ _ _ (fun y s2 h => br_mono h (fun h => Mc _ _ _ _ _ _ (fun z s3 h => obl_mono h fun _ h => hQ _ _ h) (fun _ _ _ h => h) h) (hQ _ _)) (fun _ _ _ h => h) h) (fun _ _ _ h => h) h) h)
theorem pe_ixx {a b : Expr} {pos : Pos} {ma mb : SE} (Ma : MonoSE ma) (Mb : MonoSE mb) (hK : B.K = X.K) (hP : B.pw = X.w.params) (hu : X.A.units + 65 < cLine) (ha : PE X a (tO B W ma)) (hb : PE X b (tO B W mb)) (hs : PlainIx b) :
    PE X (.Subscript a b pos) (tO B W fun σ s Q E => ma σ s (fun x s1 => mb σ s1 (fun y s2 => xIx x y s2 Q) E) E) :=
  PE.imp (pe_ix (ix_ok hK hP hu) ha hb hs) fun σ H Q h => two_imp (f := xIx) Ma Mb (fun x y s Q Q' hQ h => xIx_mono x y hQ h) h
theorem pe_ng {a : Expr} {pos : Pos} {ma : SE} (Ma : MonoSE ma) (ha : PE X a (tO B W ma)) : PE X (.UnaryOp .USub a pos) (tO B W fun σ s Q E => ma σ s (fun x s1 => match x with
    | .int i => Q (.int (-i)) s1
    | _ => False) E) := PE.imp (pe_un un_neg ha) fun σ H Q ⟨ρ, σ', s, L, S, q⟩ => ⟨ρ, σ', s, L, S, Ma _ _ _ _ _ _ (fun x s1 q ρ1 H1 vx p1 k1 rx S1 => by
  cases x <;> try exact (show False from q).elim
  rename_i i
  cases int_of rx
  exact ⟨i, rfl, Lift.here (Lift.mono p1 k1 q) rfl S1⟩) (fun _ _ _ h => h) q⟩
/-! ### and, or, not, if -/
section
include hK
theorem br_lift {H H' : Hp} {ρ ρ' : List Addr} {o : Option Bool} {A A' : Prop} (h : br o A A') : ∃ b, o = some b ∧ if b = true then A else A' := by
  match o, h with
  | some true, h => exact ⟨true, rfl, by rw [if_pos rfl]; exact h⟩
  | some false, h => exact ⟨false, rfl, by rw [if_neg Bool.false_ne_true]; exact h⟩
theorem pe_an {a b : Expr} {rest : List Expr} {pos : Pos} {ma mb : SE} (Ma : MonoSE ma) (Mb : MonoSE mb) (ha : PE X a (tO B W ma)) (hb : PE X (.BoolOp .And (b :: rest) pos) (tO B W mb)) :
    PE X (.BoolOp .And (a :: b :: rest) pos) (tO B W fun σ s Q E => ma σ s (fun x s1 => br (tru s1 x) (mb σ s1 Q E) (Q x s1)) E) :=
  PE.imp (pe_andT ha hb) fun σ H Q ⟨ρ, σ', s, L, S, q⟩ => ⟨ρ, σ', s, L, S, Ma _ _ _ _ _ _ (fun x s1 q ρ1 H1 vx p1 k1 rx S1 => by
    obtain ⟨c, e, q⟩ := br_lift (H := H) (H' := H) (ρ := ρ) (ρ' := ρ) hK q
    refine ⟨c, tru_of rx S1 hK e, ?_⟩
    cases c with
    | true =>
      rw [if_pos rfl] at q ⊢
      exact ⟨ρ1, σ', s1, L.mono p1 k1, S1, Mb _ _ _ _ _ _ (fun _ _ h => Lift.mono p1 k1 h) (fun _ _ _ h => LiftX.mono p1 k1 h) q⟩
    | false =>
      rw [if_neg Bool.false_ne_true] at q ⊢
      exact Lift.here (Lift.mono p1 k1 q) rx S1) (fun _ _ _ h => h) q⟩
theorem pe_orr {a b : Expr} {rest : List Expr} {pos : Pos} {ma mb : SE} (Ma : MonoSE ma) (Mb : MonoSE mb) (ha : PE X a (tO B W ma)) (hb : PE X (.BoolOp .Or (b :: rest) pos) (tO B W mb)) :
    PE X (.BoolOp .Or (a :: b :: rest) pos) (tO B W fun σ s Q E => ma σ s (fun x s1 => br (tru s1 x) (Q x s1) (mb σ s1 Q E)) E) :=
  PE.imp (pe_orT ha hb) fun σ H Q ⟨ρ, σ', s, L, S, q⟩ => ⟨ρ, σ', s, L, S, Ma _ _ _ _ _ _ (fun x s1 q ρ1 H1 vx p1 k1 rx S1 => by
    obtain ⟨c, e, q⟩ := br_lift (H := H) (H' := H) (ρ := ρ) (ρ' := ρ) hK q
    refine ⟨c, tru_of rx S1 hK e, ?_⟩
    cases c with
    | false =>
      rw [if_neg Bool.false_ne_true] at q ⊢
      exact ⟨ρ1, σ', s1, L.mono p1 k1, S1, Mb _ _ _ _ _ _ (fun _ _ h => Lift.mono p1 k1 h) (fun _ _ _ h => LiftX.mono p1 k1 h) q⟩
    | true =>
      rw [if_pos rfl] at q ⊢
      exact Lift.here (Lift.mono p1 k1 q) rx S1) (fun _ _ _ h => h) q⟩
theorem pe_nt {a : Expr} {pos : Pos} {ma : SE} (Ma : MonoSE ma) (ha : PE X a (tO B W ma)) : PE X (.UnaryOp .Not a pos) (tO B W fun σ s Q E => ma σ s (fun x s1 => obl (tru s1 x) fun c => Q (.bl (!c)) s1) E) :=
  PE.imp (pe_notT ha) fun σ H Q ⟨ρ, σ', s, L, S, q⟩ => ⟨ρ, σ', s, L, S, Ma _ _ _ _ _ _ (fun x s1 q ρ1 H1 vx p1 k1 rx S1 => by
    cases e : tru s1 x with
    | none => rw [e] at q; exact q.elim
    | some c =>
      rw [e] at q
      exact ⟨c, tru_of rx S1 hK e, Lift.here (Lift.mono p1 k1 q) rfl S1⟩) (fun _ _ _ h => h) q⟩
theorem pe_it {c a b : Expr} {pos : Pos} {mc ma mb : SE} (Mc : MonoSE mc) (Ma : MonoSE ma) (Mb : MonoSE mb) (hc : PT X c (tT B W mc)) (ha : PE X a (tO B W ma)) (hb : PE X b (tO B W mb)) :
    PE X (.IfExp c a b pos) (tO B W fun σ s Q E => mc σ s (fun x s1 => br (tru s1 x) (ma σ s1 Q E) (mb σ s1 Q E)) E) :=
  PE.imp (pe_ifExp hc ha hb) fun σ H Q ⟨ρ, σ', s, L, S, q⟩ => ⟨ρ, σ', s, L, S, Mc _ _ _ _ _ _ (fun x s1 q => by
    obtain ⟨c, e, q⟩ := br_lift (H := H) (H' := H) (ρ := ρ) (ρ' := ρ) hK q
    rw [e]
    intro ρ1 H1 p1 k1 S1
    cases c with
    | true =>
      rw [if_pos rfl] at q ⊢
      exact ⟨ρ1, σ', s1, L.mono p1 k1, S1, Ma _ _ _ _ _ _ (fun _ _ h => Lift.mono p1 k1 h) (fun _ _ _ h => LiftX.mono p1 k1 h) q⟩
    | false =>
      rw [if_neg Bool.false_ne_true] at q ⊢
      exact ⟨ρ1, σ', s1, L.mono p1 k1, S1, Mb _ _ _ _ _ _ (fun _ _ h => Lift.mono p1 k1 h) (fun _ _ _ h => LiftX.mono p1 k1 h) q⟩) (fun _ _ _ h => h) q⟩
/-- .. as tests -/
theorem pt_tr {a : Expr} {ma : SE} (Ma : MonoSE ma) (ha : PE X a (tO B W ma)) (he : ∀ whole, isTrue a X.env whole = (do let v ← whole; standAt a.pos; holding [v] (truthy v))) : PT X a (tT B W ma) :=
  PT.imp (pt_truth ha he) fun σ H Q ⟨ρ, σ', s, L, S, q⟩ => ⟨ρ, σ', s, L, S, Ma _ _ _ _ _ _ (fun x s1 q ρ1 H1 vx p1 k1 rx S1 => by
    cases e : tru s1 x with
    | none => rw [e] at q; exact q.elim
    | some c =>
      rw [e] at q
      exact ⟨c, tru_of rx S1 hK e, LiftB.here (LiftB.mono p1 k1 q) S1⟩) (fun _ _ _ h => h) q⟩
theorem obl_some {o : Option Bool} {b : Bool} {K : Bool → Prop} (e : o = some b) (h : obl o K) : K b := by rw [e] at h; exact h
theorem pw_an {a b : Expr} {rest : List Expr} {pos : Pos} {ma mb : SE} (Ma : MonoSE ma) (Mb : MonoSE mb) (ha : PT X a (tT B W ma)) (hb : PW X (.BoolOp .And (b :: rest) pos) (tT B W mb)) :
    PW X (.BoolOp .And (a :: b :: rest) pos) (tT B W fun σ s Q E => ma σ s (fun x s1 => br (tru s1 x) (mb σ s1 Q E) (Q x s1)) E) :=
  PW.imp (pw_and ha hb) fun σ H Q ⟨ρ, σ', s, L, S, q⟩ => ⟨ρ, σ', s, L, S, Ma _ _ _ _ _ _ (fun x s1 q => by
    obtain ⟨c, e, q⟩ := br_lift (H := H) (H' := H) (ρ := ρ) (ρ' := ρ) hK q
    rw [e]
    intro ρ1 H1 p1 k1 S1
    cases c with
    | true =>
      rw [if_pos rfl] at q ⊢
      exact ⟨ρ1, σ', s1, L.mono p1 k1, S1, Mb _ _ _ _ _ _ (fun _ _ h => obl_mono h fun _ h => LiftB.mono p1 k1 h) (fun _ _ _ h => LiftX.mono p1 k1 h) q⟩
    | false =>
      rw [if_neg Bool.false_ne_true] at q ⊢
      exact LiftB.here (LiftB.mono p1 k1 (obl_some hK e q)) S1) (fun _ _ _ h => h) q⟩
theorem pw_orr {a b : Expr} {rest : List Expr} {pos : Pos} {ma mb : SE} (Ma : MonoSE ma) (Mb : MonoSE mb) (ha : PT X a (tT B W ma)) (hb : PW X (.BoolOp .Or (b :: rest) pos) (tT B W mb)) :
    PW X (.BoolOp .Or (a :: b :: rest) pos) (tT B W fun σ s Q E => ma σ s (fun x s1 => br (tru s1 x) (Q x s1) (mb σ s1 Q E)) E) :=
  PW.imp (pw_or ha hb) fun σ H Q ⟨ρ, σ', s, L, S, q⟩ => ⟨ρ, σ', s, L, S, Ma _ _ _ _ _ _ (fun x s1 q => by
    obtain ⟨c, e, q⟩ := br_lift (H := H) (H' := H) (ρ := ρ) (ρ' := ρ) hK q
    rw [e]
    intro ρ1 H1 p1 k1 S1
    cases c with
    | false =>
      rw [if_neg Bool.false_ne_true] at q ⊢
      exact ⟨ρ1, σ', s1, L.mono p1 k1, S1, Mb _ _ _ _ _ _ (fun _ _ h => obl_mono h fun _ h => LiftB.mono p1 k1 h) (fun _ _ _ h => LiftX.mono p1 k1 h) q⟩
    | true =>
      rw [if_pos rfl] at q ⊢
      exact LiftB.here (LiftB.mono p1 k1 (obl_some hK e q)) S1) (fun _ _ _ h => h) q⟩
theorem pt_nt {a : Expr} {pos : Pos} {ma : SE} (Ma : MonoSE ma) (ha : PT X a (tT B W ma)) : PT X (.UnaryOp .Not a pos) (tT B W fun σ s Q E => ma σ s (fun x s1 => obl (tru s1 x) fun c => Q (.bl (!c)) s1) E) :=
  PT.imp (pt_not ha) fun σ H Q ⟨ρ, σ', s, L, S, q⟩ => ⟨ρ, σ', s, L, S, Ma _ _ _ _ _ _ (fun x s1 q => obl_mono q fun c h => h) (fun _ _ _ h => h) q⟩
end
/-! ### argument lists, displays, slices -/
theorem pa_nl : PA X [] (tAr B W fun σ s Q E => Q [] s) := PA.imp pa_nil fun σ H Q ⟨ρ, σ', s, L, S, q⟩ => q ρ H [] (List.prefix_refl _) (Keep.refl _) rfl S
theorem pa_cn {e : Expr} {es : List Expr} {me : SE} {mr : SA} (Me : MonoSE me) (Mr : MonoSA mr) (he : PE X e (tO B W me)) (hr : PA X es (tAr B W mr)) (hs : starEach (e :: es) X.env = (false, eval e X.env) :: starEach es X.env) :
    PA X (e :: es) (tAr B W fun σ s Q E => me σ s (fun x s1 => mr σ s1 (fun xs s2 => Q (x :: xs) s2) E) E) :=
  PA.imp (pa_cons he hr hs) fun σ H Q ⟨ρ, σ', s, L, S, q⟩ => ⟨ρ, σ', s, L, S, Me _ _ _ _ _ _ (fun x s1 q ρ1 H1 vx p1 k1 rx S1 =>
    ⟨ρ1, σ', s1, L.mono p1 k1, S1, Mr _ _ _ _ _ _ (fun xs s2 q ρ2 H2 vs p2 k2 rs S2 => q ρ2 H2 (vx :: vs) (p1.trans p2) (k1.trans k2) ⟨vx, vs, rfl, rx.mono p2 k2, rs⟩ S2) (fun _ _ _ h => LiftX.mono p1 k1 h) q⟩) (fun _ _ _ h => h) q⟩
theorem pe_tp {es : List Expr} {x1 : Nat} {pos : Pos} {m : SA} (M : MonoSA m) (h : PA X es (tAr B W m)) : PE X (.Tuple es x1 pos) (tO B W fun σ s Q E => m σ s (fun vs s1 => vs.length ≤ sizeLine ∧ Q (.tup vs) s1) E) :=
  PE.imp (pe_tup h) fun σ H Q ⟨ρ, σ', s, L, S, q⟩ => ⟨ρ, σ', s, L, S, M _ _ _ _ _ _ (fun ds s1 q ρ1 H1 vs p1 k1 rs S1 =>
    ⟨by rw [← rs.length]; exact q.1, fun p hp => tup_new S1 rs q.1 (Lift.mono p1 k1 q.2) hp⟩) (fun _ _ _ h => h) q⟩
theorem pe_ls {es : List Expr} {pos : Pos} {m : SA} (M : MonoSA m) (h : PA X es (tAr B W m)) : PE X (.List es pos) (tO B W fun σ s Q E => m σ s (fun vs s1 => vs.length ≤ sizeLine ∧ mk (.lst vs) s1 Q) E) :=
  PE.imp (pe_lst h) fun σ H Q ⟨ρ, σ', s, L, S, q⟩ => ⟨ρ, σ', s, L, S, M _ _ _ _ _ _ (fun ds s1 q ρ1 H1 vs p1 k1 rs S1 =>
    ⟨by rw [← rs.length]; exact q.1, fun p hp => mk_new S1 rs (mk_mono (fun _ _ h => Lift.mono p1 k1 h) q.2) hp⟩) (fun _ _ _ h => h) q⟩
/-- a slice's part -/
def tPo (B : Tb) (W : WQ) (m : SE) : TO := fun σV H Q => ∃ (ρ : List Addr) (σ : Sl) (s : Sto), RelL B H ρ σ σV ∧ RelS B H ρ s ∧ m σ s (fun d s1 => ∃ lo, partD d = some lo ∧ ∀ ρ' H', ρ <+: ρ' → Keep H H' → RelS B H' ρ' s1 → Q lo H') (LiftX B H ρ σV W)
theorem PO.imp {X : Cx} {e : Option Expr} {t t' : TO} (h : PO X e t) (i : ∀ σ H Q, t' σ H Q → t σ H Q) : PO X e t' := ⟨fun pins s σ H Q I q => h.run pins s σ H Q I (i σ H Q q)⟩
theorem po_no : PO X none (tPo B W fun σ s Q E => Q (.kd 0) s) := PO.imp po_none fun σ H Q ⟨ρ, σ', s, L, S, lo, e, q⟩ => by
  cases e
  exact q ρ H (List.prefix_refl _) (Keep.refl _) S
theorem po_so {e : Expr} {m : SE} (M : MonoSE m) (h : PE X e (tO B W m)) : PO X (some e) (tPo B W m) := PO.imp (po_some h) fun σ H Q ⟨ρ, σ', s, L, S, q⟩ =>
  ⟨ρ, σ', s, L, S, M _ _ _ _ _ _ (fun d s1 q ρ1 H1 v p1 k1 r S1 => by
    obtain ⟨lo, e, q⟩ := q
    cases d <;> simp only [partD] at e
    case int i =>
      cases e
      exact ⟨i, r, q ρ1 H1 p1 k1 S1⟩
    case kd n => exact (show False from r).elim
    all_goals cases e) (fun _ _ _ h => h) q⟩
theorem pe_sl {a : Expr} {lo hi : Option Expr} {p2 pos : Pos} {ma ml mh : SE} (Ma : MonoSE ma) (Ml : MonoSE ml) (Mh : MonoSE mh) (hK : B.K = X.K) (ha : PE X a (tO B W ma)) (hl : PO X lo (tPo B W ml)) (hh : PO X hi (tPo B W mh)) :
    PE X (.Subscript a (.Slice lo hi none p2) pos) (tO B W fun σ s Q E => ma σ s (fun x s1 => ml σ s1 (fun y s2 => (partD y).isSome = true ∧ mh σ s2 (fun z s3 => (partD z).isSome = true ∧ xSl x y z s3 Q) E) E) E) :=
  PE.imp (pe_slice (sl_ok hK) ha hl hh) fun σ H Q ⟨ρ, σ', s, L, S, q⟩ => ⟨ρ, σ', s, L, S, Ma _ _ _ _ _ _ (fun x s1 q ρ1 H1 vx p1 k1 rx S1 =>
    ⟨ρ1, σ', s1, L.mono p1 k1, S1, Ml _ _ _ _ _ _ (fun y s2 q => by
      obtain ⟨l, el⟩ := Option.isSome_iff_exists.mp q.1
      refine ⟨l, el, fun ρ2 H2 p2 k2 S2 => ⟨ρ2, σ', s2, L.mono (p1.trans p2) (k1.trans k2), S2, Mh _ _ _ _ _ _ (fun z s3 q => ?_) (fun _ _ _ h => LiftX.mono (p1.trans p2) (k1.trans k2) h) q.2⟩⟩
      obtain ⟨u, eu⟩ := Option.isSome_iff_exists.mp q.1
      refine ⟨u, eu, fun ρ3 H3 p3 k3 S3 => ⟨x, y, z, s3, ρ3, rx.mono (p2.trans p3) (k2.trans k3), el, eu, S3, xSl_mono _ _ _ (fun _ _ h => Lift.mono ((p1.trans p2).trans p3) ((k1.trans k2).trans k3) h) q.2⟩⟩) (fun _ _ _ h => LiftX.mono p1 k1 h) q⟩) (fun _ _ _ h => h) q⟩
/-! ### calls -/
theorem tcb_imp {f : BF} {m : SA} (M : MonoSA m) {σ : L2.St} {H : Hp} {Q : VK} (h : tO B W (fun σ s Q E => m σ s (fun vs s1 => xBlt f vs s1 Q) E) σ H Q) : tCB (rB B f) (tAr B W m) σ H Q := by
  obtain ⟨ρ, σ', s, L, S, q⟩ := h
  exact ⟨ρ, σ', s, L, S, M _ _ _ _ _ _ (fun ds s1 q ρ1 H1 vs p1 k1 rs S1 => ⟨ds, s1, ρ1, rs, S1, xBlt_mono f ds (fun _ _ h => Lift.mono p1 k1 h) q⟩) (fun _ _ _ h => h) q⟩
theorem bm_imp {mf : MF} {T : String} (hT : T = mT mf) (hne : mT mf ≠ "dict") {mo : SE} {m : SA} (Mo : MonoSE mo) (M : MonoSA m) {σ : L2.St} {H : Hp} {Q : VK}
    (h : tO B W (fun σ s Q E => mo σ s (fun x s1 => mTy mf x s1 ∧ m σ s1 (fun vs s2 => xMeth mf x vs s2 Q) E) E) σ H Q) : tBM X.K T (rM B mf) (tO B W mo) (tAr B W m) σ H Q := by
  obtain ⟨ρ, σ', s, L, S, q⟩ := h
  refine ⟨ρ, σ', s, L, S, Mo _ _ _ _ _ _ (fun x s1 q ρ1 H1 vx p1 k1 rx S1 => ⟨?_, ?_⟩) (fun _ _ _ h => h) q⟩
  · rw [hT]
    exact mTy_ok rx S1 q.1 hne
  · exact ⟨ρ1, σ', s1, L.mono p1 k1, S1, M _ _ _ _ _ _ (fun ds s2 q ρ2 H2 vs p2 k2 rs S2 => ⟨x, ds, s2, ρ2, rx.mono p2 k2, rs, S2, xMeth_mono mf x ds (fun _ _ h => Lift.mono (p1.trans p2) (k1.trans k2) h) q⟩) (fun _ _ _ h => LiftX.mono p1 k1 h) q.2⟩
theorem bm0_imp {mf : MF} {T : String} (hT : T = mT mf) (hne : mT mf ≠ "dict") {mo : SE} (Mo : MonoSE mo) {σ : L2.St} {H : Hp} {Q : VK}
    (h : tO B W (fun σ s Q E => mo σ s (fun x s1 => mTy mf x s1 ∧ xMeth mf x [] s1 Q) E) σ H Q) : tBM0 X.K T (rM B mf) (tO B W mo) σ H Q := by
  obtain ⟨ρ, σ', s, L, S, q⟩ := h
  refine ⟨ρ, σ', s, L, S, Mo _ _ _ _ _ _ (fun x s1 q ρ1 H1 vx p1 k1 rx S1 => ⟨?_, ?_⟩) (fun _ _ _ h => h) q⟩
  · rw [hT]
    exact mTy_ok rx S1 q.1 hne
  · exact ⟨x, [], s1, ρ1, rx, rfl, S1, xMeth_mono mf x [] (fun _ _ h => Lift.mono p1 k1 h) q.2⟩
/-- d.get(k, x) -/
theorem pe_get2 {o e : Expr} {es : List Expr} {ap cp : Pos} {mo : SE} {m : SA} (Mo : MonoSE mo) (M : MonoSA m) (hK : B.K = X.K) (hP : B.pw = X.w.params) (hu : X.A.units + 65 < cLine) (ho : PE X o (tO B W mo)) (ha : PA X (e :: es) (tAr B W m))
    (hbase : attributeBase o "get" X.env (eval o X.env) = eval o X.env)
    (hfew : ((backTo cp (starEach (e :: es) X.env)).all (fun x => !x.1) && (backToKw cp (keywordEach [] X.env)).all (fun x => x.1.isSome)
      && decide ((e :: es).length + ([] : List Keyword).length + (if ([] : List Keyword).isEmpty then 0 else 1) < 30)) = true)
    (hline : (ap.endLine == cp.line) = true) (hs : starEach (e :: es) X.env = (false, eval e X.env) :: starEach es X.env) (hplain : (backTo cp (starEach es X.env)).any (·.1) = false) :
    PE X (.Call (.Attribute o "get" ap) (e :: es) [] cp) (tO B W fun σ s Q E => mo σ s (fun x s1 => mTy .get2 x s1 ∧ m σ s1 (fun vs s2 => xMeth .get2 x vs s2 Q) E) E) := by
  refine ⟨fun pins s σ H Q I h => ?_⟩
  obtain ⟨ρ, σ', s0, L, S, q⟩ := h
  have h0 : tO B W mo σ H (fun v H1 => (∃ (ρ : List Addr) (x : D) (kvs : List (D × D)) (a : Addr), v = .ref a ∧ DicV B H1 ρ x kvs a) ∧ tAr B W m σ H1 (fun vs H2 => rM B .get2 v vs H2 Q)) := by
    refine ⟨ρ, σ', s0, L, S, Mo _ _ _ _ _ _ (fun x s1 q ρ1 H1 vx p1 k1 rx S1 => ⟨?_, ?_⟩) (fun _ _ _ h => h) q⟩
    · obtain ⟨kvs, hd⟩ := Option.isSome_iff_exists.mp (show (dicOf s1 x).isSome = true from q.1)
      obtain ⟨a, e, g⟩ := dic_of S1 rx hd
      exact ⟨ρ1, x, kvs, a, e, g⟩
    · exact ⟨ρ1, σ', s1, L.mono p1 k1, S1, M _ _ _ _ _ _ (fun ds s2 q ρ2 H2 vs p2 k2 rs S2 => ⟨x, ds, s2, ρ2, rx.mono p2 k2, rs, S2, xMeth_mono .get2 x ds (fun _ _ h => Lift.mono (p1.trans p2) (k1.trans k2) h) q⟩) (fun _ _ _ h => LiftX.mono p1 k1 h) q.2⟩
  refine wpAny_Call_method_late hbase hfew hline rfl (thn (ho.run pins s σ H _ I h0) fun v s1 ⟨x, H1, I1, r1, ⟨ρ1, x1, kvs, a, ex, g⟩, q1⟩ => ?_)
  subst ex
  obtain rfl : v = Value.ref a := r1
  obtain ⟨h1, h2⟩ := dx_type hK hP I1 g
  refine ⟨"dict", _, PySem.F.plainAttrs_dict, PySem.F.slot_dict_get, PySem.F.type_dict_get, h1, h2, ?_⟩
  have hA := ha.run cp pins s1 σ H1 _ I1 q1
  rw [hs] at hA ⊢
  refine Calls.callWith_builtin (by show (false || (backTo cp (starEach es X.env)).any (·.1)) = false; rw [hplain] <;> rfl) (Calls.evalArgs_plain ?_)
  exact thn hA fun us s2 ⟨vs, H2, I2, r2, q2⟩ => mf_get2 hK hP hu pins s2 σ H2 (.ref a) vs _ us Q I2 rfl r2 q2
/-! ### a display of a dict -/
def flatP : List (SE × SE) → SA
  | [], σ, s, Q, E => Q [] s
  | (mk, mv) :: r, σ, s, Q, E => mk σ s (fun x s1 => mv σ s1 (fun y s2 => flatP r σ s2 (fun xs s3 => Q (x :: y :: xs) s3) E) E) E
theorem flatP_mono : ∀ {ms : List (SE × SE)}, (∀ p ∈ ms, MonoSE p.1 ∧ MonoSE p.2) → MonoSA (flatP ms)
  | [], _, σ, s, Q, Q', E, E', hQ, hE, h => hQ _ _ h
  | (a, b) :: r, hm, σ, s, Q, Q', E, E', hQ, hE, h =>
    (hm (a, b) (by simp)).1 _ _ _ _ _ _ (fun x s1 h => (hm (a, b) (by simp)).2 _ _ _ _ _ _ (fun y s2 h => flatP_mono (fun p hp => hm p (by simp [hp])) _ _ _ _ _ _ (fun xs s3 h => hQ _ _ h) hE h) hE h) hE h
def unP : List (V × V) → List V
  | [] => []
  | (a, b) :: r => a :: b :: unP r
theorem pairs_imp : ∀ {ms : List (SE × SE)}, (∀ p ∈ ms, MonoSE p.1 ∧ MonoSE p.2) → ∀ {σV : L2.St} {H : Hp} {ρ : List Addr} {σ : Sl} {s : Sto} {Q : List (V × V) → Hp → Prop}, RelL B H ρ σ σV → RelS B H ρ s →
    flatP ms σ s (fun ds s' => ∀ ρ' H' ps, ρ <+: ρ' → Keep H H' → RelDs B H' ρ' ds (unP ps) → RelS B H' ρ' s' → Q ps H') (LiftX B H ρ σV W) → tPairs (ms.map fun p => (tO B W p.1, tO B W p.2)) σV H Q
  | [], _, σV, H, ρ, σ, s, Q, L, S, h => h ρ H [] (List.prefix_refl _) (Keep.refl _) rfl S
  | (a, b) :: r, hm, σV, H, ρ, σ, s, Q, L, S, h => by
    refine ⟨ρ, σ, s, L, S, (hm (a, b) (by simp)).1 _ _ _ _ _ _ (fun x s1 h ρ1 H1 vx p1 k1 rx S1 => ?_) (fun _ _ _ h => h) h⟩
    refine ⟨ρ1, σ, s1, L.mono p1 k1, S1, (hm (a, b) (by simp)).2 _ _ _ _ _ _ (fun y s2 h ρ2 H2 vy p2 k2 ry S2 => ?_) (fun _ _ _ h => LiftX.mono p1 k1 h) h⟩
    refine pairs_imp (fun p hp => hm p (by simp [hp])) (L.mono (p1.trans p2) (k1.trans k2)) S2 (flatP_mono (fun p hp => hm p (by simp [hp])) _ _ _ _ _ _ (fun ds s3 h ρ3 H3 ps p3 k3 rs S3 => ?_) (fun _ _ _ h => LiftX.mono (p1.trans p2) (k1.trans k2) h) h)
    exact h ρ3 H3 ((vx, vy) :: ps) ((p1.trans p2).trans p3) ((k1.trans k2).trans k3) ⟨vx, _, rfl, rx.mono (p2.trans p3) (k2.trans k3), vy, _, rfl, ry.mono p3 k3, rs⟩ S3
theorem pair_rel {H : Hp} {ρ : List Addr} : ∀ {ps : List (V × V)} {ds : List D} {kvs : List (D × D)}, RelDs B H ρ ds (unP ps) → pairUp ds = some kvs → ∃ l : List (Key × V), ps = l.map (fun kv => (kV kv.1, kv.2)) ∧ RelKV B H ρ kvs l
  | [], ds, kvs, r, h => by
    cases ds with
    | nil => cases h; exact ⟨[], rfl, rfl⟩
    | cons x r' => obtain ⟨_, _, e, _⟩ := r; cases e
  | (a, b) :: ps, ds, kvs, r, h => by
    cases ds with
    | nil => cases (show a :: b :: unP ps = [] from r)
    | cons x r' =>
      obtain ⟨v, w, e, rx, r⟩ := r
      cases e
      cases r' with
      | nil => cases (show b :: unP ps = [] from r)
      | cons y r' =>
        obtain ⟨v, w, e, ry, r⟩ := r
        cases e
        simp only [pairUp] at h
        split at h
        · rename_i hk
          cases e2 : pairUp r' with
          | none => rw [e2] at h; cases h
          | some kvs' =>
            rw [e2] at h
            cases h
            obtain ⟨l, rfl, q⟩ := pair_rel r e2
            obtain ⟨k, h1, rfl⟩ := keyV_of rx hk
            exact ⟨(k, b) :: l, rfl, k, b, l, rfl, h1, ry, q⟩
        · cases h
theorem kv_merge {H : Hp} {ρ : List Addr} : ∀ {kvs : List (D × D)} {l : List (Key × V)} {acc : List (D × D)} {al : List (Key × V)}, RelKV B H ρ kvs l → RelKV B H ρ acc al → RelKV B H ρ (kvs.foldl (fun acc p => dPut acc p.1 p.2) acc) (mergeK al l)
  | [], l, acc, al, h, ha => by rw [show l = [] from h]; exact ha
  | (x, d) :: r, l, acc, al, h, ha => by
    obtain ⟨k', v, l', rfl, h1, h2, h3⟩ := h
    show RelKV B H ρ (r.foldl (fun acc p => dPut acc p.1 p.2) (dPut acc x d)) (mergeK (putK al k' v) l')
    exact kv_merge h3 (kv_put h1 h2 ha)
theorem pe_dct {keys : List (Option Expr)} {vals : List Expr} {pos : Pos} {ms : List (SE × SE)} (hm : ∀ p ∈ ms, MonoSE p.1 ∧ MonoSE p.2) (h : PPs X pos keys vals (ms.map fun p => (tO B W p.1, tO B W p.2))) (hall : keys.all (·.isSome) = true) (hl : keys.length = vals.length) (h0 : keys ≠ []) (h15 : keys.length ≤ 15) :
    PE X (.Dict keys vals pos) (tO B W fun σ s Q E => flatP ms σ (s ++ [.dic []]) (fun vs s1 => match pairUp vs with
      | some kvs => s1[s.length]? = some (.dic []) ∧ kvs.length ≤ 15 ∧ Q (.ref s.length) (s1.set s.length (.dic (kvs.foldl (fun acc p => dPut acc p.1 p.2) [])))
      | none => False) E) := PE.imp (pe_disp h hall hl h0 h15) fun σ H Q ⟨ρ, σ', s, L, S, q⟩ p hp => by
  have k0 : Keep H (upd H p (.dK [])) := .new hp
  have pr : ρ <+: ρ ++ [p] := List.prefix_append _ _
  have S' : RelS B (upd H p (.dK [])) (ρ ++ [p]) (s ++ [.dic []]) := S.push hp ⟨_, upd_same, [], rfl, rfl⟩
  refine pairs_imp hm (L.mono pr k0) S' (flatP_mono hm _ _ _ _ _ _ (fun ds s1 q ρ1 H1 ps p1 k1 rs S1 => ?_) (fun _ _ _ h => LiftX.mono pr k0 h) q)
  cases hu : pairUp ds with
  | none => rw [hu] at q; exact q.elim
  | some kvs =>
    rw [hu] at q
    obtain ⟨g1, g2, g3⟩ := q
    have ep : ρ1[s.length]? = some p := pre_get p1 (by rw [← S.len, List.getElem?_append_right (Nat.le_refl _), Nat.sub_self]; rfl)
    obtain ⟨l0, e0, r0⟩ := S1.dicOf ep g1
    rw [show l0 = [] from r0] at e0
    obtain ⟨l, rfl, rk⟩ := pair_rel rs hu
    refine ⟨e0, l, rfl, by rw [← kv_len rk]; exact g2, ?_⟩
    have hU : RelU B H1 ρ1 (.dic []) (.dK []) := ⟨[], rfl, rfl⟩
    have kk : Keep H1 (upd H1 p (.dK (mergeK [] l))) := hU.keep rfl e0
    exact g3 ρ1 _ (.ref p) (pr.trans p1) ((k0.trans k1).trans kk) ⟨p, rfl, ep⟩ (S1.setO rfl ep g1 e0 hU ⟨_, rfl, kv_merge rk rfl⟩)
/-- a def's promise, from its plain meaning -/
def spD (B : Tb) (RX : Nat → List (Nat × D) → Value → Option Addr → Hp → List Addr → Prop) (G : FS) (f : Nat) : Sp := fun vs H Q E => ∃ (ρ : List Addr) (ds : List D) (s : Sto), RelDs B H ρ ds vs ∧ RelS B H ρ s ∧
  G f ds s (Lift B H ρ Q) fun c fs s' => ∀ ρ' H' cls d, ρ <+: ρ' → Keep H H' → RelS B H' ρ' s' → RX c fs cls d H' ρ' → E cls d H'
end
end PX

/-! PX: targets, what is walked, statements. -/
namespace PX
open PySem PySem.Spec PyProof.Rows L2
theorem br_cases {o : Option Bool} {A A' : Prop} (h : br o A A') : ∃ b, o = some b ∧ if b = true then A else A' := by
  match o, h with
  | some true, h => exact ⟨true, rfl, by rw [if_pos rfl]; exact h⟩
  | some false, h => exact ⟨false, rfl, by rw [if_neg Bool.false_ne_true]; exact h⟩
section
variable {X : Cx} {B : Tb} {W : WQ} (hK : B.K = X.K)
theorem RelL.ofSet {H : Hp} {ρ : List Addr} {σ : Sl} {σV : L2.St} (L : RelL B H ρ σ σV) : σV.length = σ.length := L.len.symm
/-! ### targets -/
def gT (B : Tb) (t : TG) : L2.TG := fun v σV H Q => ∃ (ρ : List Addr) (σ : Sl) (d : D), RelL B H ρ σ σV ∧ RelD B H ρ d v ∧ xTg t d σ fun σ' => ∀ σV', RelL B H ρ σ' σV' → Q σV' H
def gTs (B : Tb) (ts : List TG) : TGs := fun vs σV H Q => ∃ (ρ : List Addr) (σ : Sl) (ds : List D), RelL B H ρ σ σV ∧ RelDs B H ρ ds vs ∧ xTgs ts ds σ fun σ' => ∀ σV', RelL B H ρ σ' σV' → Q σV' H
theorem PG.imp {e : Expr} {t t' : L2.TG} (h : PG X e t) (i : ∀ v σ H Q, t' v σ H Q → t v σ H Q) : PG X e t' := ⟨fun pins s σ H v u Q I r q => h.run pins s σ H v u Q I r (i v σ H Q q)⟩
theorem PGs.imp {es : List Expr} {t t' : TGs} (h : PGs X es t) (i : ∀ v σ H Q, t' v σ H Q → t v σ H Q) : PGs X es t' := ⟨fun pins s σ H v u Q I r q => h.run pins s σ H v u Q I r (i v σ H Q q)⟩
theorem pg_nm {e : Expr} {i : Nat} (h : PG X e (gName i)) : PG X e (gT B (.nm i)) := PG.imp h fun v σV H Q ⟨ρ, σ, d, L, r, q⟩ => q _ (L.set r i)
theorem pgs_nl : PGs X [] (gTs B []) := PGs.imp pgs_nil fun vs σV H Q ⟨ρ, σ, ds, L, r, q⟩ => by
  cases ds with
  | nil => exact ⟨r, q _ L⟩
  | cons d ds => exact (show False from q).elim
theorem pgs_cn {e : Expr} {es : List Expr} {t : TG} {ts : List TG} (h1 : PG X e (gT B t)) (h2 : PGs X es (gTs B ts)) (hs : (assignEach (e :: es) X.env).map (·.2) = assign e X.env :: (assignEach es X.env).map (·.2)) : PGs X (e :: es) (gTs B (t :: ts)) :=
  PGs.imp (pgs_cons h1 h2 hs) fun vs σV H Q ⟨ρ, σ, ds, L, r, q⟩ => by
    cases ds with
    | nil => exact (show False from q).elim
    | cons d ds =>
      obtain ⟨v, rr, rfl, r1, r2⟩ := r
      exact ⟨v, rr, rfl, ρ, σ, d, L, r1, xTg_mono t (fun σ' h σV' L' => ⟨ρ, σ', ds, L', r2, h⟩) q⟩
theorem pg_tp {es : List Expr} {k : Nat} {ts : List TG} {pos : Pos} (hc : X.calm = true) (hK : B.K = X.K) (h : PGs X es (gTs B ts)) (hl : ts.length = es.length) (hn : (assignEach es X.env).length = es.length) (hst : (assignEach es X.env).findIdx? (·.1) = none) :
    PG X (.Tuple es k pos) (gT B (.tp ts)) := PG.imp (pg_tup hc h hn hst) fun v σV H Q ⟨ρ, σ, d, L, r, q⟩ => by
  cases d <;> try exact (show False from q).elim
  rename_i xs
  have q : xTgs ts xs σ fun σ' => ∀ σV', RelL B H ρ σ' σV' → Q σV' H := q
  obtain ⟨a, vs, rfl, sq, z, d⟩ := r
  have hx : ∀ (ts : List TG) (xs : List D) (σ : Sl) (Q : Sl → Prop), xTgs ts xs σ Q → ts.length = xs.length := by
    intro ts
    induction ts with
    | nil => intro xs σ Q q; cases xs with
      | nil => rfl
      | cons _ _ => exact (show False from q).elim
    | cons t ts ih => intro xs σ Q q; cases xs with
      | nil => exact (show False from q).elim
      | cons x xs =>
        have hnest : ∀ (t : TG) (d : D) (σ : Sl) (Q : Sl → Prop), xTg t d σ Q → ∃ σ', Q σ' := by
          intro t
          refine TG.rec (motive_1 := fun t => ∀ (d : D) (σ : Sl) (Q : Sl → Prop), xTg t d σ Q → ∃ σ', Q σ') (motive_2 := fun ts => ∀ (ds : List D) (σ : Sl) (Q : Sl → Prop), xTgs ts ds σ Q → ∃ σ', Q σ') ?_ ?_ ?_ ?_ t
          · intro i d σ Q q; exact ⟨_, q⟩
          · intro ts ih d σ Q q
            cases d <;> first | exact ih _ σ Q q | exact (show False from q).elim
          · intro ds σ Q q
            cases ds with
            | nil => exact ⟨_, q⟩
            | cons _ _ => exact (show False from q).elim
          · intro t ts ih1 ih2 ds σ Q q
            cases ds with
            | nil => exact (show False from q).elim
            | cons d ds =>
              obtain ⟨σ', h⟩ := ih1 d σ _ q
              exact ih2 ds σ' Q h
        obtain ⟨σ', h⟩ := hnest t x σ _ q
        rw [List.length_cons, List.length_cons, ih xs σ' Q h]
  exact ⟨a, vs, rfl, hK ▸ sq, by rw [← d.length, ← hx _ _ _ _ q, hl], ρ, σ, xs, L, d, q⟩
/-! ### what is walked -/
/-- J hands out the items, while the list at o stays as it is -/
structure Srv (B : Tb) (J : It) (H0 : Hp) (ρ0 : List Addr) (items : List D) (o : WK) : Prop where
  go : ∀ i H ρ s, ρ0 <+: ρ → Keep H0 H → RelS B H ρ s → chk o items s → i < items.length → J.go i H
  yld : ∀ i H ρ s x H', ρ0 <+: ρ → Keep H0 H → RelS B H ρ s → chk o items s → i < items.length → J.yld i H x H' → ∃ d, items[i]? = some d ∧ RelS B H' ρ s ∧ Keep H H' ∧ RelD B H' ρ d x
  stop : ∀ H ρ s, ρ0 <+: ρ → Keep H0 H → RelS B H ρ s → chk o items s → J.stop items.length H
def tIt (B : Tb) (W : WQ) (m : SA) (ik : IK) : TI := fun σV H R => ∃ (ρ : List Addr) (σ : Sl) (s : Sto), RelL B H ρ σ σV ∧ RelS B H ρ s ∧ m σ s (fun vs s1 => xIt ik vs s1 fun items o => ∀ ρ' H' J, ρ <+: ρ' → Keep H H' → RelS B H' ρ' s1 → Srv B J H' ρ' items o → R J H') (LiftX B H ρ σV W)
section
variable {H0 : Hp} {ρ0 : List Addr}
theorem srv_list {a : Addr} {n : Nat} {xs : List D} (hK : B.K = X.K) (e : ρ0[n]? = some a) : Srv B (Itl X.K a) H0 ρ0 xs (.lst n) where
  go := fun i H ρ s p k S c hi => by
    obtain ⟨vs, g, d⟩ := S.lstOf (pre_get p e) c
    exact ⟨vs, vs[i]'(by rw [← d.length]; exact hi), SqL.of g, List.getElem?_eq_getElem _⟩
  yld := fun i H ρ s x H' p k S c hi y => by
    obtain ⟨vs, g, d⟩ := S.lstOf (pre_get p e) c
    obtain ⟨rfl, y⟩ := y
    obtain ⟨z, h1, h2⟩ := d.getV (y vs (SqL.of g))
    exact ⟨z, h1, S, Keep.refl _, h2⟩
  stop := fun H ρ s p k S c => by
    obtain ⟨vs, g, d⟩ := S.lstOf (pre_get p e) c
    exact ⟨vs, SqL.of g, by rw [← d.length]; exact Nat.le_refl _⟩
theorem srv_fl {a : Addr} {vs : List V} {xs : List D} (hK : B.K = X.K) (f : FrzL B.K H0 a vs) (d : RelDs B H0 ρ0 xs vs) : Srv B (Itl X.K a) H0 ρ0 xs .free where
  go := fun i H ρ s p k S c hi => ⟨vs, vs[i]'(by rw [← d.length]; exact hi), hK ▸ (k.frzL f).sq, List.getElem?_eq_getElem _⟩
  yld := fun i H ρ s x H' p k S c hi y => by
    obtain ⟨rfl, y⟩ := y
    obtain ⟨z, h1, h2⟩ := (d.mono p k).getV (y vs (hK ▸ (k.frzL f).sq))
    exact ⟨z, h1, S, Keep.refl _, h2⟩
  stop := fun H ρ s p k S c => ⟨vs, hK ▸ (k.frzL f).sq, by rw [← d.length]; exact Nat.le_refl _⟩
theorem srv_tup {a : Addr} {vs : List V} {xs : List D} (hK : B.K = X.K) (f : SqT B.K H0 a vs) (d : RelDs B H0 ρ0 xs vs) : Srv B (Itt X.K a) H0 ρ0 xs .free where
  go := fun i H ρ s p k S c hi => ⟨vs, vs[i]'(by rw [← d.length]; exact hi), hK ▸ k.sqT f, List.getElem?_eq_getElem _⟩
  yld := fun i H ρ s x H' p k S c hi y => by
    obtain ⟨rfl, y⟩ := y
    obtain ⟨z, h1, h2⟩ := (d.mono p k).getV (y vs (hK ▸ k.sqT f))
    exact ⟨z, h1, S, Keep.refl _, h2⟩
  stop := fun H ρ s p k S c => ⟨vs, hK ▸ k.sqT f, by rw [← d.length]; exact Nat.le_refl _⟩
theorem srv_str {a : List Nat} (z : StrOk a) : Srv B (Its ⟨a.toArray⟩) H0 ρ0 (a.map fun c => .str [c]) .free where
  go := fun i H ρ s p k S c hi => by
    rw [List.length_map] at hi
    show i < a.toArray.size
    rw [List.size_toArray]
    exact hi
  yld := fun i H ρ s x H' p k S c hi y => by
    obtain ⟨rfl, ch, h1, rfl⟩ := y
    have h2 : a[i]? = some ch := by simpa using h1
    exact ⟨.str [ch], by rw [List.getElem?_map, h2]; rfl, S, Keep.refl _, rfl, z.sub (fun c hc => by rw [List.mem_singleton.mp hc]; exact List.mem_of_getElem? h2) (List.length_pos_of_mem (List.mem_of_getElem? h2))⟩
  stop := fun H ρ s p k S c => by
    show a.toArray.size ≤ _
    rw [List.size_toArray, List.length_map]
    exact Nat.le_refl _
theorem srv_rng {lo hi : Int} : Srv B (Itr lo (hi - lo).toNat) H0 ρ0 (rngL lo hi) .free where
  go := fun i H ρ s p k S c h => by
    unfold rngL at h
    rw [List.length_map, List.length_range] at h
    exact h
  yld := fun i H ρ s x H' p k S c h y => by
    obtain ⟨rfl, rfl⟩ := y
    unfold rngL at h ⊢
    rw [List.length_map, List.length_range] at h
    exact ⟨.int (lo + i), by rw [List.getElem?_map, List.getElem?_range h]; rfl, S, Keep.refl _, rfl⟩
  stop := fun H ρ s p k S c => by
    unfold rngL
    rw [List.length_map, List.length_range]
    exact Nat.le_refl _
end
/-- a value is walked -/
theorem iter_seq {tg : Expr} {pins : List (Addr × Obj)} {σV : L2.St} {H : Hp} {s0 : Shared} {v : V} {u : Value} {d : D} {ρ : List Addr} {s : Sto} {R : It → Hp → Prop} {E : Value → Shared → Prop} (hK : B.K = X.K) (I : Inv X pins σV H s0) (ru : RelV v u) (r : RelD B H ρ d v) (S : RelS B H ρ s)
    (h : xIt .seq [d] s fun items o => ∀ J, Srv B J H ρ items o → R J H) : wpAny (model X.prog X.w) X.A (pyIter u) (PIE X pins σV tg R) E s0 := by
  cases d <;> simp only [xIt] at h
  case str a =>
    obtain ⟨rfl, z⟩ := r
    obtain ⟨t, rfl⟩ := ru
    have q := h _ (srv_str z)
    cases ha : (⟨a.toArray⟩ : Str).cps.all (· < 128)
    · exact wpAny_pyIter_wide ha (pi_one (tk := s0.toks) I _ (turn_str _ _ t "str_iterator" (.inr rfl)) ⟨_, Heap.get?_push_size _ rfl, rfl, rfl⟩ q)
    · exact wpAny_pyIter_ascii ha (pi_one (tk := s0.toks) I _ (turn_str _ _ t "str_ascii_iterator" (.inl rfl)) ⟨_, Heap.get?_push_size _ rfl, rfl, rfl⟩ q)
  case tup xs =>
    obtain ⟨a, vs, rfl, sq, z, d⟩ := r
    cases ru
    have q := h _ (srv_tup hK sq d)
    obtain ⟨its, rv, p, hz⟩ := I.tuple (hK ▸ sq)
    exact wpAny_pyIter_tuple (show s0.heap.IsTuple a its.toArray from p) (pi_one (tk := s0.toks) I _ (turn_tuple a _) ⟨_, Heap.get?_push_size _ rfl, rfl, rfl⟩ q)
  case fl xs =>
    obtain ⟨a, vs, rfl, f, d⟩ := r
    cases ru
    have q := h _ (srv_fl hK f d)
    obtain ⟨its, rv, p, hz⟩ := I.list (hK ▸ f.sq)
    exact wpAny_pyIter_list p.isList (pi_one (tk := s0.toks) I _ (turn_list a _) ⟨_, Heap.get?_push_size _ rfl, rfl, rfl⟩ q)
  case ref n =>
    obtain ⟨a, rfl, e⟩ := r
    cases ru
    split at h
    · rename_i xs hs
      have q := h _ (srv_list hK e)
      obtain ⟨vs, g, d⟩ := S.lstOf e hs
      obtain ⟨its, rv, p, hz⟩ := I.list (SqL.of g)
      exact wpAny_pyIter_list p.isList (pi_one (tk := s0.toks) I _ (turn_list a _) ⟨_, Heap.get?_push_size _ rfl, rfl, rfl⟩ q)
    · exact h.elim
  all_goals exact h.elim
theorem PI.imp {tg e : Expr} {t t' : TI} (h : PI X tg e t) (i : ∀ σ H R, t' σ H R → t σ H R) : PI X tg e t' := ⟨fun pins s σ H R I q => h.run pins s σ H R I (i σ H R q)⟩
theorem pi_sq {tg e : Expr} {m : SE} (M : MonoSE m) (hK : B.K = X.K) (h : PE X e (tO B W m)) : PI X tg e (tIt B W (fun σ s Q E => m σ s (fun d s1 => Q [d] s1) E) .seq) := by
  refine ⟨fun pins s0 σV H R I ⟨ρ, σ, s, L, S, q⟩ => ?_⟩
  refine thn (h.run pins s0 σV H (fun v H1 => ∃ ρ1 d s1, RelD B H1 ρ1 d v ∧ RelS B H1 ρ1 s1 ∧ xIt .seq [d] s1 fun items o => ∀ J, Srv B J H1 ρ1 items o → R J H1) I ⟨ρ, σ, s, L, S, M _ _ _ _ _ _ (fun d s1 q ρ1 H1 v p1 k1 r S1 => ?_) (fun _ _ _ h => h) q⟩) fun u s1 ⟨v, H1, I1, ru, ρ1, d, st, r, S1, q⟩ => iter_seq hK I1 ru r S1 q
  exact ⟨ρ1, d, s1, r, S1, xIt_mono _ _ (fun l o h J => h ρ1 H1 J p1 k1 S1) q⟩
theorem pi_r1 {tg : Expr} {m : SA} {iter : Expr} (M : MonoSA m) (h : PI X tg iter (iRng1 (tAr B W m))) : PI X tg iter (tIt B W m .rng1) := PI.imp h fun σV H R ⟨ρ, σ, s, L, S, q⟩ =>
  ⟨ρ, σ, s, L, S, M _ _ _ _ _ _ (fun ds s1 q ρ1 H1 vs p1 k1 rs S1 => by
    unfold xIt at q
    split at q <;> rename_i e1 <;> try cases e1
    · rename_i j
      obtain ⟨w, rfl, r⟩ := rel1 rs
      cases int_of r
      refine ⟨j, rfl, q.1.2.2.1, q.1.2.2.2, ?_⟩
      have := q.2 ρ1 H1 (Itr 0 (j - 0).toNat) p1 k1 S1 srv_rng
      rw [Int.sub_zero] at this
      exact this
    all_goals exact q.elim) (fun _ _ _ h => h) q⟩
theorem pi_r2 {tg : Expr} {m : SA} {iter : Expr} (M : MonoSA m) (h : PI X tg iter (iRng2 (tAr B W m))) : PI X tg iter (tIt B W m .rng2) := PI.imp h fun σV H R ⟨ρ, σ, s, L, S, q⟩ =>
  ⟨ρ, σ, s, L, S, M _ _ _ _ _ _ (fun ds s1 q ρ1 H1 vs p1 k1 rs S1 => by
    unfold xIt at q
    split at q <;> rename_i e1 <;> try cases e1
    · rename_i i j
      obtain ⟨w, w', rfl, r, r'⟩ := rel2 rs
      cases int_of r
      cases int_of r'
      exact ⟨i, j, rfl, q.1, q.2 ρ1 H1 (Itr i (j - i).toNat) p1 k1 S1 srv_rng⟩
    all_goals exact q.elim) (fun _ _ _ h => h) q⟩
/-! ### statements -/
def LiftN (B : Tb) (H : Hp) (ρ : List Addr) (W : WQ) (N : Ends) : En where
  nx := fun σ s' => ∀ ρ' H' σV, ρ <+: ρ' → Keep H H' → RelL B H' ρ' σ σV → RelS B H' ρ' s' → N.nx σV H'
  rt := Lift B H ρ N.rt
  bk := fun σ s' => ∀ ρ' H' σV, ρ <+: ρ' → Keep H H' → RelL B H' ρ' σ σV → RelS B H' ρ' s' → N.bk σV H'
  ct := fun σ s' => ∀ ρ' H' σV, ρ <+: ρ' → Keep H H' → RelL B H' ρ' σ σV → RelS B H' ρ' s' → N.ct σV H'
  ex := fun c fs σ s' => ∀ ρ' H' σV, ρ <+: ρ' → Keep H H' → RelL B H' ρ' σ σV → RelS B H' ρ' s' → W c fs σV H' ρ' s'
def MonoSS (m : SS) : Prop := ∀ σ s N N', En.le N N' → m σ s N → m σ s N'
def tS (B : Tb) (W : WQ) (m : SS) : TS := fun N σV H => ∃ (ρ : List Addr) (σ : Sl) (s : Sto), RelL B H ρ σ σV ∧ RelS B H ρ s ∧ m σ s (LiftN B H ρ W N)
theorem LiftN.le {H H' : Hp} {ρ ρ' : List Addr} {N : Ends} (p : ρ <+: ρ') (k : Keep H H') : En.le (LiftN B H ρ W N) (LiftN B H' ρ' W N) where
  nx := fun σ s h ρ2 H2 σV p2 k2 => h ρ2 H2 σV (p.trans p2) (k.trans k2)
  rt := fun d s h => Lift.mono p k h
  bk := fun σ s h ρ2 H2 σV p2 k2 => h ρ2 H2 σV (p.trans p2) (k.trans k2)
  ct := fun σ s h ρ2 H2 σV p2 k2 => h ρ2 H2 σV (p.trans p2) (k.trans k2)
  ex := fun c fs σ s h ρ2 H2 σV p2 k2 => h ρ2 H2 σV (p.trans p2) (k.trans k2)
/-- what an expression's exception wishes, from the statement's -/
theorem ex_of {H : Hp} {ρ : List Addr} {σ : Sl} {σV : L2.St} {N : Ends} (L : RelL B H ρ σ σV) {c : Nat} {fs : List (Nat × D)} {s : Sto} (h : (LiftN B H ρ W N).ex c fs σ s) : LiftX B H ρ σV W c fs s :=
  fun ρ' H' p k S => h ρ' H' σV p k (L.mono p k) S
theorem pss_nl : PSs X [] (tS B W fun σ s N => N.nx σ s) := PSs.imp pss_nil fun N σV H ⟨ρ, σ, s, L, S, q⟩ => q ρ H σV (List.prefix_refl _) (Keep.refl _) L S
theorem pss_cn {st : Stmt} {rest : List Stmt} {m1 m2 : SS} (M1 : MonoSS m1) (M2 : MonoSS m2) (h1 : PS X st (tS B W m1)) (h2 : PSs X rest (tS B W m2)) : PSs X (st :: rest) (tS B W fun σ s N => m1 σ s { N with nx := fun σ s => m2 σ s N }) :=
  PSs.imp (pss_cons h1 h2) fun N σV H ⟨ρ, σ, s, L, S, q⟩ => ⟨ρ, σ, s, L, S, M1 _ _ { LiftN B H ρ W N with nx := fun σ s => m2 σ s (LiftN B H ρ W N) } _ ⟨fun σ s h ρ2 H2 σV2 p2 k2 L2 S2 => ⟨ρ2, σ, s, L2, S2, M2 _ _ _ _ (LiftN.le p2 k2) h⟩, fun _ _ h => h, fun _ _ h => h, fun _ _ h => h, fun _ _ _ _ h => h⟩ q⟩
theorem ps_br {pos : Pos} : PS X (.Break pos) (tS B W fun σ s N => N.bk σ s) := PS.imp ps_break fun N σV H ⟨ρ, σ, s, L, S, q⟩ => q ρ H σV (List.prefix_refl _) (Keep.refl _) L S
theorem ps_ct {pos : Pos} : PS X (.Continue pos) (tS B W fun σ s N => N.ct σ s) := PS.imp ps_continue fun N σV H ⟨ρ, σ, s, L, S, q⟩ => q ρ H σV (List.prefix_refl _) (Keep.refl _) L S
theorem ps_ps {pos : Pos} : PS X (.Pass pos) (tS B W fun σ s N => N.nx σ s) := PS.imp ps_pass fun N σV H ⟨ρ, σ, s, L, S, q⟩ => q ρ H σV (List.prefix_refl _) (Keep.refl _) L S
theorem ps_ex {e : Expr} {m : SE} {pos : Pos} (M : MonoSE m) (h : PE X e (tO B W m)) (hs : swapsWith e none pos.line X.env = pure false) : PS X (.Expr e pos) (tS B W fun σ s N => m σ s (fun _ s1 => N.nx σ s1) (fun c fs s1 => N.ex c fs σ s1)) :=
  PS.imp (ps_expr h hs) fun N σV H ⟨ρ, σ, s, L, S, q⟩ => ⟨ρ, σ, s, L, S, M _ _ _ _ _ _ (fun d s1 h ρ2 H2 v p k r S2 => h ρ2 H2 σV p k (L.mono p k) S2) (fun _ _ _ h => ex_of L h) q⟩
theorem ps_rt {e : Expr} {m : SE} {pos : Pos} (M : MonoSE m) (h : PE X e (tO B W m)) : PS X (.Return (some e) pos) (tS B W fun σ s N => m σ s N.rt (fun c fs s1 => N.ex c fs σ s1)) :=
  PS.imp (ps_ret h) fun N σV H ⟨ρ, σ, s, L, S, q⟩ => ⟨ρ, σ, s, L, S, M _ _ _ _ _ _ (fun _ _ h => h) (fun _ _ _ h => ex_of L h) q⟩
theorem ps_rtN {pos : Pos} : PS X (.Return none pos) (tS B W fun σ s N => N.rt .non s) := PS.imp ps_retN fun N σV H ⟨ρ, σ, s, L, S, q⟩ => Lift.here q rfl S
theorem ps_as {tg e : Expr} {t : TG} {m : SE} {pos : Pos} (M : MonoSE m) (he : PE X e (tO B W m)) (hg : PG X tg (gT B t)) (hp : ∀ {g : L2.TG}, PG X tg g → PS X (.Assign [tg] e pos) (tAsg (tO B W m) g)) :
    PS X (.Assign [tg] e pos) (tS B W fun σ s N => m σ s (fun x s1 => xTg t x σ fun σ' => N.nx σ' s1) (fun c fs s1 => N.ex c fs σ s1)) :=
  PS.imp (hp hg) fun N σV H ⟨ρ, σ, s, L, S, q⟩ => ⟨ρ, σ, s, L, S, M _ _ _ _ _ _ (fun d s1 h ρ2 H2 v p k r S2 => ⟨ρ2, σ, d, L.mono p k, r, xTg_mono t (fun σ' h σV' L' => h ρ2 H2 σV' p k L' S2) h⟩) (fun _ _ _ h => ex_of L h) q⟩
theorem ps_nmset {e : Expr} {i : Nat} {x : Str} {py pos : Pos} {m : SE} (M : MonoSE m) (h : PS X (.Assign [.Name x py] e pos) (tAsg (tO B W m) (gName i))) :
    PS X (.Assign [.Name x py] e pos) (tS B W fun σ s N => m σ s (fun d s1 => xTg (.nm i) d σ fun σ' => N.nx σ' s1) (fun c fs s1 => N.ex c fs σ s1)) :=
  PS.imp h fun N σV H ⟨ρ, σ, s, L, S, q⟩ => ⟨ρ, σ, s, L, S, M _ _ _ _ _ _ (fun d s1 h ρ2 H2 v p k r S2 => h ρ2 H2 _ p k ((L.mono p k).set r i) S2) (fun _ _ _ h => ex_of L h) q⟩
/-- o[i] = v -/
def rSet (B : Tb) : TSet := fun vx vy vz H Q => ∃ (x y z : D) (s : Sto) (ρ : List Addr), RelD B H ρ x vx ∧ RelD B H ρ y vy ∧ RelD B H ρ z vz ∧ RelS B H ρ s ∧ xAset x y z s fun s' => ∀ ρ' H', ρ <+: ρ' → Keep H H' → RelS B H' ρ' s' → Q H'
theorem set_ok (hu : X.A.units + 65 < cLine) : PSet X (rSet B) := by
  intro pins s0 σV H vx vy vz ov iv u Q I r1 r2 r3 h
  obtain ⟨x, y, z, s, ρ, d1, d2, d3, S, h⟩ := h
  unfold xAset at h
  split at h
  · rename_i n
    obtain ⟨a, rfl, e⟩ := d1
    split at h
    · rename_i xs hs
      split at h
      · rename_i k
        cases int_of d2
        obtain ⟨vs, g, d⟩ := S.lstOf e hs
        split at h
        · rename_i j hj
          refine set_list pins s0 σV H _ _ _ ov iv u Q I r1 r2 r3 ⟨a, vs, k, j, rfl, rfl, g, by rw [← d.length]; exact hj, ?_⟩
          exact h ρ _ (List.prefix_refl _) (.lst g) (S.setL e hs g (RelDs.set d3 j d))
        · exact h.elim
      · exact h.elim
    · rename_i kvs hs
      obtain ⟨hk, hl, h⟩ := h
      obtain ⟨l, g, q⟩ := S.dicOf e hs
      obtain ⟨k, h1, rfl⟩ := keyV_of d2 hk
      have hU : RelU B H ρ (.dic kvs) (.dK l) := ⟨l, rfl, q⟩
      refine set_dict (by omega) pins s0 σV H _ _ _ ov iv u Q I r1 r2 r3 ⟨a, _, rfl, DPut.k g (by rw [← kv_len q]; exact hl), ?_⟩
      exact h ρ _ (List.prefix_refl _) (hU.keep rfl g) (S.setO rfl e hs g hU ⟨_, rfl, kv_put h1 d3 q⟩)
    · exact h.elim
  · exact h.elim
theorem ps_aset {o i e : Expr} {mo mi me : SE} {p1 pos : Pos} (Mo : MonoSE mo) (Mi : MonoSE mi) (Me : MonoSE me) (he : PE X e (tO B W me)) (hp : PS X (.Assign [.Subscript o i p1] e pos) (tAsg (tO B W me) (gSub (tO B W mo) (tO B W mi) (rSet B)))) :
    PS X (.Assign [.Subscript o i p1] e pos) (tS B W fun σ s N => me σ s (fun v s1 => mo σ s1 (fun x s2 => mi σ s2 (fun y s3 => xAset x y v s3 fun s4 => N.nx σ s4) (fun c fs s1 => N.ex c fs σ s1)) (fun c fs s1 => N.ex c fs σ s1)) (fun c fs s1 => N.ex c fs σ s1)) :=
  PS.imp hp fun N σV H ⟨ρ, σ, s, L, S, q⟩ => ⟨ρ, σ, s, L, S, Me _ _ _ _ _ _ (fun dv s1 q ρ1 H1 vv p1 k1 rv S1 =>
    ⟨ρ1, σ, s1, L.mono p1 k1, S1, Mo _ _ _ _ _ _ (fun dx s2 q ρ2 H2 vx p2 k2 rx S2 =>
      ⟨ρ2, σ, s2, L.mono (p1.trans p2) (k1.trans k2), S2, Mi _ _ _ _ _ _ (fun dy s3 q ρ3 H3 vy p3 k3 ry S3 =>
        ⟨dx, dy, dv, s3, ρ3, rx.mono p3 k3, ry, rv.mono (p2.trans p3) (k2.trans k3), S3, xAset_mono _ _ _ (fun s4 h ρ4 H4 p4 k4 S4 => h ρ4 H4 σV (((p1.trans p2).trans p3).trans p4) (((k1.trans k2).trans k3).trans k4) (L.mono (((p1.trans p2).trans p3).trans p4) (((k1.trans k2).trans k3).trans k4)) S4) q⟩)
        (fun _ _ _ h => LiftX.mono (p1.trans p2) (k1.trans k2) (ex_of L h)) q⟩) (fun _ _ _ h => LiftX.mono p1 k1 (ex_of L h)) q⟩) (fun _ _ _ h => ex_of L h) q⟩
theorem ps_ag {e : Expr} {i : Nat} {x : Str} {op : Operator} {p1 pos : Pos} {m : SE} (M : MonoSE m) (h : PS X (.AugAssign (.Name x p1) op e pos) (tAug i (tO B W m) (rO B (xIp op)))) :
    PS X (.AugAssign (.Name x p1) op e pos) (tS B W fun σ s N => match σ[i]? with
    | some (some x) => m σ s (fun y s1 => xIp op x y s1 fun z s2 => N.nx (σ.set i (some z)) s2) (fun c fs s1 => N.ex c fs σ s1)
    | _ => False) := PS.imp h fun N σV H ⟨ρ, σ, s, L, S, q⟩ => by
  dsimp only at q
  split at q
  · rename_i d hd
    obtain ⟨v, h1, h2⟩ := L.at_ i d hd
    refine ⟨v, h1, ρ, σ, s, L, S, M _ _ _ _ _ _ (fun y s1 q ρ1 H1 vy p1 k1 ry S1 => ?_) (fun _ _ _ h => ex_of L h) q⟩
    exact ⟨d, y, s1, ρ1, h2.mono p1 k1, ry, S1, xIp_mono op _ _ (fun z s2 h ρ2 H2 vz p2 k2 rz S2 => h ρ2 H2 _ (p1.trans p2) (k1.trans k2) ((L.mono (p1.trans p2) (k1.trans k2)).set rz i) S2) q⟩
  · exact q.elim
theorem ps_iff {c : Expr} {a b : List Stmt} {mc : SE} {ma mb : SS} {pos : Pos} (Mc : MonoSE mc) (Ma : MonoSS ma) (Mb : MonoSS mb) (hc : PT X c (tT B W mc)) (ha : PSs X a (tS B W ma)) (hb : PSs X b (tS B W mb)) :
    PS X (.If c a b pos) (tS B W fun σ s N => mc σ s (fun x s1 => br (tru s1 x) (ma σ s1 N) (mb σ s1 N)) (fun c fs s1 => N.ex c fs σ s1)) :=
  PS.imp (ps_if hc ha hb) fun N σV H ⟨ρ, σ, s, L, S, q⟩ => ⟨ρ, σ, s, L, S, Mc _ _ _ _ _ _ (fun x s1 q => by
    obtain ⟨c, e, q⟩ := br_cases q
    rw [e]
    intro ρ1 H1 p1 k1 S1
    cases c with
    | true =>
      rw [if_pos rfl] at q ⊢
      exact ⟨ρ1, σ, s1, L.mono p1 k1, S1, Ma _ _ _ _ (LiftN.le p1 k1) q⟩
    | false =>
      rw [if_neg Bool.false_ne_true] at q ⊢
      exact ⟨ρ1, σ, s1, L.mono p1 k1, S1, Mb _ _ _ _ (LiftN.le p1 k1) q⟩) (fun _ _ _ h => ex_of L h) q⟩
end
end PX

/-! PX: loops, comprehensions, calls of defs. -/
namespace PX
open PySem PySem.Spec PyProof.Rows L2
section
variable {X : Cx} {B : Tb} {W : WQ} (hK : B.K = X.K)
theorem ps_wh {c : Expr} {body : List Stmt} {mc : SE} {mb : SS} {pos : Pos} (hp : PassesOwn (model X.prog X.w) X.A X.env X.xe) (Mc : MonoSE mc) (Mb : MonoSS mb) (hc : PT X c (tT B W mc)) (hb : PSs X body (tS B W mb)) :
    PS X (.While c body [] pos) (tS B W fun σ s N => whlGo mc mb N σ s) :=
  PS.imp (ps_while hp hc hb) fun N σV H ⟨ρ, σ, s, L, S, Wp, ⟨m0, w0⟩, q⟩ => by
    refine ⟨fun m σV2 H2 => ∃ ρ2 σ2 s2, ρ <+: ρ2 ∧ Keep H H2 ∧ RelL B H2 ρ2 σ2 σV2 ∧ RelS B H2 ρ2 s2 ∧ Wp m σ2 s2, ⟨m0, ρ, σ, s, List.prefix_refl _, Keep.refl _, L, S, w0⟩, ?_⟩
    rintro m σV2 H2 ⟨ρ2, σ2, s2, p2, k2, L2, S2, w2⟩
    refine ⟨ρ2, σ2, s2, L2, S2, Mc _ _ _ _ _ _ (fun d s3 q => ?_) (fun _ _ _ h => LiftX.mono (List.prefix_refl _) (Keep.refl _) (ex_of L2 (LiftN.le p2 k2 |>.ex _ _ _ _ h))) (q m σ2 s2 w2)⟩
    obtain ⟨b, e, q⟩ := br_cases q
    rw [e]
    intro ρ3 H3 p3 k3 S3
    cases b with
    | true =>
      rw [if_pos rfl] at q ⊢
      refine ⟨fun σ' H' => ∃ m', m' < m ∧ ∃ ρ2 σ2 s2, ρ <+: ρ2 ∧ Keep H H2 ∧ Keep H H' ∧ RelL B H' ρ2 σ2 σ' ∧ RelS B H' ρ2 s2 ∧ Wp m' σ2 s2, fun σ' H' ⟨m', hm, ρ4, σ4, s4, p4, _, k4, L4, S4, w4⟩ => ⟨m', hm, ρ4, σ4, s4, p4, k4, L4, S4, w4⟩, ?_⟩
      have P := p2.trans p3
      have KK := k2.trans k3
      refine ⟨ρ3, σ2, s3, L2.mono p3 k3, S3, Mb _ _ _ _ ⟨?_, ?_, ?_, ?_, ?_⟩ q⟩
      · rintro σ4 s4 ⟨m', hm, w4⟩ ρ4 H4 σV4 p4 k4 L4 S4
        exact ⟨m', hm, ρ4, σ4, s4, P.trans p4, k2, KK.trans k4, L4, S4, w4⟩
      · exact fun d s h => Lift.mono P KK h
      · exact fun σ s h => (LiftN.le (W := W) (N := N) P KK).nx σ s h
      · rintro σ4 s4 ⟨m', hm, w4⟩ ρ4 H4 σV4 p4 k4 L4 S4
        exact ⟨m', hm, ρ4, σ4, s4, P.trans p4, k2, KK.trans k4, L4, S4, w4⟩
      · exact fun c fs σ s h => (LiftN.le (W := W) (N := N) P KK).ex c fs σ s h
    | false =>
      rw [if_neg Bool.false_ne_true] at q ⊢
      exact q ρ3 H3 σV2 (p2.trans p3) (k2.trans k3) (L2.mono p3 k3) S3
/-- a for's turns, by the walk's invariant -/
theorem for_of {J : It} {tg : TG} {o : WK} {items : List D} {mb : SS} {N : Ends} {NN : En} {H1 : Hp} {ρ1 : List Addr} {σ1 : Sl} {s1 : Sto} {σV1 : L2.St} (Mb : MonoSS mb) (hN : En.le NN (LiftN B H1 ρ1 W N)) (V : Srv B J H1 ρ1 items o)
    (L1 : RelL B H1 ρ1 σ1 σV1) (S1 : RelS B H1 ρ1 s1) (q : forGo tg o items mb NN items σ1 s1) :
    ∃ W' : Nat → Nat → L2.St → Hp → Prop, (∃ m, W' 0 m σV1 H1) ∧ ∀ i m σ H, W' i m σ H → (J.stop i H ∧ N.nx σ H) ∨ (J.go i H ∧ ∃ Nx : L2.St → Hp → Prop, (∀ σ' H', Nx σ' H' → ∃ m', m' < m ∧ W' (i + 1) m' σ' H') ∧
      ∀ x H', J.yld i H x H' → gT B tg x σ H' fun σ2 H2 => tS B W mb { N with nx := Nx, ct := Nx, bk := N.nx } σ2 H2) := by
  refine ⟨fun i m σV2 H2 => m = items.length - i ∧ i ≤ items.length ∧ ∃ ρ2 σ2 s2, ρ1 <+: ρ2 ∧ Keep H1 H2 ∧ RelL B H2 ρ2 σ2 σV2 ∧ RelS B H2 ρ2 s2 ∧ forGo tg o items mb NN (items.drop i) σ2 s2,
    ⟨_, rfl, Nat.zero_le _, ρ1, σ1, s1, List.prefix_refl _, Keep.refl _, L1, S1, q⟩, ?_⟩
  rintro i m σV2 H2 ⟨rfl, hi, ρ2, σ2, s2, p2, k2, L2, S2, q⟩
  by_cases hlt : i < items.length
  · rw [List.drop_eq_getElem_cons hlt] at q
    obtain ⟨c, q⟩ := q
    refine .inr ⟨V.go i H2 ρ2 s2 p2 k2 S2 c hlt, fun σ' H' => ∃ ρ3 σ3 s3, ρ1 <+: ρ3 ∧ Keep H1 H' ∧ RelL B H' ρ3 σ3 σ' ∧ RelS B H' ρ3 s3 ∧ forGo tg o items mb NN (items.drop (i + 1)) σ3 s3,
      fun σ' H' h => ⟨items.length - (i + 1), by omega, rfl, hlt, h⟩, fun x H' y => ?_⟩
    obtain ⟨d, hd, S3, k3, r⟩ := V.yld i H2 ρ2 s2 x H' p2 k2 S2 c hlt y
    have e : items[i] = d := Option.some.inj ((List.getElem?_eq_getElem hlt).symm.trans hd)
    rw [e] at q
    refine ⟨ρ2, σ2, d, L2.mono (List.prefix_refl _) k3, r, xTg_mono tg (fun σ' h σV' L' => ⟨ρ2, σ', s2, L', S3, Mb _ _ _ _ ⟨?_, ?_, ?_, ?_, ?_⟩ h⟩) q⟩
    · exact fun σ4 s4 h ρ4 H4 σV4 p4 k4 L4 S4 => ⟨ρ4, σ4, s4, p2.trans p4, (k2.trans k3).trans k4, L4, S4, h⟩
    · exact fun d s h => Lift.mono p2 (k2.trans k3) (hN.rt d s h)
    · exact fun σ s h => (LiftN.le (W := W) (N := N) p2 (k2.trans k3)).nx σ s (hN.nx σ s h)
    · exact fun σ4 s4 h ρ4 H4 σV4 p4 k4 L4 S4 => ⟨ρ4, σ4, s4, p2.trans p4, (k2.trans k3).trans k4, L4, S4, h⟩
    · exact fun c fs σ s h => (LiftN.le (W := W) (N := N) p2 (k2.trans k3)).ex c fs σ s (hN.ex c fs σ s h)
  · have e : i = items.length := by omega
    subst e
    rw [List.drop_length] at q
    exact .inl ⟨V.stop H2 ρ2 s2 p2 k2 S2 q.1, hN.nx _ _ q.2 ρ2 H2 σV2 p2 k2 L2 S2⟩
theorem ps_fr {tg iter : Expr} {body : List Stmt} {t : TG} {ik : IK} {m : SA} {mb : SS} {pos : Pos} (hp : PassesOwn (model X.prog X.w) X.A X.env X.xe) (hc : X.calm = true) (M : MonoSA m) (Mb : MonoSS mb) (hi : PI X tg iter (tIt B W m ik)) (hg : PG X tg (gT B t)) (hb : PSs X body (tS B W mb))
    (hs : ∀ x, foldedSetIterable iter X.env x = pure x) :
    PS X (.For tg iter body [] pos) (tS B W fun σ s N => m σ s (fun vs s1 => xIt ik vs s1 fun items o => forGo t o items mb N items σ s1) (fun c fs s1 => N.ex c fs σ s1)) :=
  PS.imp (ps_for hp hc hi hg hb hs) fun N σV H ⟨ρ, σ, s, L, S, q⟩ => ⟨ρ, σ, s, L, S, M _ _ _ _ _ _ (fun vs s1 h => xIt_mono ik vs (fun items o q ρ1 H1 J p1 k1 S1 V =>
    for_of Mb (LiftN.le p1 k1) V (L.mono p1 k1) S1 q) h) (fun _ _ _ h => ex_of L h) q⟩
/-! ### comprehensions -/
def subT (vs : List Nat) : TG → Bool
  | .nm i => vs.contains i
  | .tp ts => subTs vs ts
where subTs (vs : List Nat) : List TG → Bool
  | [] => true
  | t :: ts => subT vs t && subTs vs ts
theorem wipe_set {σ : L2.St} {i : Nat} {x : Option V} : ∀ {vs : List Nat}, i ∈ vs → wipe (σ.set i x) vs = wipe σ vs
  | [], h => by simp at h
  | v :: vs, h => by
    unfold wipe
    by_cases hv : i ∈ vs
    · rw [wipe_set hv]
    · have e : i = v := (List.mem_cons.mp h).resolve_right hv
      subst e
      have hw : ∀ (vs : List Nat) (σ : L2.St), i ∉ vs → wipe (σ.set i x) vs = (wipe σ vs).set i x := by
        intro vs
        induction vs with
        | nil => intro σ _; rfl
        | cons w vs ih =>
          intro σ hn
          have h1 : i ≠ w := fun z => hn (by rw [z]; exact List.mem_cons_self)
          have h2 : i ∉ vs := fun z => hn (List.mem_cons_of_mem _ z)
          unfold wipe
          rw [ih σ h2, List.set_comm _ _ h1]
      rw [hw vs σ hv, List.set_set]
theorem wipe_idem {σ : L2.St} : ∀ vs : List Nat, wipe (wipe σ vs) vs = wipe σ vs := by
  intro vs
  apply List.ext_getElem?
  intro j
  have hout : ∀ (vs : List Nat) (σ : L2.St), j ∉ vs → (wipe σ vs)[j]? = σ[j]? := by
    intro vs
    induction vs with
    | nil => intro σ _; rfl
    | cons w vs ih =>
      intro σ hn
      have h1 : w ≠ j := fun z => hn (by rw [z]; exact List.mem_cons_self)
      unfold wipe
      rw [List.getElem?_set_ne h1, ih σ fun z => hn (List.mem_cons_of_mem _ z)]
  have hin : ∀ (vs : List Nat) (σ : L2.St), j ∈ vs → (wipe σ vs)[j]? = if j < σ.length then some none else none := by
    intro vs
    induction vs with
    | nil => intro σ h; simp at h
    | cons w vs ih =>
      intro σ h
      unfold wipe
      by_cases e : w = j
      · subst e
        rw [List.getElem?_set]
        simp [wipe_length]
      · rw [List.getElem?_set_ne e]
        exact ih σ ((List.mem_cons.mp h).resolve_left fun z => e z.symm)
  by_cases h : j ∈ vs
  · rw [hin vs _ h, hin vs _ h, wipe_length]
  · rw [hout vs _ h]
/-- a target in a comprehension: only the slots vs are stored -/
def gW (B : Tb) (vs : List Nat) (t : TG) : L2.TG := fun v σV H Q => ∃ (ρ : List Addr) (σ : Sl) (d : D), RelL B H ρ σ σV ∧ RelD B H ρ d v ∧ xTg t d σ fun σ' => ∀ σV', RelL B H ρ σ' σV' → wipe σV' vs = wipe σV vs → Q σV' H
def gWs (B : Tb) (vs : List Nat) (ts : List TG) : TGs := fun ws σV H Q => ∃ (ρ : List Addr) (σ : Sl) (ds : List D), RelL B H ρ σ σV ∧ RelDs B H ρ ds ws ∧ xTgs ts ds σ fun σ' => ∀ σV', RelL B H ρ σ' σV' → wipe σV' vs = wipe σV vs → Q σV' H
theorem pgw_nm {e : Expr} {i : Nat} {vs : List Nat} (hi : i ∈ vs) (h : PG X e (gName i)) : PG X e (gW B vs (.nm i)) := PG.imp h fun v σV H Q ⟨ρ, σ, d, L, r, q⟩ => q _ (L.set r i) (wipe_set hi)
theorem pgws_nl {vs : List Nat} : PGs X [] (gWs B vs []) := PGs.imp pgs_nil fun ws σV H Q ⟨ρ, σ, ds, L, r, q⟩ => by
  cases ds with
  | nil => exact ⟨r, q _ L rfl⟩
  | cons d ds => exact (show False from q).elim
theorem pgws_cn {e : Expr} {es : List Expr} {t : TG} {ts : List TG} {vs : List Nat} (h1 : PG X e (gW B vs t)) (h2 : PGs X es (gWs B vs ts)) (hs : (assignEach (e :: es) X.env).map (·.2) = assign e X.env :: (assignEach es X.env).map (·.2)) : PGs X (e :: es) (gWs B vs (t :: ts)) :=
  PGs.imp (pgs_cons h1 h2 hs) fun ws σV H Q ⟨ρ, σ, ds, L, r, q⟩ => by
    cases ds with
    | nil => exact (show False from q).elim
    | cons d ds =>
      obtain ⟨v, rr, rfl, r1, r2⟩ := r
      exact ⟨v, rr, rfl, ρ, σ, d, L, r1, xTg_mono t (fun σ' h σV' L' ew => ⟨ρ, σ', ds, L', r2, xTgs_mono ts (fun σ2 h σV2 L2 ew2 => h σV2 L2 (ew2.trans ew)) h⟩) q⟩
theorem lenTg : (∀ (t : TG) (d : D) (σ : Sl) (Q : Sl → Prop), xTg t d σ Q → ∃ σ', Q σ') := by
  intro t
  refine TG.rec (motive_1 := fun t => ∀ (d : D) (σ : Sl) (Q : Sl → Prop), xTg t d σ Q → ∃ σ', Q σ') (motive_2 := fun ts => ∀ (ds : List D) (σ : Sl) (Q : Sl → Prop), xTgs ts ds σ Q → ∃ σ', Q σ') ?_ ?_ ?_ ?_ t
  · intro i d σ Q q; exact ⟨_, q⟩
  · intro ts ih d σ Q q
    cases d <;> first | exact ih _ σ Q q | exact (show False from q).elim
  · intro ds σ Q q
    cases ds with
    | nil => exact ⟨_, q⟩
    | cons _ _ => exact (show False from q).elim
  · intro t ts ih1 ih2 ds σ Q q
    cases ds with
    | nil => exact (show False from q).elim
    | cons d ds =>
      obtain ⟨σ', h⟩ := ih1 d σ _ q
      exact ih2 ds σ' Q h
theorem lenTgs : ∀ (ts : List TG) (xs : List D) (σ : Sl) (Q : Sl → Prop), xTgs ts xs σ Q → ts.length = xs.length
  | [], [], _, _, _ => rfl
  | [], _ :: _, _, _, q => (show False from q).elim
  | _ :: _, [], _, _, q => (show False from q).elim
  | t :: ts, x :: xs, σ, Q, q => by
    obtain ⟨σ', h⟩ := lenTg t x σ _ q
    rw [List.length_cons, List.length_cons, lenTgs ts xs σ' Q h]
theorem pgw_tp {es : List Expr} {k : Nat} {ts : List TG} {vs : List Nat} {pos : Pos} (hc : X.calm = true) (hK : B.K = X.K) (h : PGs X es (gWs B vs ts)) (hl : ts.length = es.length) (hn : (assignEach es X.env).length = es.length) (hst : (assignEach es X.env).findIdx? (·.1) = none) :
    PG X (.Tuple es k pos) (gW B vs (.tp ts)) := PG.imp (pg_tup hc h hn hst) fun v σV H Q ⟨ρ, σ, d, L, r, q⟩ => by
  cases d <;> try exact (show False from q).elim
  rename_i xs
  have q : xTgs ts xs σ fun σ' => ∀ σV', RelL B H ρ σ' σV' → wipe σV' vs = wipe σV vs → Q σV' H := q
  obtain ⟨a, vs, rfl, sq, z, d⟩ := r
  exact ⟨a, vs, rfl, hK ▸ sq, by rw [← d.length, ← lenTgs _ _ _ _ q, hl], ρ, σ, xs, L, d, q⟩
/-- a clause's tests -/
def tTi (B : Tb) (m : Sl → Sto → (Bool → Sto → Prop) → Prop) : TT := fun σV H Q => ∃ (ρ : List Addr) (σ : Sl) (s : Sto), RelL B H ρ σ σV ∧ RelS B H ρ s ∧ m σ s (LiftB B H ρ Q)
theorem PTs.imp {es : List Expr} {t t' : TT} (h : PTs X es t) (i : ∀ σ H Q, t' σ H Q → t σ H Q) : PTs X es t' := ⟨fun pins s σ H Q I q => h.run pins s σ H Q I (i σ H Q q)⟩
abbrev W0 : WQ := fun _ _ _ _ _ _ => False
theorem pts_nl : PTs X [] (tTi B fun σ s K => K true s) := PTs.imp pts_nil fun σV H Q ⟨ρ, σ, s, L, S, q⟩ => q.here S
theorem pts_on {c : Expr} {m : SE} (M : MonoSE m) (h : PT X c (tT B W0 m)) : PTs X [c] (tTi B fun σ s K => m σ s (fun x s1 => br (tru s1 x) (K true s1) (K false s1)) (fun _ _ _ => False)) :=
  PTs.imp (pts_one h) fun σV H Q ⟨ρ, σ, s, L, S, q⟩ => ⟨ρ, σ, s, L, S, M _ _ _ _ _ _ (fun x s1 q => by
    obtain ⟨c, e, q⟩ := br_cases q
    rw [e]
    cases c with
    | true => rw [if_pos rfl] at q; exact q
    | false => rw [if_neg Bool.false_ne_true] at q; exact q) (fun _ _ _ h => h.elim) q⟩
theorem RelL.wipeB {H : Hp} {ρ : List Addr} {σ : Sl} {σV : L2.St} (L : RelL B H ρ σ σV) (vs : List Nat) : RelL B H ρ (wipeS σ vs) (L2.wipe σV vs) := L.wipe vs
theorem lc_of {J : It} {tg : TG} {o : WK} {items : List D} {vs : List Nat} {mt : Sl → Sto → (Bool → Sto → Prop) → Prop} {me : SE} {K : Sto → Prop} {Q : VK} {H1 : Hp} {ρ1 : List Addr} {σ1 : Sl} {s1 : Sto} {σV1 : L2.St} {Dn : Addr}
    (Mt : ∀ σ s K K', (∀ b s, K b s → K' b s) → mt σ s K → mt σ s K') (Me : MonoSE me) (V : Srv B J H1 ρ1 items o) (L1 : RelL B H1 ρ1 σ1 σV1) (S1 : RelS B H1 ρ1 s1) (hD : H1 Dn = none)
    (hK : ∀ ρ2 H2 s2, ρ1 <+: ρ2 → Keep H1 H2 → RelS B H2 ρ2 s2 → ρ2[s1.length]? = some Dn → K s2 → Q (.ref Dn) H2)
    (q : lcGo tg o items s1.length mt (fun σ' s' K => me σ' s' K (fun _ _ _ => False)) vs σ1 items (s1 ++ [.lst []]) K) :
    ∃ W' : Nat → Nat → Hp → Prop, (∃ m, W' 0 m (upd H1 Dn (.lst []))) ∧ ∀ i m H, W' i m H → (J.stop i H ∧ Q (.ref Dn) H) ∨ (J.go i H ∧ ∃ Nx : Hp → Prop, (∀ H', Nx H' → ∃ m', m' < m ∧ W' (i + 1) m' H') ∧
      ∀ x H', J.yld i H x H' → gW B vs tg x (wipe σV1 vs) H' fun σ2 H2 => wipe σ2 vs = wipe σV1 vs ∧ tTi B mt σ2 H2 fun b H3 =>
        if b = true then tO B W0 me σ2 H3 fun y H4 => ∃ acc, H4 Dn = some (.lst acc) ∧ acc.length < sizeLine ∧ Nx (upd H4 Dn (.lst (acc ++ [y]))) else Nx H3) := by
  have kD : Keep H1 (upd H1 Dn (.lst [])) := .new hD
  have pD : ρ1 <+: ρ1 ++ [Dn] := List.prefix_append _ _
  have eD : (ρ1 ++ [Dn])[s1.length]? = some Dn := by
    rw [← S1.len, List.getElem?_append_right (Nat.le_refl _), Nat.sub_self]
    rfl
  have S0 : RelS B (upd H1 Dn (.lst [])) (ρ1 ++ [Dn]) (s1 ++ [Ob.lst []]) := S1.push hD (show RelO B _ _ _ (Ob.lst []) from ⟨_, upd_same, [], rfl, rfl⟩)
  refine ⟨fun i m H2 => m = items.length - i ∧ i ≤ items.length ∧ ∃ ρ2 s2, (ρ1 ++ [Dn]) <+: ρ2 ∧ Keep H1 H2 ∧ RelL B H2 ρ2 σ1 σV1 ∧ RelS B H2 ρ2 s2 ∧ lcGo tg o items s1.length mt (fun σ' s' K => me σ' s' K (fun _ _ _ => False)) vs σ1 (items.drop i) s2 K,
    ⟨_, rfl, Nat.zero_le _, ρ1 ++ [Dn], s1 ++ [Ob.lst []], List.prefix_refl _, kD, L1.mono pD kD, S0, q⟩, ?_⟩
  rintro i m H2 ⟨rfl, hi, ρ2, s2, p2, k2, L2, S2, q⟩
  have p1 := pD.trans p2
  have e2 : ρ2[s1.length]? = some Dn := pre_get p2 eD
  by_cases hlt : i < items.length
  · rw [List.drop_eq_getElem_cons hlt] at q
    obtain ⟨c, q⟩ := q
    refine .inr ⟨V.go i H2 ρ2 s2 p1 k2 S2 c hlt, fun H' => ∃ ρ3 s3, (ρ1 ++ [Dn]) <+: ρ3 ∧ Keep H1 H' ∧ RelL B H' ρ3 σ1 σV1 ∧ RelS B H' ρ3 s3 ∧ lcGo tg o items s1.length mt (fun σ' s' K => me σ' s' K (fun _ _ _ => False)) vs σ1 (items.drop (i + 1)) s3 K,
      fun H' h => ⟨items.length - (i + 1), by omega, rfl, hlt, h⟩, fun x H' y => ?_⟩
    obtain ⟨d, hd, S3, k3, r⟩ := V.yld i H2 ρ2 s2 x H' p1 k2 S2 c hlt y
    have e : items[i] = d := Option.some.inj ((List.getElem?_eq_getElem hlt).symm.trans hd)
    rw [e] at q
    have L3 := L2.mono (List.prefix_refl _) k3
    refine ⟨ρ2, wipeS σ1 vs, d, L3.wipe vs, r, xTg_mono tg (fun σ' h σV' L' ew => ⟨ew.trans (wipe_idem vs), ρ2, σ', s2, L', S3, Mt _ _ _ _ (fun b s4 h ρ4 H4 p4 k4 S4 => ?_) h⟩) q⟩
    have K4 := (k2.trans k3).trans k4
    cases b with
    | false =>
      dsimp only at h ⊢
      rw [if_neg Bool.false_ne_true] at h ⊢
      exact ⟨ρ4, s4, p2.trans p4, K4, L3.mono p4 k4, S4, h⟩
    | true =>
      dsimp only at h ⊢
      rw [if_pos rfl] at h ⊢
      refine ⟨ρ4, σ', s4, L'.mono p4 k4, S4, Me _ _ _ _ _ _ (fun y5 s5 h ρ5 H5 v5 p5 k5 r5 S5 => ?_) (fun _ _ _ h => h.elim) h⟩
      split at h
      · rename_i acc hs
        have e5 : ρ5[s1.length]? = some Dn := pre_get (p4.trans p5) e2
        obtain ⟨av, g, da⟩ := S5.lstOf e5 hs
        have k6 : Keep H5 (upd H5 Dn (.lst (av ++ [v5]))) := .lst g
        exact ⟨av, g, by rw [← da.length]; exact h.1, ρ5, _, (p2.trans p4).trans p5, (K4.trans k5).trans k6, ((L3.mono p4 k4).mono p5 k5).mono (List.prefix_refl _) k6, S5.setL e5 hs g (da.append (rel_one r5)), h.2⟩
      · exact h.elim
  · have e : i = items.length := by omega
    subst e
    rw [List.drop_length] at q
    exact .inl ⟨V.stop H2 ρ2 s2 p1 k2 S2 q.1, hK ρ2 H2 s2 p1 k2 S2 e2 q.2⟩
theorem lc_imp {tg : TG} {ik : IK} {m : SA} {vs : List Nat} {mt : Sl → Sto → (Bool → Sto → Prop) → Prop} {me : SE} (M : MonoSA m) (Mt : ∀ σ s K K', (∀ b s, K b s → K' b s) → mt σ s K → mt σ s K') (Me : MonoSE me) {σV : L2.St} {H : Hp} {Q : VK}
    (h : tO B W (fun σ s Q E => m σ s (fun ds s1 => xIt ik ds s1 fun items o => lcGo tg o items s1.length mt (fun σ' s' K => me σ' s' K (fun _ _ _ => False)) vs σ items (s1 ++ [.lst []]) fun s' => Q (.ref s1.length) s') E) σV H Q) :
    tLc (tIt B W m ik) (gW B vs tg) (tTi B mt) (tO B W0 me) vs σV H Q := by
  obtain ⟨ρ, σ, s, L, S, q⟩ := h
  refine ⟨ρ, σ, s, L, S, M _ _ _ _ _ _ (fun ds s1 h => xIt_mono ik ds (fun items o q ρ1 H1 J p1 k1 S1 V Dn hD => ?_) h) (fun _ _ _ h => h) q⟩
  exact lc_of Mt Me V (L.mono p1 k1) S1 hD (fun ρ2 H2 s2 p2 k2 S2 e2 h => h ρ2 H2 (.ref Dn) (p1.trans p2) (k1.trans k2) ⟨Dn, rfl, e2⟩ S2) q
end
end PX

/-! PX: objects and their methods, dict comprehensions, more that is walked. -/
namespace PX
open PySem PySem.Spec PyProof.Rows L2
section
variable {X : Cx} {B : Tb} {W : WQ}
/-! ### enumerate -/
theorem enumL_len : ∀ (xs : List D) (b : Int), (enumL b xs).length = xs.length
  | [], _ => rfl
  | x :: r, b => by rw [enumL, List.length_cons, List.length_cons, enumL_len r]
theorem enumL_get : ∀ (xs : List D) (b : Int) (i : Nat), (enumL b xs)[i]? = (xs[i]?).map fun x => .tup [.int (b + i), x]
  | [], _, i => by simp [enumL]
  | x :: r, b, 0 => by simp [enumL]
  | x :: r, b, i + 1 => by
    rw [enumL, List.getElem?_cons_succ, List.getElem?_cons_succ, enumL_get r (b + 1) i]
    have : b + 1 + (i : Int) = b + ((i + 1 : Nat) : Int) := by omega
    rw [this]
section
variable {H0 : Hp} {ρ0 : List Addr}
theorem srv_enum {a : Addr} {n : Nat} {xs : List D} (hK : B.K = X.K) (e : ρ0[n]? = some a) : Srv B (Ite X.K a) H0 ρ0 (enumL 0 xs) (.enu 0 n) where
  go := fun i H ρ s p k S ⟨ys, c, ey⟩ hi => by
    obtain ⟨vs, g, d⟩ := S.lstOf (pre_get p e) c
    rw [ey, enumL_len, d.length] at hi
    exact ⟨vs, vs[i]'hi, SqL.of g, List.getElem?_eq_getElem _⟩
  yld := fun i H ρ s x H' p k S ⟨ys, c, ey⟩ hi y => by
    obtain ⟨vs, g, d⟩ := S.lstOf (pre_get p e) c
    obtain ⟨T, x0, rfl, hT, rfl, hx⟩ := y
    obtain ⟨z, h1, h2⟩ := d.getV (hx vs (SqL.of g))
    have kk : Keep H (upd H T (.tup [.int (i : Nat), x0])) := .new hT
    refine ⟨.tup [.int (i : Nat), z], ?_, S.out hT, kk, T, [.int (i : Nat), x0], rfl, .inl (.inl upd_same), by show 2 ≤ sizeLine; decide, .int (i : Nat), [x0], rfl, rfl, x0, [], rfl, h2.mono (List.prefix_refl _) kk, rfl⟩
    rw [ey, enumL_get, h1]
    simp
  stop := fun H ρ s p k S ⟨ys, c, ey⟩ => by
    obtain ⟨vs, g, d⟩ := S.lstOf (pre_get p e) c
    refine ⟨vs, SqL.of g, ?_⟩
    rw [ey, enumL_len, d.length]
    exact Nat.le_refl _
end
theorem pi_en {elts : List Expr} {kk : Nat} {tpos : Pos} {iter : Expr} {m : SA} (M : MonoSA m) (hK : B.K = X.K) (h : PI X (.Tuple elts kk tpos) iter (iEnum X.K (tAr B W m))) : PI X (.Tuple elts kk tpos) iter (tIt B W m .enum) := PI.imp h fun σV H R ⟨ρ, σ, s, L, S, q⟩ =>
  ⟨ρ, σ, s, L, S, M _ _ _ _ _ _ (fun ds s1 q ρ1 H1 vs p1 k1 rs S1 => by
    unfold xIt at q
    split at q <;> rename_i e1 <;> try cases e1
    · rename_i n
      split at q
      · rename_i xs hs
        obtain ⟨w, rfl, r⟩ := rel1 rs
        obtain ⟨a, rfl, e⟩ := r
        obtain ⟨ws, g, d⟩ := S1.lstOf e hs
        exact ⟨a, ws, rfl, SqL.of g, q ρ1 H1 (Ite X.K a) p1 k1 S1 (srv_enum hK e)⟩
      · exact q.elim
    all_goals exact q.elim) (fun _ _ _ h => h) q⟩
/-! ### fields -/
structure ClsOk (B : Tb) (K : PySem.W.Frag) (nf : Nat) : Prop where
  nm : NmOk B
  cls : ∀ c C, B.cl c = some C → Cls K C
  no : ∀ c C f x, B.cl c = some C → f < nf → B.at_[f]? = some x → NoAttr K C x
theorem insOf_eq {s : Sto} {x : D} {n c : Nat} {fs : List (Nat × D)} (h : insOf s x = some (n, c, fs)) : x = .ref n ∧ s[n]? = some (.ins c fs) := by
  cases x <;> simp only [insOf] at h <;> try cases h
  split at h
  · rename_i hs
    cases h
    exact ⟨rfl, hs⟩
  · cases h
theorem pe_fl {e : Expr} {x : Str} {f nf : Nat} {pos : Pos} {m : SE} (M : MonoSE m) (O : ClsOk B X.K nf) (hf : f < nf) (hx : B.at_[f]? = some x) (he : PE X e (tO B W m)) (hb : attributeBase e x X.env (eval e X.env) = eval e X.env) :
    PE X (.Attribute e x pos) (tO B W fun σ s Q E => m σ s (fun d s1 => xFld d f s1 Q) E) :=
  PE.imp (pe_fld he hb) fun σ H Q ⟨ρ, σ', s, L, S, q⟩ => ⟨ρ, σ', s, L, S, M _ _ _ _ _ _ (fun d s1 q ρ1 H1 v p1 k1 r S1 => by
    unfold xFld at q
    split at q
    · rename_i n c fs hi
      split at q
      · rename_i w hw
        obtain ⟨rfl, hs⟩ := insOf_eq hi
        obtain ⟨a, rfl, e⟩ := r
        obtain ⟨C, dx, l, hc, g, rf⟩ := S1.insOf e hs
        obtain ⟨v, h1, h2⟩ := (RelF.get O.nm hx rf).1 _ hw
        exact ⟨a, C, dx, l, v, rfl, g, O.cls c C hc, O.no c C f x hc hf hx, h1, Lift.here (Lift.mono p1 k1 q) h2 S1⟩
      · exact q.elim
    · exact q.elim) (fun _ _ _ h => h) q⟩
theorem ps_fs {o e : Expr} {x : Str} {f nf : Nat} {p1 pos : Pos} {mo me : SE} (Mo : MonoSE mo) (Me : MonoSE me) (O : ClsOk B X.K nf) (hf : f < nf) (hx : B.at_[f]? = some x) (ho : PE X o (tO B W mo)) (he : PE X e (tO B W me)) :
    PS X (.Assign [.Attribute o x p1] e pos) (tS B W fun σ s N => me σ s (fun v s1 => mo σ s1 (fun d s2 => xFset d f v s2 fun s3 => N.nx σ s3) (fun c fs s1 => N.ex c fs σ s1)) (fun c fs s1 => N.ex c fs σ s1)) :=
  PS.imp (ps_fld ho he (by cases e <;> rfl)) fun N σV H ⟨ρ, σ, s, L, S, q⟩ => ⟨ρ, σ, s, L, S, Me _ _ _ _ _ _ (fun dv s1 q ρ1 H1 vv p1 k1 rv S1 =>
    ⟨ρ1, σ, s1, L.mono p1 k1, S1, Mo _ _ _ _ _ _ (fun dx s2 q ρ2 H2 vx p2 k2 rx S2 => by
      unfold xFset at q
      split at q
      · rename_i n c fs hi
        obtain ⟨rfl, hs⟩ := insOf_eq hi
        obtain ⟨a, rfl, e⟩ := rx
        obtain ⟨C, dxx, l, hc, g, rf⟩ := S2.insOf e hs
        have hU : RelU B H2 ρ2 (.ins c fs) (.ins C dxx l) := ⟨C, dxx, l, hc, rfl, rf⟩
        have kk : Keep H2 (upd H2 a (.ins C dxx (putF x vv l))) := hU.keep rfl g
        refine ⟨a, C, dxx, l, rfl, g, O.cls c C hc, O.no c C f x hc hf hx, by rw [← rf.length]; exact q.1, ?_⟩
        exact q.2 ρ2 _ σV (p1.trans p2) ((k1.trans k2).trans kk) (L.mono (p1.trans p2) ((k1.trans k2).trans kk)) (S2.setO rfl e hs g hU ⟨C, dxx, _, hc, rfl, RelF.put O.nm hx (rv.mono p2 k2) rf⟩)
      · exact q.elim) (fun _ _ _ h => LiftX.mono p1 k1 (ex_of L h)) q⟩) (fun _ _ _ h => ex_of L h) q⟩
/-- in place, ints -/
def rIp (op : Operator) : V → V → Hp → VK → Prop := match op with
  | .Add => rAdd
  | .Sub => rSub
  | _ => fun _ _ _ _ => False
theorem in_ip {op : Operator} (h : op = .Add ∨ op = .Sub) : InOp X op (rIp op) := by
  rcases h with rfl | rfl
  · exact in_add
  · exact in_sub
def faG (mo me : SE) (f : Nat) (op : Operator) : SS := fun σ s N => mo σ s (fun x s1 => xFa1 x f s1 fun n c v => me σ s1 (fun y s2 => xFa2 op n c f v y s2 fun s3 => N.nx σ s3) (fun c fs s1 => N.ex c fs σ s1)) (fun c fs s1 => N.ex c fs σ s1)
theorem ps_fa {o e : Expr} {x : Str} {f nf : Nat} {op : Operator} {p1 pos : Pos} {mo me : SE} (Mo : MonoSE mo) (Me : MonoSE me) (O : ClsOk B X.K nf) (hf : f < nf) (hx : B.at_[f]? = some x) (hop : op = .Add ∨ op = .Sub) (ho : PE X o (tO B W mo)) (he : PE X e (tO B W me)) :
    PS X (.AugAssign (.Attribute o x p1) op e pos) (tS B W (faG mo me f op)) :=
  PS.imp (ps_fldaug ho he (in_ip hop)) fun N σV H ⟨ρ, σ, s, L, S, q⟩ => by
  unfold faG at q
  refine ⟨ρ, σ, s, L, S, Mo _ _ _ _ _ _ (fun d s1 q ρ1 H1 v p1 k1 r S1 => ?_) (fun _ _ _ h => ex_of L h) q⟩
  unfold xFa1 at q
  split at q
  · rename_i n c fs hi
    split at q
    · rename_i w hw
      obtain ⟨rfl, hs⟩ := insOf_eq hi
      obtain ⟨a, rfl, e⟩ := r
      obtain ⟨C, dx, l, hc, g, rf⟩ := S1.insOf e hs
      obtain ⟨v, h1, h2⟩ := (RelF.get O.nm hx rf).1 _ hw
      refine ⟨a, C, dx, l, v, rfl, g, O.cls c C hc, O.no c C f x hc hf hx, h1, ρ1, σ, s1, L.mono p1 k1, S1, Me _ _ _ _ _ _ (fun y s2 q2 ρ2 H2 vy p2 k2 ry S2 => ?_) (fun _ _ _ h => LiftX.mono p1 k1 (ex_of L h)) q⟩
      have fin : ∀ (z : Int), (match s2[n]? with
              | some (.ins c' fs') => c' = c ∧ fs'.length < 1000 ∧ (LiftN B H ρ W N).nx σ (s2.set n (.ins c (fPut fs' f (.int z))))
              | _ => False) → ∃ dx' fs', H2 a = some (.ins C dx' fs') ∧ fs'.length < 1000 ∧ N.nx σV (upd H2 a (.ins C dx' (putF x (.int z) fs'))) := fun z q => by
        split at q
        · rename_i c' fs' hs2
          obtain ⟨rfl, hl, q⟩ := q
          have e2 := pre_get p2 e
          obtain ⟨C', dx', l', hc', g', rf'⟩ := S2.insOf e2 hs2
          rw [hc] at hc'
          cases hc'
          have hU : RelU B H2 ρ2 (.ins c' fs') (.ins C dx' l') := ⟨C, dx', l', hc, rfl, rf'⟩
          have kk : Keep H2 (upd H2 a (.ins C dx' (putF x (.int z) l'))) := hU.keep rfl g'
          refine ⟨dx', l', g', by rw [← rf'.length]; exact hl, ?_⟩
          exact q ρ2 _ σV (p1.trans p2) ((k1.trans k2).trans kk) (L.mono (p1.trans p2) ((k1.trans k2).trans kk)) (S2.setO rfl e2 hs2 g' hU ⟨C, dx', _, hc, rfl, RelF.put (d := .int z) (v := .int z) O.nm hx rfl rf'⟩)
        · exact q.elim
      unfold xFa2 at q2
      cases w <;> cases y <;> dsimp only at q2 <;> try exact q2.elim
      case int.int i j =>
        cases int_of h2
        cases int_of ry
        rcases hop with rfl | rfl
        · exact ⟨i, j, rfl, rfl, fin _ q2⟩
        · exact ⟨i, j, rfl, rfl, fin _ q2⟩
    · exact q.elim
  · exact q.elim
/-! ### calls of classes and of methods -/
theorem run_makeSD {CX : CXT} {k : Nat} {f C : Addr} {fd : FuncData} {ps : List Str} {sp : Sp} {E : L2.St → XK} {pins : List (Addr × Obj)} {σ : L2.St} {H : Hp} {s : Shared} {Q : VK} {us : List Value} {vs : List V} (M : Mk X.K C f) (F : FnOk X.prog X.w X.K X.mg X.base CX k f fd ps sp) (hr : Room (k + 1) X.A) (hb : Binds X.K fd ps [])
    (hx : PassesAt CX X σ (E σ)) (I : Inv X pins σ H s) (r : Vals vs us)
    (h : ∀ x dx, H x = none → H dx = none → dx ≠ x → sp (.ref x :: vs) (upd (upd H dx (.own x)) x (.ins C dx [])) (fun v H2 => v = .non ∧ Q (.ref x) H2) (E σ)) :
    wpAny (model X.prog X.w) X.A (call (.ref C) us) (EP X pins σ Q) X.xe s := by
  have hq := h (s.heap.objs.size + 1) s.heap.objs.size (I.hok.fresh (Nat.le_succ _)) (I.hok.fresh (Nat.le_refl _)) (Nat.ne_of_lt (Nat.lt_succ_self _))
  have I2 := Inv.made (C := C) I
  have r2 : Vals (V.ref (s.heap.objs.size + 1) :: vs) (Value.ref (s.heap.objs.size + 1) :: us) := .cons rfl r
  have hl : (Value.ref (s.heap.objs.size + 1) :: us ++ ([] : List Value)).length = ps.length := by
    have e := r2.length
    rw [F.len _ _ _ _ hq] at e
    rw [List.append_nil]
    exact e.symm
  have hbt := hb _ (Value.ref (s.heap.objs.size + 1) :: us) I2.kIn hl
  rw [List.append_nil] at hbt
  refine wpAny_call (make_map (f := f) I.kIn M.makes M.init (beq_iff_eq.mp M.fn) (codeAny_mono (F.run _ X.stack _ _ ⟨Value.ref (s.heap.objs.size + 1) :: us, []⟩ (Value.ref (s.heap.objs.size + 1) :: us) _ _ (E σ) (hr.make C us [])
    (I2.env0.make C us []) hbt r2 hq) fun r s' hq' => ?_))
  cases r with
  | error e => exact hx pins _ _ e s' I2 hq'
  | ok fl =>
    cases fl with
    | ret u =>
      obtain ⟨v, H', I3, rv, ev, q3⟩ := I2.after hq'
      subst ev
      exact ⟨rv, ⟨V.ref (s.heap.objs.size + 1), H', I3, rfl, q3⟩⟩
    | next => exact False.elim hq'
    | brk => exact False.elim hq'
    | cont => exact False.elim hq'
def tMakeSD (C : Addr) (sp : Sp) (E : L2.St → XK) (t : TA) : L2.TE := fun σ H Q => t σ H fun vs H1 => ∀ x dx, H1 x = none → H1 dx = none → dx ≠ x →
  sp (.ref x :: vs) (upd (upd H1 dx (.own x)) x (.ins C dx [])) (fun v H2 => v = .non ∧ Q (.ref x) H2) (E σ)
section
variable {CX : CXT} {k : Nat} {f C : Addr} {fd : FuncData} {ps : List Str} {sp : Sp} {E : L2.St → XK} {x m : Str} {p pos apos : Pos} {e o : Expr} {es : List Expr} {ta : L2.TE} {t : TA}
theorem pe_makeSD (M : Mk X.K C f) (F : FnOk X.prog X.w X.K X.mg X.base CX k f fd ps sp) (hr : Room (k + 1) X.A) (hg : Gl X x) (hm : X.mg x = some (.ref C)) (hb : Binds X.K fd ps []) (hx : ∀ σ, PassesAt CX X σ (E σ))
    (ha : PA X (e :: es) t) (hdb : (x == ("__debug__" : Str)) = false) (he : starEach (e :: es) X.env = (false, eval e X.env) :: starEach es X.env) (hpl : (backTo pos (starEach es X.env)).any (·.1) = false) :
    PE X (.Call (.Name x p) (e :: es) [] pos) (tMakeSD C sp E t) := by
  refine ⟨fun pins s σ H Q I h => ?_⟩
  refine wpAny_Call_Name_kw (ld_glob I hg hm ?_ hdb)
  refine PySem.W.callWith_K (h₀ := X.base) I.ok.mod.kin M.kp (thn (ha.run pos pins s σ H _ I h) fun us s1 ⟨vs, H1, I1, r, q⟩ => ⟨I1.kIn, ?_⟩) he hpl
  exact run_makeSD M F hr hb (hx σ) I1 r q
theorem pe_makeSD0 (M : Mk X.K C f) (F : FnOk X.prog X.w X.K X.mg X.base CX k f fd ps sp) (hr : Room (k + 1) X.A) (hg : Gl X x) (hm : X.mg x = some (.ref C)) (hb : Binds X.K fd ps []) (hx : ∀ σ, PassesAt CX X σ (E σ))
    (hdb : (x == ("__debug__" : Str)) = false) : PE X (.Call (.Name x p) [] [] pos) (tMakeSD C sp E tNil) := by
  refine ⟨fun pins s σ H Q I h => ?_⟩
  refine wpAny_Call_Name_kw (ld_glob I hg hm ?_ hdb)
  exact PySem.W.callWith_K0 I.kIn M.kp (run_makeSD (us := []) M F hr hb (hx σ) I .nil h)
theorem meth_eq {args : List Expr} {env : Env} (hbase : attributeBase o m env (eval o env) = eval o env)
    (hfew : ((backTo pos (starEach args env)).all (fun x => !x.1) && (backToKw pos (keywordEach [] env)).all (fun x => x.1.isSome)
      && decide (args.length + ([] : List Keyword).length + (if ([] : List Keyword).isEmpty then 0 else 1) < 30)) = true) (hline : (apos.endLine == pos.line) = true) :
    ∃ pl, eval (.Call (.Attribute o m apos) args [] pos) env = (do
      let ov ← eval o env
      standAt apos.atName
      let (f, first) ← holding [ov] (getMethod ov m pl)
      callWith pos f first (backTo pos (starEach args env)) (backToKw pos (keywordEach [] env))) := by
  refine ⟨(do return (← importBound o env).getD true), ?_⟩
  rw [arm_eval_Call, hbase]
  have hform : methodCallForm (args.length + ([] : List Keyword).length) (backTo pos (starEach args env)) (backToKw pos (keywordEach [] env)) = true := hfew
  unfold methodCall calleeOf methodCallPos
  simp only [hform, hline, if_true, Bool.not_true, Bool.or_true]
  rfl
/-- o.m(..), the class told by the heap -/
def tMethD (X : Cx) (CX : CXT) (k : Nat) (E : L2.St → XK) (ta : L2.TE) (m : Str) (t : TA) : L2.TE := fun σ H Q => ta σ H fun x H1 => ∃ (a C dx : Addr) (fs : List (Str × V)) (f : Addr) (fd : FuncData) (ps : List Str) (sp : Sp), x = .ref a ∧ H1 a = some (.ins C dx fs) ∧ fs.lookup m = none ∧
  Cls X.K C ∧ Meth X.K C m f ∧ FnOk X.prog X.w X.K X.mg X.base CX k f fd ps sp ∧ Binds X.K fd ps [] ∧ t σ H1 fun vs H2 => sp (x :: vs) H2 Q (E σ)
theorem pe_methD (he : PE X o ta) (hr : Room k X.A) (hx : ∀ σ, PassesAt CX X σ (E σ)) (ha : PA X (e :: es) t)
    (hbase : attributeBase o m X.env (eval o X.env) = eval o X.env)
    (hfew : ((backTo pos (starEach (e :: es) X.env)).all (fun x => !x.1) && (backToKw pos (keywordEach [] X.env)).all (fun x => x.1.isSome)
      && decide ((e :: es).length + ([] : List Keyword).length + (if ([] : List Keyword).isEmpty then 0 else 1) < 30)) = true) (hline : (apos.endLine == pos.line) = true)
    (hst : starEach (e :: es) X.env = (false, eval e X.env) :: starEach es X.env) (hpl : (backTo pos (starEach es X.env)).any (·.1) = false) :
    PE X (.Call (.Attribute o m apos) (e :: es) [] pos) (tMethD X CX k E ta m t) := by
  obtain ⟨pl, ht⟩ := meth_eq hbase hfew hline
  refine ⟨fun pins s σ H Q I h => ?_⟩
  refine PySem.W.methodCall_KW (pl := pl) (thn (he.run pins s σ H _ I h) fun u s1 ⟨x, H1, I1, rx, a, C, dx, fs, f, fd, ps, sp, ex, ea, l, c, hm, F, hb, q⟩ => ?_) ht
  subst ex
  obtain rfl : u = Value.ref a := rx
  refine getmeth_ok I1 ea c hm l ?_
  refine PySem.W.callWith_K (first := [.ref a]) (h₀ := X.base) I.ok.mod.kin hm.kp (thn (ha.run pos pins s1 σ H1 _ I1 q) fun us s2 ⟨vs, H2, I2, r, q2⟩ => ⟨I2.kIn, ?_⟩) hst hpl
  exact run_fnSD (dvs := []) (ds := []) (us := .ref a :: us) (vs := .ref a :: vs) F hr hb .nil (hx σ) I2 (.cons rfl r) (by rw [List.append_nil]; exact q2)
theorem pe_methD0 (he : PE X o ta) (hr : Room k X.A) (hx : ∀ σ, PassesAt CX X σ (E σ))
    (hbase : attributeBase o m X.env (eval o X.env) = eval o X.env) (hline : (apos.endLine == pos.line) = true) :
    PE X (.Call (.Attribute o m apos) [] [] pos) (tMethD X CX k E ta m tNil) := by
  obtain ⟨pl, ht⟩ := meth_eq (args := []) (o := o) (m := m) (apos := apos) (pos := pos) (env := X.env) hbase (by rfl) hline
  refine ⟨fun pins s σ H Q I h => ?_⟩
  refine PySem.W.methodCall_KW (pl := pl) (thn (he.run pins s σ H _ I h) fun u s1 ⟨x, H1, I1, rx, a, C, dx, fs, f, fd, ps, sp, ex, ea, l, c, hm, F, hb, q⟩ => ?_) ht
  subst ex
  obtain rfl : u = Value.ref a := rx
  refine getmeth_ok I1 ea c hm l ?_
  have q : sp (.ref a :: []) H1 Q (E σ) := q
  exact PySem.W.callWith_K0 (first := [.ref a]) I1.kIn hm.kp (run_fnSD (dvs := []) (ds := []) (us := [.ref a]) (vs := [.ref a]) F hr hb .nil (hx σ) I1 (.cons rfl .nil) q)
end
/-! ### dict comprehensions -/
theorem dc_of {J : It} {tg : TG} {o : WK} {items : List D} {vs : List Nat} {mt : Sl → Sto → (Bool → Sto → Prop) → Prop} {mk' me : SE} {K : Sto → Prop} {Q : VK} {H1 : Hp} {ρ1 : List Addr} {σ1 : Sl} {s1 : Sto} {σV1 : L2.St} {Dn : Addr}
    (Mt : ∀ σ s K K', (∀ b s, K b s → K' b s) → mt σ s K → mt σ s K') (Mk' : MonoSE mk') (Me : MonoSE me) (V : Srv B J H1 ρ1 items o) (L1 : RelL B H1 ρ1 σ1 σV1) (S1 : RelS B H1 ρ1 s1) (hD : H1 Dn = none)
    (hK : ∀ ρ2 H2 s2, ρ1 <+: ρ2 → Keep H1 H2 → RelS B H2 ρ2 s2 → ρ2[s1.length]? = some Dn → K s2 → Q (.ref Dn) H2)
    (q : dcGo tg o items s1.length mt (fun σ' s' K => mk' σ' s' K (fun _ _ _ => False)) (fun σ' s' K => me σ' s' K (fun _ _ _ => False)) vs σ1 items (s1 ++ [.dic []]) K) :
    ∃ W' : Nat → Nat → Hp → Prop, (∃ m, W' 0 m (upd H1 Dn (.dK []))) ∧ ∀ i m H, W' i m H → (J.stop i H ∧ Q (.ref Dn) H) ∨ (J.go i H ∧ ∃ Nx : Hp → Prop, (∀ H', Nx H' → ∃ m', m' < m ∧ W' (i + 1) m' H') ∧
      ∀ x H', J.yld i H x H' → gW B vs tg x (wipe σV1 vs) H' fun σ2 H2 => wipe σ2 vs = wipe σV1 vs ∧ tTi B mt σ2 H2 fun b H3 =>
        if b = true then tO B W0 mk' σ2 H3 fun y H4 => tO B W0 me σ2 H4 fun z H5 => ∃ kvs k, y = kV k ∧ H5 Dn = some (.dK kvs) ∧ kvs.length < sizeLine ∧ Nx (upd H5 Dn (.dK (putK kvs k z))) else Nx H3) := by
  have kD : Keep H1 (upd H1 Dn (.dK [])) := .new hD
  have pD : ρ1 <+: ρ1 ++ [Dn] := List.prefix_append _ _
  have eD : (ρ1 ++ [Dn])[s1.length]? = some Dn := by
    rw [← S1.len, List.getElem?_append_right (Nat.le_refl _), Nat.sub_self]
    rfl
  have S0 : RelS B (upd H1 Dn (.dK [])) (ρ1 ++ [Dn]) (s1 ++ [Ob.dic []]) := S1.push hD (show RelO B _ _ _ (Ob.dic []) from ⟨_, upd_same, [], rfl, rfl⟩)
  refine ⟨fun i m H2 => m = items.length - i ∧ i ≤ items.length ∧ ∃ ρ2 s2, (ρ1 ++ [Dn]) <+: ρ2 ∧ Keep H1 H2 ∧ RelL B H2 ρ2 σ1 σV1 ∧ RelS B H2 ρ2 s2 ∧ dcGo tg o items s1.length mt (fun σ' s' K => mk' σ' s' K (fun _ _ _ => False)) (fun σ' s' K => me σ' s' K (fun _ _ _ => False)) vs σ1 (items.drop i) s2 K,
    ⟨_, rfl, Nat.zero_le _, ρ1 ++ [Dn], s1 ++ [Ob.dic []], List.prefix_refl _, kD, L1.mono pD kD, S0, q⟩, ?_⟩
  rintro i m H2 ⟨rfl, hi, ρ2, s2, p2, k2, L2, S2, q⟩
  have p1 := pD.trans p2
  have e2 : ρ2[s1.length]? = some Dn := pre_get p2 eD
  by_cases hlt : i < items.length
  · rw [List.drop_eq_getElem_cons hlt] at q
    obtain ⟨c, q⟩ := q
    refine .inr ⟨V.go i H2 ρ2 s2 p1 k2 S2 c hlt, fun H' => ∃ ρ3 s3, (ρ1 ++ [Dn]) <+: ρ3 ∧ Keep H1 H' ∧ RelL B H' ρ3 σ1 σV1 ∧ RelS B H' ρ3 s3 ∧ dcGo tg o items s1.length mt (fun σ' s' K => mk' σ' s' K (fun _ _ _ => False)) (fun σ' s' K => me σ' s' K (fun _ _ _ => False)) vs σ1 (items.drop (i + 1)) s3 K,
      fun H' h => ⟨items.length - (i + 1), by omega, rfl, hlt, h⟩, fun x H' y => ?_⟩
    obtain ⟨d, hd, S3, k3, r⟩ := V.yld i H2 ρ2 s2 x H' p1 k2 S2 c hlt y
    have e : items[i] = d := Option.some.inj ((List.getElem?_eq_getElem hlt).symm.trans hd)
    rw [e] at q
    have L3 := L2.mono (List.prefix_refl _) k3
    refine ⟨ρ2, wipeS σ1 vs, d, L3.wipe vs, r, xTg_mono tg (fun σ' h σV' L' ew => ⟨ew.trans (wipe_idem vs), ρ2, σ', s2, L', S3, Mt _ _ _ _ (fun b s4 h ρ4 H4 p4 k4 S4 => ?_) h⟩) q⟩
    have K4 := (k2.trans k3).trans k4
    cases b with
    | false =>
      dsimp only at h ⊢
      rw [if_neg Bool.false_ne_true] at h ⊢
      exact ⟨ρ4, s4, p2.trans p4, K4, L3.mono p4 k4, S4, h⟩
    | true =>
      dsimp only at h ⊢
      rw [if_pos rfl] at h ⊢
      refine ⟨ρ4, σ', s4, L'.mono p4 k4, S4, Mk' _ _ _ _ _ _ (fun y5 s5 h ρ5 H5 v5 p5 k5 r5 S5 => ?_) (fun _ _ _ h => h.elim) h⟩
      refine ⟨ρ5, σ', s5, (L'.mono p4 k4).mono p5 k5, S5, Me _ _ _ _ _ _ (fun y6 s6 h ρ6 H6 v6 p6 k6 r6 S6 => ?_) (fun _ _ _ h => h.elim) h⟩
      split at h
      · rename_i kvs hs
        obtain ⟨hk, hl, h⟩ := h
        have e6 : ρ6[s1.length]? = some Dn := pre_get ((p4.trans p5).trans p6) e2
        obtain ⟨l, g, rk⟩ := S6.dicOf e6 hs
        obtain ⟨k, h1, rfl⟩ := keyV_of r5 hk
        have hU : RelU B H6 ρ6 (.dic kvs) (.dK l) := ⟨l, rfl, rk⟩
        have k7 : Keep H6 (upd H6 Dn (.dK (putK l k v6))) := hU.keep rfl g
        exact ⟨l, k, rfl, g, by rw [← kv_len rk]; exact hl, ρ6, _, ((p2.trans p4).trans p5).trans p6, ((K4.trans k5).trans k6).trans k7, (((L3.mono p4 k4).mono p5 k5).mono p6 k6).mono (List.prefix_refl _) k7, S6.setO (o' := .dic (dPut kvs y5 y6)) rfl e6 hs g hU ⟨_, rfl, kv_put h1 r6 rk⟩, h⟩
      · exact h.elim
  · have e : i = items.length := by omega
    subst e
    rw [List.drop_length] at q
    exact .inl ⟨V.stop H2 ρ2 s2 p1 k2 S2 q.1, hK ρ2 H2 s2 p1 k2 S2 e2 q.2⟩
theorem dc_imp {tg : TG} {ik : IK} {m : SA} {vs : List Nat} {mt : Sl → Sto → (Bool → Sto → Prop) → Prop} {mk' me : SE} (M : MonoSA m) (Mt : ∀ σ s K K', (∀ b s, K b s → K' b s) → mt σ s K → mt σ s K') (Mk' : MonoSE mk') (Me : MonoSE me) {σV : L2.St} {H : Hp} {Q : VK}
    (h : tO B W (fun σ s Q E => m σ s (fun ds s1 => xIt ik ds s1 fun items o => dcGo tg o items s1.length mt (fun σ' s' K => mk' σ' s' K (fun _ _ _ => False)) (fun σ' s' K => me σ' s' K (fun _ _ _ => False)) vs σ items (s1 ++ [.dic []]) fun s' => Q (.ref s1.length) s') E) σV H Q) :
    tDc (tIt B W m ik) (gW B vs tg) (tTi B mt) (tO B W0 mk') (tO B W0 me) vs σV H Q := by
  obtain ⟨ρ, σ, s, L, S, q⟩ := h
  refine ⟨ρ, σ, s, L, S, M _ _ _ _ _ _ (fun ds s1 h => xIt_mono ik ds (fun items o q ρ1 H1 J p1 k1 S1 V Dn hD => ?_) h) (fun _ _ _ h => h) q⟩
  exact dc_of Mt Mk' Me V (L.mono p1 k1) S1 hD (fun ρ2 H2 s2 p2 k2 S2 e2 h => h ρ2 H2 (.ref Dn) (p1.trans p2) (k1.trans k2) ⟨Dn, rfl, e2⟩ S2) q
theorem ps_setDc {i : Nat} {y : Str} {py : Pos} {kx vx tg iter : Expr} {ifs : List Expr} {scope : Scope} {own : List (Str × Nat)} {pos spos : Pos} {wi : TI} {g : L2.TG} {tt : TT} {tk te : L2.TE} (hc : X.calm = true) (hN : X.N.Nodup) (hy : X.N[i]? = some y) (hyl : X.env.scope.names.lookup y = some .local)
    (hsw : swapsWith (.DictComp kx vx [⟨tg, iter, ifs, 0⟩] scope pos) (some (.Name y py)) spos.line X.env = pure true) (hi : PI X tg iter wi) (ok : BlkOk X.N X.env.scope scope own)
    (hg : ∀ (s : Shared) (H : Hp) (C : Addr) (cl : List (Str × Addr)) (fp : List Addr), PG (X.blk s H scope (compEnvC scope cl C X.env) fp) tg g) (ht : ∀ (s : Shared) (H : Hp) (C : Addr) (cl : List (Str × Addr)) (fp : List Addr), PTs (X.blk s H scope (compEnvC scope cl C X.env) fp) ifs tt)
    (hk : ∀ (s : Shared) (H : Hp) (C : Addr) (cl : List (Str × Addr)) (fp : List Addr), PE (X.blk s H scope (compEnvC scope cl C X.env) fp) kx tk)
    (he : ∀ (s : Shared) (H : Hp) (C : Addr) (cl : List (Str × Addr)) (fp : List Addr), PE (X.blk s H scope (compEnvC scope cl C X.env) fp) vx te) (hs : ∀ x, foldedSetIterable iter X.env x = pure x) :
    PS X (.Assign [.Name y py] (.DictComp kx vx [⟨tg, iter, ifs, 0⟩] scope pos) spos) (tAsg (tDc wi g tt tk te (own.map (·.2))) (gName i)) := by
  refine ⟨fun pins s σ H D I h => ?_⟩
  rw [exec_Assign_Name_used _ _ _ _ hsw]
  refine wpAny_bind (wpAny_standAt (wpAny_bind ?_))
  show wpAny _ X.A (do let _ ← comprehension (.DictComp kx vx [⟨tg, iter, ifs, 0⟩] scope pos) scope X.env (firstIterPos [⟨tg, iter, ifs, 0⟩] pos) newDict false (eval iter X.env) (some (assign (.Name y py) X.env))) _ _ s
  have h : tDc wi g tt tk te (own.map (·.2)) σ H (fun x H1 => gName i x σ H1 D.nx) := h
  refine wpAny_bind (thn (dc_core (Qf := fun _ s' => SP X pins D .next s') hc hN I hi ok hg ht hk he hs h fun L C s' m H' I' q hn f => ?_) fun _ s' hq => wpAny_pure (wpAny_pure hq))
  show wpAny _ _ (assign (.Name y py) X.env (.ref L)) _ _ _
  refine wpAny_assign_Name (store_ok2 (v := V.ref L) I' hN hy (.inl hyl) rfl (fun s2 I2 ⟨a, sb, ha⟩ => ?_) (.inr hyl))
  obtain ⟨f0, f1, f2, f3, f4, f5⟩ := f
  have haC : C ≠ a := by
    rcases ha with z | z
    · rw [z]; exact f1
    · exact fun e => f4 y a z e.symm
  refine ⟨m, hn.sameBut sb haC, fun h3 sb3 => ?_⟩
  exact ⟨_, H', I2.turned (t' := s2.toks) (fun b o hb e => (sb3.2 b hb).trans e) f0 f1 f3 f4 f5, q⟩
/-! ### xs[::-1] -/
theorem pe_rv {e : Expr} {k : Nat} {p1 p2 p3 pos : Pos} {m : SE} (M : MonoSE m) (hK : B.K = X.K) (he : PE X e (tO B W m)) : PE X (.Subscript e (.Slice none none (some (.UnaryOp .USub (.Constant (.int 1) k p1) p2)) p3) pos) (tO B W fun σ s Q E => m σ s (fun x s1 => xRvs x s1 Q) E) :=
  PE.imp (pe_revL he) fun σ H Q ⟨ρ, σ', s, L, S, q⟩ => ⟨ρ, σ', s, L, S, M _ _ _ _ _ _ (fun d s1 q ρ1 H1 v p1 k1 r S1 => by
    unfold xRvs at q
    split at q
    · rename_i xs hx
      obtain ⟨a, vs, rfl, sq, d⟩ := seq_list S1 r hx q.1
      exact ⟨a, vs, rfl, hK ▸ sq, fun p hp => mk_new S1 d.reverse (mk_mono (fun _ _ h => Lift.mono p1 k1 h) q.2) hp⟩
    · exact q.elim) (fun _ _ _ h => h) q⟩
/-! ### for k in d -/
theorem kv_at {H : Hp} {ρ : List Addr} : ∀ {kvs : List (D × D)} {l : List (Key × V)}, RelKV B H ρ kvs l → ∀ {i : Nat} {k : Key} {v : V}, l[i]? = some (k, v) → ∃ x d, kvs[i]? = some (x, d) ∧ keyV x = some k
  | [], l, h, i, k, v, e => by rw [show l = [] from h] at e; simp at e
  | (x, d) :: r, l, h, i, k, v, e => by
    obtain ⟨k', v', l', rfl, h1, h2, h3⟩ := h
    cases i with
    | zero => cases e; exact ⟨x, d, rfl, h1⟩
    | succ i => exact kv_at h3 (i := i) e
section
variable {H0 : Hp} {ρ0 : List Addr}
theorem srv_key {a : Addr} {n : Nat} {od : Obj} {kvs : List (D × D)} {l : List (Key × V)} (e : ρ0[n]? = some a) (h0 : H0 a = some (.frz od (.dK l))) (r : RelKV B H0 ρ0 kvs l) : Srv B (Itk a od l) H0 ρ0 (kvs.map (·.1)) (.key n kvs) where
  go := fun i H ρ s p k S c hi => by
    rw [List.length_map] at hi
    exact ⟨k.frz _ _ _ h0, by rw [← kv_len r]; exact hi⟩
  yld := fun i H ρ s x H' p k S c hi y => by
    obtain ⟨rfl, kk, v, h1, rfl⟩ := y
    obtain ⟨z, d, h2, h3⟩ := kv_at r h1
    exact ⟨z, by rw [List.getElem?_map, h2]; rfl, S, Keep.refl _, keyV_rel h3⟩
  stop := fun H ρ s p k S c => ⟨k.frz _ _ _ h0, by rw [List.length_map, kv_len r]; exact Nat.le_refl _⟩
end
/-- what stays when a dict is locked, or let go -/
theorem KeepD.dict {H : Hp} {a : Addr} {u u' : HO} (h : H a = some u) (ht : ∀ xs, u ≠ .tup xs) (h1 : ∀ o xs, u ≠ .frz o (.tup xs)) (h2 : ∀ o xs, u ≠ .frz o (.lst xs)) : KeepD H (upd H a u') :=
  ⟨fun b xs e => by rw [upd_ne (ne_of e h (ht xs).symm)]; exact e, fun b o xs e => by rw [upd_ne (ne_of e h (h1 o xs).symm)]; exact e, fun b o xs e => by rw [upd_ne (ne_of e h (h2 o xs).symm)]; exact e⟩
theorem ps_fk {tg : Expr} {x : Str} {px pos : Pos} {body : List Stmt} {t : TG} {i : Nat} {mb : SS} (hp : PassesOwn (model X.prog X.w) X.A X.env X.xe) (hc : X.calm = true) (Mb : MonoSS mb) (hv : PE X (.Name x px) (tVar i)) (hg : PG X tg (gT B t)) (hb : PSs X body (tS B W mb)) :
    PS X (.For tg (.Name x px) body [] pos) (tS B W fun σ s N => xFk σ i s fun n kvs => forGo t (.key n kvs) (kvs.map (·.1)) mb
        { nx := fun σ s => s[n]? = some (.ldic kvs) ∧ N.nx σ (s.set n (.dic kvs)), bk := fun σ s => s[n]? = some (.ldic kvs) ∧ N.bk σ (s.set n (.dic kvs)), ct := fun σ s => s[n]? = some (.ldic kvs) ∧ N.ct σ (s.set n (.dic kvs)),
          rt := fun d s => s[n]? = some (.ldic kvs) ∧ N.rt d (s.set n (.dic kvs)), ex := fun _ _ _ _ => False } (kvs.map (·.1)) σ (s.set n (.ldic kvs))) :=
  PS.imp (ps_lock (ps_for hp hc (pi_keys hv) hg hb)) fun N σV H ⟨ρ, σ, s, L, S, q⟩ => by
  unfold xFk at q
  dsimp only at q
  split at q
  · rename_i n hn
    split at q
    · rename_i kvs hs
      obtain ⟨v, h1, a, rfl, e⟩ := L.at_ i _ hn
      obtain ⟨l, g, r⟩ := S.dicOf e hs
      refine ⟨a, .dK l, g, trivial, fun od => ?_⟩
      have hU : RelU B H ρ (.dic kvs) (.dK l) := ⟨l, rfl, r⟩
      have k0 : Keep H (upd H a (.frz od (.dK l))) := hU.keep rfl g
      have S0 : RelS B (upd H a (.frz od (.dK l))) ρ (s.set n (.ldic kvs)) := S.setO (o' := .ldic kvs) rfl e hs g hU ⟨od, l, rfl, r⟩
      have L0 := L.mono (List.prefix_refl _) k0
      have V := srv_key (B := B) e (upd_same (H := H) (a := a) (o := .frz od (.dK l))) (r.mono (List.prefix_refl _) k0)
      refine ⟨.ref a, h1, a, od, rfl, .inl ⟨l, upd_same, ?_⟩⟩
      -- behind: the dict is let go
      have back : ∀ {ρ2 H2 s2}, ρ <+: ρ2 → Keep (upd H a (.frz od (.dK l))) H2 → RelS B H2 ρ2 s2 → s2[n]? = some (.ldic kvs) → H2 a = some (.frz od (.dK l)) ∧ Keep H (upd H2 a (.dK l)) ∧ KeepD H2 (upd H2 a (.dK l)) ∧ RelS B (upd H2 a (.dK l)) ρ2 (s2.set n (.dic kvs)) := fun {ρ2 H2 s2} p2 k2 S2 c => by
        have f : H2 a = some (.frz od (.dK l)) := k2.frz _ _ _ upd_same
        have kd : KeepD H2 (upd H2 a (.dK l)) := KeepD.dict f (fun xs z => by cases z) (fun o xs z => by cases z) (fun o xs z => by cases z)
        have ka : Keep H (upd H2 a (.dK l)) := ⟨fun b xs eb => by
          have nb : b ≠ a := ne_of eb g (by intro z; cases z)
          rw [upd_ne nb]
          exact k2.tup _ _ (by rw [upd_ne nb]; exact eb), fun b o u eb => by
          have nb : b ≠ a := ne_of eb g (by intro z; cases z)
          rw [upd_ne nb]
          exact k2.frz _ _ _ (by rw [upd_ne nb]; exact eb)⟩
        have e2 := pre_get p2 e
        exact ⟨f, ka, kd, S2.setK kd e2 c ⟨l, rfl, (r.mono p2 (k0.trans k2))⟩⟩
      have backL : ∀ {ρ2 H2 σ2 σV2}, KeepD H2 (upd H2 a (.dK l)) → RelL B H2 ρ2 σ2 σV2 → RelL B (upd H2 a (.dK l)) ρ2 σ2 σV2 := fun kd L2 => ⟨L2.len, fun j d ej => let ⟨v, q1, q2⟩ := L2.at_ j d ej; ⟨v, q1, q2.monoD (List.prefix_refl _) kd⟩⟩
      refine for_of (W := W) (N := ⟨fun σ' H' => H' a = some (.frz od (.dK l)) ∧ N.nx σ' (upd H' a (.dK l)), fun v H' => H' a = some (.frz od (.dK l)) ∧ N.rt v (upd H' a (.dK l)), fun σ' H' => H' a = some (.frz od (.dK l)) ∧ N.bk σ' (upd H' a (.dK l)), fun σ' H' => H' a = some (.frz od (.dK l)) ∧ N.ct σ' (upd H' a (.dK l))⟩) Mb ⟨?_, ?_, ?_, ?_, ?_⟩ V L0 S0 q
      · rintro σ2 s2 ⟨c, h⟩ ρ2 H2 σV2 p2 k2 L2 S2
        obtain ⟨f, ka, kd, S3⟩ := back p2 k2 S2 c
        exact ⟨f, h ρ2 _ σV2 p2 ka (backL kd L2) S3⟩
      · rintro d s2 ⟨c, h⟩ ρ2 H2 v p2 k2 rv S2
        obtain ⟨f, ka, kd, S3⟩ := back p2 k2 S2 c
        exact ⟨f, h ρ2 _ v p2 ka (rv.monoD (List.prefix_refl _) kd) S3⟩
      · rintro σ2 s2 ⟨c, h⟩ ρ2 H2 σV2 p2 k2 L2 S2
        obtain ⟨f, ka, kd, S3⟩ := back p2 k2 S2 c
        exact ⟨f, h ρ2 _ σV2 p2 ka (backL kd L2) S3⟩
      · rintro σ2 s2 ⟨c, h⟩ ρ2 H2 σV2 p2 k2 L2 S2
        obtain ⟨f, ka, kd, S3⟩ := back p2 k2 S2 c
        exact ⟨f, h ρ2 _ σV2 p2 ka (backL kd L2) S3⟩
      · exact fun _ _ _ _ h => h.elim
    · exact q.elim
  · exact q.elim
end
end PX

/-! PX: the translation of a def's body, and its soundness. -/
namespace PX
open PySem PySem.Spec PyProof.Rows L2
/-- a global name: a def (its number, its arity), a constant -/
inductive GE where
  | fn (id ar : Nat) | cst (d : D) | blt | cls (id ar : Nat)
structure TE where
  N : List Str
  sc : List (Str × NameKind)
  st : List (Str × NameKind)
  gl : List (Str × GE)
  /-- the names of attributes, fields first; how many fields; the classes of each method; the slots that hold dicts to be walked -/
  at_ : List Str
  nf : Nat
  mc : List (Nat × List Nat)
  dk : List Nat
def TE.slot (te : TE) (x : Str) : Option Nat :=
  match te.sc.lookup x with
  | some .local | some .cell | some .free => te.N.findIdx? (· == x)
  | _ => none
def TE.stor (te : TE) (x : Str) : Option Nat :=
  match te.st.lookup x with
  | some .local | some .cell => te.slot x
  | _ => none
def TE.glob (te : TE) (x : Str) : Option GE :=
  match te.sc.lookup x with
  | some .globalImplicit => te.gl.lookup x
  | _ => none
/-- a field, a method -/
def TE.fi (te : TE) (x : Str) : Option Nat := match te.at_.findIdx? (· == x) with
  | some i => if i < te.nf then some i else none
  | none => none
def TE.mi (te : TE) (x : Str) : Option (Nat × List Nat) := match te.at_.findIdx? (· == x) with
  | some i => (te.mc.lookup i).map fun cs => (i, cs)
  | none => none
def strC (x : Str) : Bool := decide (x.cps.toList.length ≤ sizeLine) && x.cps.toList.all (· < 1114112)
def litOf : Const → Option D
  | .none => some .non
  | .bool b => some (.bl b)
  | .int i => some (.int i)
  | .str x => if strC x then some (.str x.cps.toList) else none
  | _ => none
def tok : Expr → Bool
  | .IfExp _ _ _ _ => false
  | _ => true
def isSlice : Expr → Bool
  | .Slice _ _ _ _ => true
  | _ => false
def isTup : Expr → Bool
  | .Tuple _ _ _ => true
  | _ => false
def opOk : Operator → Bool
  | .Add | .Sub | .Mult | .FloorDiv | .Mod | .Pow => true
  | _ => false
def bfMore (x : Str) : Option BF := if x = "min" then some .min1 else if x = "max" then some .max1 else if x = "sum" then some .sum else if x = "sorted" then some .sorted else none
def bfOf (x : Str) (n : Nat) : Option BF :=
  if n = 1 then
    match bfMore x with
    | some f => some f
    | none =>
    if x = "len" then some .len else if x = "int" then some .int else if x = "abs" then some .abs else if x = "str" then some .str
    else if x = "tuple" then some .tuple else if x = "list" then some .list else none
  else if n = 2 then (if x = "max" then some .max2 else if x = "min" then some .min2 else none)
  else none
def mfOf (x : Str) (n : Nat) : Option MF :=
  if n = 0 then (if x = "pop" then some .pop0 else if x = "reverse" then some .reverse else if x = "rstrip" then some .rstrip else none)
  else if n = 1 then (if x = "append" then some .append else if x = "extend" then some .extend else if x = "join" then some .join else if x = "index" then some .index else none)
  else if n = 2 then (if x = "insert" then some .insert else if x = "get" then some .get2 else none)
  else none
def relab (scope : Scope) (te : TE) : List (Str × NameKind) := scope.names.map fun (n, k) => if (k == .free && te.sc.lookup n == some .cell) then (n, .cell) else (n, k)
/-- the own names of a comprehension's block, with their slots -/
def ownOf (scope : Scope) (te : TE) : List (Str × Nat) := scope.names.filterMap fun (n, k) => if k == .local || k == .cell then (te.N.findIdx? (· == n)).map fun i => (n, i) else none
mutual
def trG (te : TE) : Nat → Expr → Option TG
  | 0, _ => none
  | n + 1, .Name x _ => (te.stor x).map .nm
  | n + 1, .Tuple es _ _ => (trGs te n es).map .tp
  | _, _ => none
def trGs (te : TE) : Nat → List Expr → Option (List TG)
  | 0, _ => none
  | n + 1, [] => some []
  | n + 1, e :: es => match trG te n e, trGs te n es with
    | some t, some ts => some (t :: ts)
    | _, _ => none
end
/-- no call without arguments (it might be super()) -/
def noCall0 : Expr → Bool
  | .Call _ [] _ _ => false
  | _ => true
def isSet : Expr → Bool
  | .Set _ _ _ => true
  | _ => false
def tyNm (k : Nat) : String := if k = 0 then "int" else if k = 1 then "bool" else if k = 2 then "str" else if k = 3 then "tuple" else if k = 4 then "list" else "NoneType"
def tyCode (x : Str) : Option Nat := if x = "int" then some 0 else if x = "bool" then some 1 else if x = "str" then some 2 else if x = "tuple" then some 3 else if x = "list" then some 4 else none
/-- isinstance(e, T) -/
def isiArgs (te : TE) (x : Str) : List Expr → Option (Expr × Nat)
  | [e, .Name T _] => if x = ("isinstance" : Str) then match te.glob x, te.glob T, tyCode T with
    | some .blt, some .blt, some t => some (e, t)
    | _, _, _ => none
    else none
  | _ => none
def rangeArgs (te : TE) : Expr → Option (List Expr)
  | .Call (.Name x _) es [] _ => if x = ("range" : Str) then (match te.glob x with
    | some .blt => some es
    | _ => none) else none
  | _ => none
/-- enumerate(e) -/
def enumArgs (te : TE) : Expr → Option Expr
  | .Call (.Name x _) [e] [] _ => if x = ("enumerate" : Str) then (match te.glob x with
    | some .blt => some e
    | _ => none) else none
  | _ => none
def tgOk : IK → Expr → Bool
  | .enum, .Tuple _ _ _ => true
  | .enum, _ => false
  | _, _ => true
mutual
def trE : Nat → TE → Expr → Option EX
  | 0, _, _ => none
  | n + 1, te, .Constant c _ _ => (litOf c).map .lit
  | n + 1, te, .Name x _ => if x == ("__debug__" : Str) || x == ("__classdict__" : Str) then none else match te.slot x with
    | some i => some (.var i)
    | none => match te.glob x with
      | some (.cst d) => some (.lit d)
      | _ => none
  | n + 1, te, .BinOp a op b _ => if opOk op then match trE n te a, trE n te b with
    | some x, some y => some (.bin op x y)
    | _, _ => none
    else none
  | n + 1, te, .UnaryOp .USub a _ => (trE n te a).map .neg
  | n + 1, te, .UnaryOp .Not a _ => if tok a then (trE n te a).map .not else none
  | n + 1, te, .Compare a [op] [b] _ => if behindInMarks op b then none else match trE n te a, trE n te b with
    | some x, some y => some (.cmp op x y)
    | _, _ => none
  | n + 1, te, .Compare a [op, op'] [b, c] _ => if lastMarks [op, op'] [b, c] then none else match trE n te a, trE n te b, trE n te c with
    | some x, some y, some z => some (.chn op op' x y z)
    | _, _, _ => none
  | n + 1, te, .BoolOp op vs _ => trL n te op vs
  | n + 1, te, .IfExp c a b _ => if tok c then match trE n te c, trE n te a, trE n te b with
    | some x, some y, some z => some (.ite x y z)
    | _, _, _ => none
    else none
  | n + 1, te, .Tuple es _ _ => (trEs n te es).map .tup
  | n + 1, te, .List es _ => (trEs n te es).map .lst
  | n + 1, te, .Dict keys vals _ => if keys.isEmpty = false ∧ keys.length ≤ 15 then (trKV n te keys vals).map .dct else none
  | n + 1, te, .Subscript a (.Slice lo hi none _) _ => match trE n te a, trO n te lo, trO n te hi with
    | some x, some y, some z => some (.sl x y z)
    | _, _, _ => none
  | n + 1, te, .Subscript a (.Slice none none (some (.UnaryOp .USub (.Constant (.int 1) _ _) _)) _) _ => (trE n te a).map .rvs
  | n + 1, te, .Subscript a b _ => if isSlice b then none else match trE n te a, trE n te b with
    | some x, some y => some (.ix x y)
    | _, _ => none
  | n + 1, te, .Call (.Name x _) es [] _ => if x == ("__debug__" : Str) || x == ("__name__" : Str) then none else match isiArgs te x es with
    | some (e, t) => (trE n te e).map fun m => .blt (.isi t) [m]
    | none => match te.glob x with
      | some (.fn id ar) => if es.length = ar then (trEs n te es).map (.call id) else none
      | some (.cls id ar) => if es.length = ar then (trEs n te es).map (.call id) else none
      | some .blt => match bfOf x es.length, trEs n te es with
        | some f, some xs => some (.blt f xs)
        | _, _ => none
      | _ => none
  | n + 1, te, .Call (.Attribute o m ap) es [] cp => if (ap.endLine == cp.line) = true ∧ es.length < 20 ∧ noCall0 o = true then match te.mi m with
    | some (i, cs) => match trE n te o, trEs n te es with
      | some x, some xs => some (.mcall i cs x xs)
      | _, _ => none
    | none => match mfOf m es.length, trE n te o, trEs n te es with
      | some f, some x, some xs => some (.meth f x xs)
      | _, _, _ => none
    else none
  | n + 1, te, .Attribute o x _ => if noCall0 o then match te.fi x, trE n te o with
    | some f, some m => some (.fld m f)
    | _, _ => none
    else none
  | n + 1, te, .DictComp kx vx [⟨tg, it, ifs, 0⟩] scope _ =>
    let own := ownOf scope te
    let te2 : TE := { te with sc := relab scope te, st := scope.names }
    if blkC te.N ⟨.function, te.sc, false, false, []⟩ scope own then match trI n te it, trG te2 n tg, trEs n te2 ifs, trE n te2 kx, trE n te2 vx with
      | some (ik, its), some t, some cs, some k, some v => if subT (own.map (·.2)) t && ifs.length ≤ 1 && ifs.all tok && tgOk ik tg then some (.dc (own.map (·.2)) t ik its cs k v) else none
      | _, _, _, _, _ => none
    else none
  | n + 1, te, .ListComp elt [⟨tg, it, ifs, 0⟩] scope _ =>
    let own := ownOf scope te
    let te2 : TE := { te with sc := relab scope te, st := scope.names }
    if blkC te.N ⟨.function, te.sc, false, false, []⟩ scope own then match trI n te it, trG te2 n tg, trEs n te2 ifs, trE n te2 elt with
      | some (ik, its), some t, some cs, some e => if subT (own.map (·.2)) t && ifs.length ≤ 1 && ifs.all tok && tgOk ik tg then some (.lc (own.map (·.2)) t ik its cs e) else none
      | _, _, _, _ => none
    else none
  | _, _, _ => none
def trEs : Nat → TE → List Expr → Option (List EX)
  | 0, _, _ => none
  | n + 1, te, [] => some []
  | n + 1, te, e :: es => match trE n te e, trEs n te es with
    | some x, some xs => some (x :: xs)
    | _, _ => none
def trKV : Nat → TE → List (Option Expr) → List Expr → Option (List EX)
  | 0, _, _, _ => none
  | n + 1, te, [], [] => some []
  | n + 1, te, some k :: ks, v :: vs => match trE n te k, trE n te v, trKV n te ks vs with
    | some a, some b, some r => some (a :: b :: r)
    | _, _, _ => none
  | n + 1, _, _, _ => none
def trL : Nat → TE → BoolOp → List Expr → Option EX
  | 0, _, _, _ => none
  | n + 1, te, op, [] => none
  | n + 1, te, op, [e] => if tok e then trE n te e else none
  | n + 1, te, op, e :: e2 :: es => if tok e then match trE n te e, trL n te op (e2 :: es) with
    | some x, some y => some (match op with | .And => .and x y | .Or => .or x y)
    | _, _ => none
    else none
def trO : Nat → TE → Option Expr → Option EX
  | 0, _, _ => none
  | n + 1, te, none => some (.lit (.kd 0))
  | n + 1, te, some e => trE n te e
def trI : Nat → TE → Expr → Option (IK × List EX)
  | 0, _, _ => none
  | n + 1, te, e => match rangeArgs te e with
    | some es => match trEs n te es with
      | some [a] => some (.rng1, [a])
      | some [a, b] => some (.rng2, [a, b])
      | _ => none
    | none => match enumArgs te e with
      | some e1 => match trEs n te [e1] with
        | some [m] => some (.enum, [m])
        | _ => none
      | none => if isSet e then none else (trE n te e).map fun m => (.seq, [m])
end
/-- a dict's name that is walked -/
def dkOf (te : TE) : Expr → Option Nat
  | .Name x _ => if x == ("__debug__" : Str) || x == ("__classdict__" : Str) then none else match te.slot x with
    | some i => if te.dk.contains i then some i else none
    | none => none
  | _ => none
/-- name = [.. for ..] on one line: the model's own road -/
def swB (te : TE) (scope : Scope) (pos : Pos) (x : Str) (py : Pos) : Bool :=
  te.sc.lookup x == some .local && py.line == pos.line && !(scope.names.any fun (n, k) => n == x && (k == .local || k == .cell))
def noComp : Expr → Bool
  | .ListComp _ _ _ _ | .SetComp _ _ _ _ | .DictComp _ _ _ _ _ => false
  | _ => true
mutual
def trS : Nat → TE → Stmt → Option ST
  | 0, _, _ => none
  | n + 1, te, .Expr e _ => if noComp e then (trE n te e).map .expr else none
  | n + 1, te, .Assign [.Name x py] e pos => match te.stor x, trE n te e with
    | some i, some m => some (.asg (.nm i) m)
    | _, _ => none
  | n + 1, te, .Assign [.Tuple ts k p] e _ => if isTup e then none else match trG te n (.Tuple ts k p), trE n te e with
    | some t, some m => some (.asg t m)
    | _, _ => none
  | n + 1, te, .Assign [.Subscript o i _] e _ => if isSlice i then none else match trE n te o, trE n te i, trE n te e with
    | some x, some y, some z => some (.aset x y z)
    | _, _, _ => none
  | n + 1, te, .Assign [.Attribute o x _] e _ => match te.fi x, trE n te o, trE n te e with
    | some f, some m, some v => some (.fset m f v)
    | _, _, _ => none
  | n + 1, te, .AugAssign (.Attribute o x _) op e _ => match op, te.fi x, trE n te o, trE n te e with
    | .Add, some f, some m, some v => some (.faug m f .Add v)
    | .Sub, some f, some m, some v => some (.faug m f .Sub v)
    | _, _, _, _ => none
  | n + 1, te, .AugAssign (.Name x _) op e _ => match op, te.stor x, trE n te e with
    | .Add, some i, some m => some (.aug i .Add m)
    | .Sub, some i, some m => some (.aug i .Sub m)
    | _, _, _ => none
  | n + 1, te, .If c a b _ => if tok c then match trE n te c, trSs n te a, trSs n te b with
    | some x, some y, some z => some (.ite x y z)
    | _, _, _ => none
    else none
  | n + 1, te, .While c b [] _ => if tok c then match trE n te c, trSs n te b with
    | some x, some y => some (.whl x y)
    | _, _ => none
    else none
  | n + 1, te, .For tg it b [] _ => match dkOf te it with
    | some i => match trG te n tg, trSs n te b with
      | some t, some y => some (.forK t i y)
      | _, _ => none
    | none => match trG te n tg, trI n te it, trSs n te b with
      | some t, some (ik, its), some y => if tgOk ik tg then some (.for_ t ik its y) else none
      | _, _, _ => none
  | n + 1, te, .Return (some e) _ => (trE n te e).map .ret
  | n + 1, te, .Return none _ => some (.ret (.lit .non))
  | n + 1, te, .Break _ => some .brk
  | n + 1, te, .Continue _ => some .cnt
  | n + 1, te, .Pass _ => some .pass
  | _, _, _ => none
def trSs : Nat → TE → List Stmt → Option (List ST)
  | 0, _, _ => none
  | n + 1, te, [] => some []
  | n + 1, te, s :: r => match trS n te s, trSs n te r with
    | some x, some xs => some (x :: xs)
    | _, _ => none
end
end PX

/-! PX: the translation is sound. -/
namespace PX
open PySem PySem.Spec PyProof.Rows L2
abbrev RXT := Nat → List (Nat × D) → Value → Option Addr → Hp → List Addr → Prop
def exW (B : Tb) (RX : RXT) (W : WQ) (σ : L2.St) : XK := fun cls d H => ∃ (c : Nat) (fs : List (Nat × D)) (ρ : List Addr) (s : Sto), RX c fs cls d H ρ ∧ RelS B H ρ s ∧ W c fs σ H ρ s
structure Ok (B : Tb) (G : FS) (RX : RXT) (CXx : CXT) (k : Nat) (te : TE) (X : Cx) (W : WQ) : Prop where
  K : B.K = X.K
  pw : B.pw = X.w.params
  un : X.A.units + 65 < cLine
  calm : X.calm = true
  N : X.N = te.N
  nd : te.N.Nodup
  kd : X.env.scope.kind = .function
  sc : X.env.scope.names = te.sc
  st : ∀ x i, te.stor x = some i → Loc X.env.scope x ∧ (X.fn x = true ∨ X.env.scope.names.lookup x = some .local)
  room : Room k X.A
  fns : ∀ x id ar, te.gl.lookup x = some (.fn id ar) → ∃ (fa : Addr) (fd : FuncData) (ps : List Str), X.mg x = some (.ref fa) ∧ PySem.W.keepIn X.K (.ref fa) = true ∧ Binds X.K fd ps [] ∧ ps.length = ar ∧ FnOk X.prog X.w X.K X.mg X.base CXx k fa fd ps (spD B RX G id)
  csts : ∀ x d, te.gl.lookup x = some (.cst d) → ∃ v u, X.mg x = some u ∧ RelV v u ∧ ∀ H ρ, RelD B H ρ d v
  blts : ∀ x, te.gl.lookup x = some .blt → X.mg x = none
  px : ∀ σ, PassesAt CXx X σ (exW B RX W σ)
  cx0 : ∀ outer H s e s', ¬ CXx outer H s (fun _ _ _ => False) e s'
  Gm : G.Mono
  ob : ClsOk B X.K te.nf
  an : te.at_ = B.at_
  ctr : ∀ x id ar, te.gl.lookup x = some (.cls id ar) → ∃ C : Addr, X.mg x = some (.ref C) ∧ PySem.W.keepIn X.K (.ref C) = true ∧ ((∃ (fi : Addr) (fd : FuncData) (ps : List Str) (k' c i : Nat) (G' : FS), k = k' + 1 ∧ Mk X.K C fi ∧ Binds X.K fd ps [] ∧
    FnOk X.prog X.w X.K X.mg X.base CXx k' fi fd ps (spD B RX G' i) ∧ B.cl c = some C ∧ FS.Mono G' ∧ ∀ vs s Q E, G id vs s Q E → vs.length = ar ∧ G' i (.ref s.length :: vs) (s ++ [.ins c []]) (fun v s' => v = .non ∧ Q (.ref s.length) s') E) ∨ ∀ vs s Q E, ¬ G id vs s Q E)
  mth : ∀ m cs x c, te.mc.lookup m = some cs → B.at_[m]? = some x → c ∈ cs → ∃ (C f : Addr) (fd : FuncData) (ps : List Str), B.cl c = some C ∧ Meth X.K C x f ∧ FnOk X.prog X.w X.K X.mg X.base CXx k f fd ps (spD B RX G (mid c m)) ∧ Binds X.K fd ps []
section
variable {B : Tb} {G : FS} {RX : RXT} {CXx : CXT} {k : Nat} {te : TE} {X : Cx} {W : WQ}
theorem find_slot {N : List Str} {x : Str} {i : Nat} (h : N.findIdx? (· == x) = some i) : N[i]? = some x := by
  rw [List.findIdx?_eq_some_iff_getElem] at h
  obtain ⟨hi, e, _⟩ := h
  rw [List.getElem?_eq_getElem hi]
  exact congrArg some (by simpa using e)
theorem Ok.slot (o : Ok B G RX CXx k te X W) {x : Str} {i : Nat} (h : te.slot x = some i) : X.N[i]? = some x ∧ Vis X.env.scope x := by
  unfold TE.slot at h
  unfold Vis
  rw [o.N, o.sc]
  split at h
  · rename_i e; exact ⟨find_slot h, .inl e⟩
  · rename_i e; exact ⟨find_slot h, .inr (.inl e)⟩
  · rename_i e; exact ⟨find_slot h, .inr (.inr e)⟩
  · cases h
theorem stor_slot {x : Str} {i : Nat} (h : te.stor x = some i) : te.slot x = some i := by
  unfold TE.stor at h
  split at h
  · exact h
  · exact h
  · cases h
theorem Ok.glob (o : Ok B G RX CXx k te X W) {x : Str} {g : GE} (h : te.glob x = some g) : Gl X x ∧ te.gl.lookup x = some g := by
  unfold TE.glob at h
  split at h
  · rename_i e
    refine ⟨?_, h⟩
    show X.env.scope.names.lookup x = _
    rw [o.sc]
    exact e
  · cases h
theorem MonoX (hG : G.Mono) (e : EX) : MonoSE (fun σ s Q E => xE G e σ s Q E) := fun σ s Q Q' E E' hQ hE h => xE_mono hG e hQ hE h
theorem MonoXs (hG : G.Mono) (es : List EX) : MonoSA (fun σ s Q E => xEs G es σ s Q E) := fun σ s Q Q' E E' hQ hE h => xEs_mono hG es hQ hE h
theorem MonoSt (hG : G.Mono) (e : ST) : MonoSS (fun σ s N => xS G e σ s N) := fun σ s N N' hN h => xS_mono hG e hN h
theorem MonoSts (hG : G.Mono) (e : List ST) : MonoSS (fun σ s N => xSs G e σ s N) := fun σ s N N' hN h => xSs_mono hG e hN h
/-- the reading of a term -/
abbrev rE (B : Tb) (G : FS) (W : WQ) (e : EX) : L2.TE := tO B W fun σ s Q E => xE G e σ s Q E
abbrev rT (B : Tb) (G : FS) (W : WQ) (e : EX) : TT := tT B W fun σ s Q E => xE G e σ s Q E
abbrev rA (B : Tb) (G : FS) (W : WQ) (es : List EX) : TA := tAr B W fun σ s Q E => xEs G es σ s Q E
/-- f(), where what is raised is wished for at the caller's slots -/
theorem pe_callSD0 {CX : CXT} {k : Nat} {f : Addr} {fd : FuncData} {ps : List Str} {sp : Sp} {dvs : List V} {ds : List Value} {E : L2.St → XK} {x : Str} {p pos : Pos} (F : FnOk X.prog X.w X.K X.mg X.base CX k f fd ps sp) (hr : Room k X.A) (hg : Gl X x) (hm : X.mg x = some (.ref f)) (hk : PySem.W.keepIn X.K (.ref f) = true) (hb : Binds X.K fd ps ds) (hd : Vals dvs ds) (hx : ∀ σ, PassesAt CX X σ (E σ))
    (hdb : (x == ("__debug__" : Str)) = false) : PE X (.Call (.Name x p) [] [] pos) (tCallSD sp dvs E tNil) := by
  refine ⟨fun pins s σ H Q I h => ?_⟩
  refine wpAny_Call_Name_kw (ld_glob I hg hm ?_ hdb)
  exact PySem.W.callWith_K0 I.kIn hk (run_fnSD (us := []) F hr hb hd (hx σ) I .nil h)
theorem star_ok {n : Nat} {e : Expr} {x : EX} (h : trE n te e = some x) (es : List Expr) (env : Env) : starEach (e :: es) env = (false, eval e env) :: starEach es env := by
  cases e <;> first | rfl | (cases n <;> simp [trE] at h)
theorem star_all : ∀ {es : List Expr} {xs : List EX} (n : Nat), trEs n te es = some xs → ∀ (pos : Pos) (env : Env), (backTo pos (starEach es env)).any (·.1) = false ∧ (backTo pos (starEach es env)).all (fun x => !x.1) = true ∧ xs.length = es.length
  | [], xs, 0, h, pos, env => by simp [trEs] at h
  | [], xs, n + 1, h, pos, env => by
    simp [trEs] at h
    subst h
    exact ⟨rfl, rfl, rfl⟩
  | e :: es, xs, 0, h, pos, env => by simp [trEs] at h
  | e :: es, xs, n + 1, h, pos, env => by
    simp only [trEs] at h
    split at h
    · rename_i y ys h1 h2
      cases h
      obtain ⟨g1, g2, g3⟩ := star_all n h2 pos env
      rw [star_ok h1]
      refine ⟨?_, ?_, by rw [List.length_cons, List.length_cons, g3]⟩
      · show (false || (backTo pos (starEach es env)).any (·.1)) = false
        rw [g1]
        rfl
      · show (!false && (backTo pos (starEach es env)).all (fun x => !x.1)) = true
        rw [g2]
        rfl
    · cases h
theorem trEs_len : ∀ (n : Nat) {es : List Expr} {xs : List EX}, trEs n te es = some xs → xs.length = es.length
  | 0, es, xs, h => by simp [trEs] at h
  | n + 1, [], xs, h => by
    simp [trEs] at h
    subst h
    rfl
  | n + 1, e :: es, xs, h => by
    simp only [trEs] at h
    split at h
    · rename_i y ys h1 h2
      cases h
      rw [List.length_cons, List.length_cons, trEs_len n h2]
    · cases h
theorem one_arg {n : Nat} {es : List Expr} {a : EX} (h : trEs n te es = some [a]) : ∃ e, es = [e] ∧ ∀ es env, starEach (e :: es) env = (false, eval e env) :: starEach es env := by
  cases n with
  | zero => simp [trEs] at h
  | succ n =>
    match es, h with
    | [], h => simp [trEs] at h
    | [e], h =>
      simp only [trEs] at h
      split at h
      · rename_i h1 h2; exact ⟨e, rfl, star_ok h1⟩
      · cases h
    | e :: e2 :: es, h =>
      simp only [trEs] at h
      split at h
      · rename_i y ys h1 h2
        cases h
        have := trEs_len n h2
        simp at this
      · cases h
theorem two_arg {n : Nat} {es : List Expr} {a b : EX} (h : trEs n te es = some [a, b]) : ∃ e e2, es = [e, e2] ∧ (∀ es env, starEach (e :: es) env = (false, eval e env) :: starEach es env) ∧ ∀ es env, starEach (e2 :: es) env = (false, eval e2 env) :: starEach es env := by
  cases n with
  | zero => simp [trEs] at h
  | succ n =>
    match es, h with
    | [], h => simp [trEs] at h
    | e :: es, h =>
      simp only [trEs] at h
      split at h
      · rename_i y ys h1 h2
        cases h
        obtain ⟨e2, rfl, s2⟩ := one_arg h2
        exact ⟨e, e2, rfl, star_ok h1, s2⟩
      · cases h
theorem truth_ok {e : Expr} (X : Cx) (h : tok e = true) (h1 : ∀ a p, e ≠ .UnaryOp .Not a p) (h2 : ∀ op vs p, e ≠ .BoolOp op vs p) (h3 : ∀ a ops cs p, e ≠ .Compare a ops cs p) : ∀ whole, isTrue e X.env whole = (do let v ← whole; standAt e.pos; holding [v] (truthy v)) := by
  intro whole
  cases e <;> first
    | rfl
    | exact absurd rfl (h2 _ _ _)
    | exact absurd rfl (h3 _ _ _ _)
    | (simp [tok] at h; done)
    | skip
  case UnaryOp op a p => cases op <;> first | rfl | exact absurd rfl (h1 _ _)
theorem ixPlain {b : Expr} (h : isSlice b = false) : PlainIx b := by
  intro o i
  cases b <;> first | rfl | simp [isSlice] at h
/-! ### a comprehension's block -/
theorem relab_keep {names : List (Str × NameKind)} {te : TE} {x : Str} {kk : NameKind} (hk : kk ≠ .free) (h : names.lookup x = some kk) :
    (names.map fun (n, k) => if (k == .free && te.sc.lookup n == some .cell) = true then (n, NameKind.cell) else (n, k)).lookup x = some kk := by
  induction names with
  | nil => simp at h
  | cons y r ih =>
    obtain ⟨n, k⟩ := y
    rw [List.lookup_cons] at h
    rw [List.map_cons, List.lookup_cons]
    have e1 : (if (k == NameKind.free && te.sc.lookup n == some NameKind.cell) = true then (n, NameKind.cell) else (n, k)).1 = n := by split <;> rfl
    rw [e1]
    cases hx : x == n with
    | true =>
      rw [hx] at h
      have e2 : k = kk := Option.some.inj h
      subst e2
      rw [if_neg (by
        intro z
        rw [Bool.and_eq_true] at z
        exact hk (by simpa using z.1))]
    | false =>
      rw [hx] at h
      exact ih h
theorem Ok.blk (o : Ok B G RX CXx k te X W) {scope : Scope} {own : List (Str × Nat)} (hb : blkC te.N ⟨.function, te.sc, false, false, []⟩ scope own = true) (s : Shared) (H : Hp) (C : Addr) (cl : List (Str × Addr)) (fp : List Addr) :
    Ok B G RX CXx k { te with sc := relab scope te, st := scope.names } (X.blk s H scope (compEnvC scope cl C X.env) fp) W0 := by
  have hk : scope.kind = .function := by
    have := (blkOk_by hb).kind
    exact this
  have hsc : (relabel scope X.env).names = relab scope te := by
    unfold relabel relab
    simp only
    congr 1
    funext ⟨n, kk⟩
    have e1 : (X.env.scope.kind == ScopeKind.function) = true := by rw [o.kd]; rfl
    have e2 : X.env.kindOf n = te.sc.lookup n := by
      show X.env.scope.names.lookup n = _
      rw [o.sc]
    rw [e1, e2, Bool.and_true]
  refine ⟨o.K, o.pw, o.un, o.calm, o.N, o.nd, hk, hsc, fun x i h => ?_, o.room, o.fns, o.csts, o.blts, fun σ => ?_, o.cx0, o.Gm, o.ob, o.an, o.ctr, o.mth⟩
  · unfold TE.stor at h
    unfold L2.Loc
    show ((relabel scope X.env).names.lookup x = _ ∨ (relabel scope X.env).names.lookup x = _) ∧ ((scope.names.lookup x == some .cell) = true ∨ (relabel scope X.env).names.lookup x = _)
    rw [hsc]
    simp only at h
    split at h
    · rename_i e
      have := relab_keep (te := te) (kk := .local) (by decide) e
      exact ⟨.inl this, .inr this⟩
    · rename_i e
      have := relab_keep (te := te) (kk := .cell) (by decide) e
      exact ⟨.inr this, .inl (by rw [e]; rfl)⟩
    · cases h
  · have e : exW B RX W0 σ = fun _ _ _ => False := by
      funext cls d H
      exact propext ⟨fun ⟨_, _, _, _, _, _, w⟩ => w, fun h => h.elim⟩
    rw [e]
    exact fun pins H s e s' I c => (o.cx0 _ _ _ _ _ c).elim
/-! ### the induction -/
section
variable (B : Tb) (G : FS) (RX : RXT) (CXx : CXT) (k : Nat)
def PEs (n : Nat) : Prop := ∀ te X W e ir, Ok B G RX CXx k te X W → trE n te e = some ir → PE X e (rE B G W ir) ∧ (tok e = true → PT X e (rT B G W ir))
def PLs (n : Nat) : Prop := ∀ te X W op es ir pos, Ok B G RX CXx k te X W → trL n te op es = some ir → PE X (.BoolOp op es pos) (rE B G W ir) ∧ PW X (.BoolOp op es pos) (rT B G W ir)
def PAs (n : Nat) : Prop := ∀ te X W es irs, Ok B G RX CXx k te X W → trEs n te es = some irs → PA X es (rA B G W irs) ∧ (W = W0 → es.length ≤ 1 → es.all tok = true → PTs X es (tTi B fun σ s K => xIf G irs σ s K))
def POs (n : Nat) : Prop := ∀ te X W e ir, Ok B G RX CXx k te X W → trO n te e = some ir → PO X e (tPo B W fun σ s Q E => xE G ir σ s Q E)
def PIs (n : Nat) : Prop := ∀ te X W tg e ik its, Ok B G RX CXx k te X W → trI n te e = some (ik, its) → tgOk ik tg = true → PI X tg e (tIt B W (fun σ s Q E => xEs G its σ s Q E) ik) ∧ ∀ x, foldedSetIterable e X.env x = pure x
def PDs (n : Nat) : Prop := ∀ te X W keys vals irs, Ok B G RX CXx k te X W → trKV n te keys vals = some irs → ∃ ms : List (SE × SE), (∀ p ∈ ms, MonoSE p.1 ∧ MonoSE p.2) ∧ (∀ pos, PPs X pos keys vals (ms.map fun p => (tO B W p.1, tO B W p.2))) ∧ keys.all (·.isSome) = true ∧ keys.length = vals.length ∧ ∀ σ s Q E, xEs G irs σ s Q E = flatP ms σ s Q E
end
variable {n : Nat}
theorem pds_succ (he : PEs B G RX CXx k n) (hd : PDs B G RX CXx k n) : PDs B G RX CXx k (n + 1) := by
  intro te X W keys vals irs o h
  match keys, vals, h with
  | [], [], h =>
    simp only [trKV] at h
    cases h
    exact ⟨[], (by intro p hp; simp at hp), (fun pos => pps_nil), rfl, rfl, fun σ s Q E => rfl⟩
  | some k :: ks, v :: vs, h =>
    simp only [trKV] at h
    split at h
    · rename_i a b r h1 h2 h3
      cases h
      obtain ⟨ms, g1, g2, g3, g4, g5⟩ := hd te X W ks vs r o h3
      refine ⟨((fun σ s Q E => xE G a σ s Q E), (fun σ s Q E => xE G b σ s Q E)) :: ms, fun p hp => ?_, fun pos => pps_cons (he te X W k a o h1).1 (he te X W v b o h2).1 (g2 pos), ?_, by rw [List.length_cons, List.length_cons, g4], fun σ s Q E => ?_⟩
      · rcases List.mem_cons.mp hp with rfl | hp
        · exact ⟨MonoX o.Gm a, MonoX o.Gm b⟩
        · exact g1 p hp
      · rw [List.all_cons, g3]; rfl
      · simp only [xEs, flatP]
        congr 1
        funext x s1
        congr 1
        funext y s2
        exact g5 _ _ _ _
    · cases h
  | none :: _, _, h => simp [trKV] at h
  | some _ :: _, [], h => simp [trKV] at h
  | [], _ :: _, h => simp [trKV] at h
theorem pas_succ (he : PEs B G RX CXx k n) (ha : PAs B G RX CXx k n) : PAs B G RX CXx k (n + 1) := by
  intro te X W es irs o h
  cases es with
  | nil =>
    simp only [trEs] at h
    cases h
    exact ⟨pa_nl, fun _ _ _ => pts_nl⟩
  | cons e es =>
    simp only [trEs] at h
    split at h
    · rename_i x xs h1 h2
      cases h
      refine ⟨pa_cn (MonoX o.Gm x) (MonoXs o.Gm xs) (he te X W e x o h1).1 (ha te X W es xs o h2).1 (star_ok h1 es X.env), fun hw hlen hall => ?_⟩
      subst hw
      have e0 : es = [] := List.eq_nil_of_length_eq_zero (by
        rw [List.length_cons] at hlen
        omega)
      subst e0
      have e1 : xs = [] := List.eq_nil_of_length_eq_zero (trEs_len n h2)
      subst e1
      have ht : tok e = true := by simpa using hall
      exact pts_on (MonoX o.Gm x) ((he te X W0 e x o h1).2 ht)
    · cases h
theorem pos_succ (he : PEs B G RX CXx k n) : POs B G RX CXx k (n + 1) := by
  intro te X W e ir o h
  cases e with
  | none =>
    simp only [trO] at h
    cases h
    exact po_no
  | some e =>
    simp only [trO] at h
    exact po_so (MonoX o.Gm ir) (he te X W e ir o h).1
theorem pls_succ (he : PEs B G RX CXx k n) (hl : PLs B G RX CXx k n) : PLs B G RX CXx k (n + 1) := by
  intro te X W op es ir pos o h
  match es, h with
  | [], h => simp [trL] at h
  | [e], h =>
    simp only [trL] at h
    split at h
    · rename_i ht
      obtain ⟨g1, g2⟩ := he te X W e ir o h
      refine ⟨pe_one g1, ?_⟩
      cases op with
      | And => exact pw_and1 (g2 ht)
      | Or => exact pw_or1 (g2 ht)
    · cases h
  | e :: e2 :: es, h =>
    simp only [trL] at h
    split at h
    · rename_i ht
      split at h
      · rename_i x y h1 h2
        cases h
        obtain ⟨g1, g2⟩ := he te X W e x o h1
        obtain ⟨g3, g4⟩ := hl te X W op (e2 :: es) y pos o h2
        cases op with
        | And => exact ⟨pe_an o.K (MonoX o.Gm x) (MonoX o.Gm y) g1 g3, pw_an o.K (MonoX o.Gm x) (MonoX o.Gm y) (g2 ht) g4⟩
        | Or => exact ⟨pe_orr o.K (MonoX o.Gm x) (MonoX o.Gm y) g1 g3, pw_orr o.K (MonoX o.Gm x) (MonoX o.Gm y) (g2 ht) g4⟩
      · cases h
    · cases h
theorem pis_succ (he : PEs B G RX CXx k n) (ha : PAs B G RX CXx k n) : PIs B G RX CXx k (n + 1) := by
  intro te X W tg e ik its o h htg
  simp only [trI] at h
  split at h
  · rename_i es hr
    unfold rangeArgs at hr
    split at hr
    · rename_i x p es' pos
      split at hr
      · rename_i hx
        subst hx
        split at hr
        · rename_i hg
          cases hr
          obtain ⟨g1, g2⟩ := o.glob hg
          have hm := o.blts _ g2
          split at h
          · rename_i a h1
            cases h
            obtain ⟨e1, rfl, s1⟩ := one_arg h1
            exact ⟨pi_r1 (MonoXs o.Gm [a]) (pi_range1 g1 hm (ha te X W _ _ o h1).1 (s1 [] X.env)), fun _ => rfl⟩
          · rename_i a b h1
            cases h
            obtain ⟨e1, e2, rfl, s1, s2⟩ := two_arg h1
            exact ⟨pi_r2 (MonoXs o.Gm [a, b]) (pi_range2 g1 hm (ha te X W _ _ o h1).1 ((s1 [e2] X.env).trans (by rw [s2 [] X.env]; rfl)) (s2 [] X.env)), fun _ => rfl⟩
          · cases h
        · cases hr
      · cases hr
    · cases hr
  · split at h
    · rename_i e1 he1
      split at h
      · rename_i m hm
        cases h
        cases tg <;> try cases htg
        rename_i elts kk tpos
        unfold enumArgs at he1
        split at he1
        · rename_i x p e' pos
          split at he1
          · rename_i hx
            subst hx
            split at he1
            · rename_i hg
              cases he1
              obtain ⟨g1, g2⟩ := o.glob hg
              obtain ⟨e2, q, s1⟩ := one_arg hm
              cases q
              exact ⟨pi_en (MonoXs o.Gm [m]) o.K (pi_enum g1 (o.blts _ g2) (ha te X W _ _ o hm).1 (s1 [] X.env)), fun _ => rfl⟩
            · cases he1
          · cases he1
        · cases he1
      · cases h
    split at h
    · cases h
    · rename_i hs
      cases e1 : trE n te e with
      | none => rw [e1] at h; cases h
      | some m =>
        rw [e1] at h
        cases h
        refine ⟨pi_sq (MonoX o.Gm m) o.K (he te X W e m o e1).1, fun x => ?_⟩
        cases e <;> first | rfl | simp [isSet] at hs
theorem bf_more {f : BF} {x : Str} {p pos : Pos} {e : Expr} {es : List Expr} {xs : List EX} (o : Ok B G RX CXx k te X W) (hf : bfMore x = some f) (hg : Gl X x) (hm : X.mg x = none) (ha : PA X (e :: es) (rA B G W xs))
    (s1 : starEach (e :: es) X.env = (false, eval e X.env) :: starEach es X.env) (s2 : (backTo pos (starEach es X.env)).any (·.1) = false) :
    PE X (.Call (.Name x p) (e :: es) [] pos) (tO B W fun σ s Q E => xEs G xs σ s (fun vs s1 => xBlt f vs s1 Q) E) := by
  have M := MonoXs o.Gm xs
  unfold bfMore at hf
  split at hf
  · rename_i hx; subst hx; cases hf
    exact PE.imp (pe_callB (bf_min1 o.calm) hg hm PyProof.Rows.boot_min ha (by decide +kernel) (by decide +kernel) s1 s2) fun _ _ _ h => tcb_imp M h
  · split at hf
    · rename_i hx; subst hx; cases hf
      exact PE.imp (pe_callB (bf_max1 o.calm) hg hm PyProof.Rows.boot_max ha (by decide +kernel) (by decide +kernel) s1 s2) fun _ _ _ h => tcb_imp M h
    · split at hf
      · rename_i hx; subst hx; cases hf
        exact PE.imp (pe_callB (bf_sum o.calm) hg hm (by decide +kernel) ha (by decide +kernel) (by decide +kernel) s1 s2) fun _ _ _ h => tcb_imp M h
      · split at hf
        · rename_i hx; subst hx; cases hf
          exact PE.imp (pe_callB bf_sorted hg hm (by decide +kernel) ha (by decide +kernel) (by decide +kernel) s1 s2) fun _ _ _ h => tcb_imp M h
        · cases hf
/-- a built-in's call -/
theorem bf_call {f : BF} {x : Str} {p pos : Pos} {e : Expr} {es : List Expr} {xs : List EX} (o : Ok B G RX CXx k te X W) (hf : bfOf x (e :: es).length = some f) (hg : Gl X x) (hm : X.mg x = none) (ha : PA X (e :: es) (rA B G W xs))
    (s1 : starEach (e :: es) X.env = (false, eval e X.env) :: starEach es X.env) (s2 : (backTo pos (starEach es X.env)).any (·.1) = false) :
    PE X (.Call (.Name x p) (e :: es) [] pos) (tO B W fun σ s Q E => xEs G xs σ s (fun vs s1 => xBlt f vs s1 Q) E) := by
  have M := MonoXs o.Gm xs
  unfold bfOf at hf
  split at hf
  · split at hf
    · rename_i f' hf'
      cases hf
      exact bf_more o hf' hg hm ha s1 s2
    split at hf
    · rename_i hx; subst hx; cases hf
      exact PE.imp (pe_callB (bf_len o.K) hg hm PySem.boot_len ha (by decide +kernel) (by decide +kernel) s1 s2) fun _ _ _ h => tcb_imp M h
    · split at hf
      · rename_i hx; subst hx; cases hf
        exact PE.imp (pe_callTy bf_int hg hm PyProof.Rows.boot_int ha (by decide +kernel) (by decide +kernel) s1 s2) fun _ _ _ h => tcb_imp M h
      · split at hf
        · rename_i hx; subst hx; cases hf
          exact PE.imp (pe_callB bf_abs hg hm PyProof.Rows.boot_abs ha (by decide +kernel) (by decide +kernel) s1 s2) fun _ _ _ h => tcb_imp M h
        · split at hf
          · rename_i hx; subst hx; cases hf
            exact PE.imp (pe_callTy bf_str hg hm PyProof.Rows.boot_str ha (by decide +kernel) (by decide +kernel) s1 s2) fun _ _ _ h => tcb_imp M h
          · split at hf
            · rename_i hx; subst hx; cases hf
              exact PE.imp (pe_callTy (bf_tuple o.K) hg hm PyProof.Rows.boot_tuple ha (by decide +kernel) (by decide +kernel) s1 s2) fun _ _ _ h => tcb_imp M h
            · split at hf
              · rename_i hx; subst hx; cases hf
                exact PE.imp (pe_callTy (bf_list o.K) hg hm PyProof.Rows.boot_list ha (by decide +kernel) (by decide +kernel) s1 s2) fun _ _ _ h => tcb_imp M h
              · cases hf
  · split at hf
    · split at hf
      · rename_i hx; subst hx; cases hf
        exact PE.imp (pe_callB (bf_max o.calm) hg hm PyProof.Rows.boot_max ha (by decide +kernel) (by decide +kernel) s1 s2) fun _ _ _ h => tcb_imp M h
      · split at hf
        · rename_i hx; subst hx; cases hf
          exact PE.imp (pe_callB (bf_min o.calm) hg hm PyProof.Rows.boot_min ha (by decide +kernel) (by decide +kernel) s1 s2) fun _ _ _ h => tcb_imp M h
        · cases hf
    · cases hf
theorem base_ok {o : Expr} {m : Str} (X : Cx) (h : noCall0 o = true) : attributeBase o m X.env (eval o X.env) = eval o X.env := by
  cases o <;> try rfl
  rename_i f args kws pos
  cases args with
  | nil => simp [noCall0] at h
  | cons a r => cases f <;> rfl
/-- a built-in method's call -/
theorem mf_call {f : MF} {m : Str} {ap cp : Pos} {o : Expr} {es : List Expr} {mo : EX} {xs : List EX} (ok : Ok B G RX CXx k te X W) (hf : mfOf m es.length = some f) (hl : (ap.endLine == cp.line) = true) (hn : es.length < 20) (h0 : noCall0 o = true)
    (ho : PE X o (rE B G W mo)) (ha : PA X es (rA B G W xs)) (h1 : trEs n te es = some xs) :
    PE X (.Call (.Attribute o m ap) es [] cp) (tO B W fun σ s Q E => xE G mo σ s (fun x s1 => mTy f x s1 ∧ xEs G xs σ s1 (fun vs s2 => xMeth f x vs s2 Q) E) E) := by
  have M := MonoXs ok.Gm xs
  have Mo := MonoX ok.Gm mo
  match es, h1 with
  | [], h1 =>
    have e0 : xs = [] := List.eq_nil_of_length_eq_zero (trEs_len n h1)
    subst e0
    simp only [List.length_nil, mfOf, if_true] at hf
    split at hf
    · rename_i hx; subst hx; cases hf
      exact PE.imp (pe_bm0 PySem.F.plainAttrs_list PySem.F.slot_list_pop PySem.F.type_list_pop mf_pop0 ho (base_ok X h0) hl) fun _ _ _ h => bm0_imp rfl (by decide) Mo h
    · split at hf
      · rename_i hx; subst hx; cases hf
        exact PE.imp (pe_bm0 PySem.F.plainAttrs_list PySem.F.slot_list_reverse PySem.F.type_list_reverse mf_reverse ho (base_ok X h0) hl) fun _ _ _ h => bm0_imp rfl (by decide) Mo h
      · split at hf
        · rename_i hx; subst hx; cases hf
          exact PE.imp (pe_bm0 PySem.F.plainAttrs_str PySem.F.slot_str_rstrip PySem.F.type_str_rstrip mf_rstrip ho (base_ok X h0) hl) fun _ _ _ h => bm0_imp rfl (by decide) Mo h
        · cases hf
  | e :: es, h1 =>
    cases n with
    | zero => simp [trEs] at h1
    | succ n =>
      simp only [trEs] at h1
      split at h1
      · rename_i y ys g1 g2
        cases h1
        have s1 := star_ok g1 es X.env
        obtain ⟨s2, s3, _⟩ := star_all n g2 cp X.env
        have hfew : ((backTo cp (starEach (e :: es) X.env)).all (fun x => !x.1) && (backToKw cp (keywordEach [] X.env)).all (fun x => x.1.isSome)
            && decide ((e :: es).length + ([] : List Keyword).length + (if ([] : List Keyword).isEmpty then 0 else 1) < 30)) = true := by
          rw [s1]
          show ((!false && (backTo cp (starEach es X.env)).all (fun x => !x.1)) && true && decide ((e :: es).length + 0 + 0 < 30)) = true
          rw [s3, decide_eq_true (by omega)]
          rfl
        have hlen : ¬ (e :: es).length = 0 := by simp
        unfold mfOf at hf
        rw [if_neg hlen] at hf
        split at hf
        · split at hf
          · rename_i hx; subst hx; cases hf
            exact PE.imp (pe_bm PySem.F.plainAttrs_list PySem.F.slot_list_append PySem.F.type_list_append mf_append ho ha (base_ok X h0) hfew hl s1 s2) fun _ _ _ h => bm_imp rfl (by decide) Mo M h
          · split at hf
            · rename_i hx; subst hx; cases hf
              exact PE.imp (pe_bm PySem.F.plainAttrs_list PySem.F.slot_list_extend PySem.F.type_list_extend mf_extend ho ha (base_ok X h0) hfew hl s1 s2) fun _ _ _ h => bm_imp rfl (by decide) Mo M h
            · split at hf
              · rename_i hx; subst hx; cases hf
                exact PE.imp (pe_bm PySem.F.plainAttrs_str PySem.F.slot_str_join PySem.F.type_str_join (mf_join ok.K) ho ha (base_ok X h0) hfew hl s1 s2) fun _ _ _ h => bm_imp rfl (by decide) Mo M h
              · split at hf
                · rename_i hx; subst hx; cases hf
                  exact PE.imp (pe_bm PySem.F.plainAttrs_list PySem.F.slot_list_index PySem.F.type_list_index mf_index ho ha (base_ok X h0) hfew hl s1 s2) fun _ _ _ h => bm_imp rfl (by decide) Mo M h
                · cases hf
        · split at hf
          · split at hf
            · rename_i hx; subst hx; cases hf
              exact PE.imp (pe_bm PySem.F.plainAttrs_list PySem.F.slot_list_insert PySem.F.type_list_insert mf_insert ho ha (base_ok X h0) hfew hl s1 s2) fun _ _ _ h => bm_imp rfl (by decide) Mo M h
            · split at hf
              · rename_i hx; subst hx; cases hf
                exact pe_get2 Mo M ok.K ok.pw ok.un ho ha (base_ok X h0) hfew hl s1 s2
              · cases hf
          · cases hf
      · cases h1
theorem Ok.at_of {te : TE} {X : Cx} {W : WQ} (o : Ok B G RX CXx k te X W) {x : Str} {i : Nat} (h : te.at_.findIdx? (· == x) = some i) : B.at_[i]? = some x := by
  rw [← o.an]
  exact find_slot h
theorem Ok.fi (o : Ok B G RX CXx k te X W) {x : Str} {f : Nat} (h : te.fi x = some f) : f < te.nf ∧ B.at_[f]? = some x := by
  unfold TE.fi at h
  split at h
  · rename_i i hi
    split at h
    · rename_i hn
      cases h
      exact ⟨hn, o.at_of hi⟩
    · cases h
  · cases h
theorem Ok.mi (o : Ok B G RX CXx k te X W) {x : Str} {m : Nat} {cs : List Nat} (h : te.mi x = some (m, cs)) : te.mc.lookup m = some cs ∧ B.at_[m]? = some x := by
  unfold TE.mi at h
  split at h
  · rename_i i hi
    cases e : te.mc.lookup i with
    | none => rw [e] at h; cases h
    | some l =>
      rw [e] at h
      cases h
      exact ⟨e, o.at_of hi⟩
  · cases h
/-- an own method's call -/
theorem meth_call {m : Str} {i : Nat} {cs : List Nat} {ap cp : Pos} {o : Expr} {es : List Expr} {mo : EX} {xs : List EX} (ok : Ok B G RX CXx k te X W) (hm : te.mi m = some (i, cs)) (hl : (ap.endLine == cp.line) = true) (hn : es.length < 20) (h0 : noCall0 o = true)
    (ho : PE X o (rE B G W mo)) (ha : PA X es (rA B G W xs)) (h1 : trEs n te es = some xs) : PE X (.Call (.Attribute o m ap) es [] cp) (rE B G W (.mcall i cs mo xs)) := by
  obtain ⟨g1, g2⟩ := ok.mi hm
  have fin : ∀ σ H Q, rE B G W (.mcall i cs mo xs) σ H Q → tMethD X CXx k (exW B RX W) (rE B G W mo) m (rA B G W xs) σ H Q := fun σ H Q ⟨ρ, σ', s, L, S, q⟩ => by
    refine ⟨ρ, σ', s, L, S, MonoX ok.Gm mo _ _ _ _ _ _ (fun x s1 q ρ1 H1 v p1 k1 r S1 => ?_) (fun _ _ _ h => h) q⟩
    unfold xMc at q
    cases hc : clsM s1 x i with
    | none => rw [hc] at q; exact q.elim
    | some c =>
      rw [hc] at q
      unfold clsM at hc
      split at hc
      · rename_i nn c' fs hi
        split at hc
        · rename_i hnone
          cases hc
          obtain ⟨rfl, hs⟩ := insOf_eq hi
          have rr := r
          obtain ⟨a, rfl, e⟩ := r
          obtain ⟨C, dx, l, hC, g, rf⟩ := S1.insOf e hs
          obtain ⟨C', f, fd, ps, c1, c2, c3, c4⟩ := ok.mth i cs m c g1 g2 q.1
          rw [hC] at c1
          cases c1
          refine ⟨a, C, dx, l, f, fd, ps, _, rfl, g, (RelF.get ok.ob.nm g2 rf).2 (by simpa using hnone), ok.ob.cls c C hC, c2, c3, c4, ρ1, σ', s1, L.mono p1 k1, S1, MonoXs ok.Gm xs _ _ _ _ _ _ (fun ds s2 q ρ2 H2 vs p2 k2 rs S2 => ?_) (fun _ _ _ h => LiftX.mono p1 k1 h) q.2⟩
          refine ⟨ρ2, .ref nn :: ds, s2, ⟨_, _, rfl, rr.mono p2 k2, rs⟩, S2, ok.Gm _ _ _ _ _ _ _ (fun _ _ h => Lift.mono (p1.trans p2) (k1.trans k2) h) (fun c fs s3 h ρ3 H3 cls d p3 k3 S3 rx => ⟨c, fs, ρ3, s3, rx, S3, h ρ3 H3 ((p1.trans p2).trans p3) ((k1.trans k2).trans k3) S3⟩) q⟩
        · cases hc
      · cases hc
  match es, h1, ha with
  | [], h1, ha =>
    have e0 : xs = [] := List.eq_nil_of_length_eq_zero (trEs_len n h1)
    subst e0
    refine PE.imp (pe_methD0 (CX := CXx) (k := k) ho ok.room ok.px (base_ok X h0) hl) fun σ H Q h => ?_
    obtain ⟨ρ, σ', s, L, S, q⟩ := fin σ H Q h
    refine ⟨ρ, σ', s, L, S, MonoX ok.Gm mo _ _ _ _ _ _ (fun x s1 q ρ1 H1 v p1 k1 r S1 => ?_) (fun _ _ _ h => h) q⟩
    obtain ⟨a, C, dx, fs, f, fd, ps, sp, e1, e2, e3, e4, e5, e6, e7, q⟩ := q ρ1 H1 v p1 k1 r S1
    obtain ⟨ρ2, σ2, s2, L2, S2, q⟩ := q
    exact ⟨a, C, dx, fs, f, fd, ps, sp, e1, e2, e3, e4, e5, e6, e7, q ρ2 H1 [] (List.prefix_refl _) (Keep.refl _) rfl S2⟩
  | e :: es, h1, ha =>
    cases n with
    | zero => simp [trEs] at h1
    | succ n =>
      simp only [trEs] at h1
      split at h1
      · rename_i y ys g3 g4
        cases h1
        have s1 := star_ok g3 es X.env
        obtain ⟨s2, s3, _⟩ := star_all n g4 cp X.env
        have hfew : ((backTo cp (starEach (e :: es) X.env)).all (fun x => !x.1) && (backToKw cp (keywordEach [] X.env)).all (fun x => x.1.isSome)
            && decide ((e :: es).length + ([] : List Keyword).length + (if ([] : List Keyword).isEmpty then 0 else 1) < 30)) = true := by
          rw [s1]
          show ((!false && (backTo cp (starEach es X.env)).all (fun x => !x.1)) && true && decide ((e :: es).length + 0 + 0 < 30)) = true
          rw [s3, decide_eq_true (by omega)]
          rfl
        exact PE.imp (pe_methD (CX := CXx) (k := k) ho ok.room ok.px ha (base_ok X h0) hfew hl s1 s2) fin
      · cases h1
/-- a class called -/
theorem cls_call {x : Str} {p pos : Pos} {id ar : Nat} {es : List Expr} {xs : List EX} (o : Ok B G RX CXx k te X W) (hg : te.glob x = some (.cls id ar)) (x1 : (x == ("__debug__" : Str)) = false) (h1 : trEs n te es = some xs) (A : PA X es (rA B G W xs)) :
    PE X (.Call (.Name x p) es [] pos) (rE B G W (.call id xs)) := by
  obtain ⟨g1, g2⟩ := o.glob hg
  obtain ⟨C, m1, kp, alt⟩ := o.ctr _ _ _ g2
  have star : ∀ (e : Expr) (es' : List Expr), es = e :: es' → starEach (e :: es') X.env = (false, eval e X.env) :: starEach es' X.env ∧ (backTo pos (starEach es' X.env)).any (·.1) = false := fun e es' he => by
    subst he
    cases n with
    | zero => simp [trEs] at h1
    | succ n =>
      simp only [trEs] at h1
      split at h1
      · rename_i y ys g3 g4
        exact ⟨star_ok g3 es' X.env, (star_all n g4 pos X.env).1⟩
      · cases h1
  rcases alt with ⟨fi, fd, ps, k', c, i, G', rfl, M, hb, F, hC, Gm', hG⟩ | hG
  · have fin : ∀ σ H Q, rE B G W (.call id xs) σ H Q → tMakeSD C (spD B RX G' i) (exW B RX W) (rA B G W xs) σ H Q := fun σ H Q ⟨ρ, σ', s, L, S, q⟩ => by
      refine ⟨ρ, σ', s, L, S, MonoXs o.Gm xs _ _ _ _ _ _ (fun ds s1 q ρ1 H1 vs p1 k1 rs S1 => ?_) (fun _ _ _ h => h) q⟩
      intro a dx ha hdx hne
      obtain ⟨hl, q⟩ := hG _ _ _ _ q
      have ha2 : (upd H1 dx (.own a)) a = none := by rw [upd_ne (Ne.symm hne)]; exact ha
      have k2 : Keep H1 (upd (upd H1 dx (.own a)) a (.ins C dx [])) := (Keep.new hdx).trans (.new ha2)
      have pr : ρ1 <+: ρ1 ++ [a] := List.prefix_append _ _
      have ea : (ρ1 ++ [a])[s1.length]? = some a := by
        rw [← S1.len, List.getElem?_append_right (Nat.le_refl _), Nat.sub_self]
        rfl
      have S2 : RelS B (upd (upd H1 dx (.own a)) a (.ins C dx [])) (ρ1 ++ [a]) (s1 ++ [.ins c []]) := (S1.out hdx).push ha2 ⟨_, upd_same, C, dx, [], hC, rfl, rfl⟩
      refine ⟨ρ1 ++ [a], .ref s1.length :: ds, _, ⟨.ref a, vs, rfl, ⟨a, rfl, ea⟩, rs.mono pr k2⟩, S2, Gm' _ _ _ _ _ _ _ (fun v s' h ρ3 H3 w p3 k3 r S3 => ?_) (fun c fs s3 h ρ3 H3 cls d p3 k3 S3 rx => ?_) q⟩
      · obtain ⟨rfl, h⟩ := h
        exact ⟨r, h ρ3 H3 (.ref a) (p1.trans (pr.trans p3)) (k1.trans (k2.trans k3)) ⟨a, rfl, pre_get p3 ea⟩ S3⟩
      · exact ⟨c, fs, ρ3, s3, rx, S3, h ρ3 H3 (p1.trans (pr.trans p3)) (k1.trans (k2.trans k3)) S3⟩
    match es, h1, A, star with
    | [], h1, A, _ =>
      have e0 : xs = [] := List.eq_nil_of_length_eq_zero (trEs_len n h1)
      subst e0
      refine PE.imp (pe_makeSD0 M F o.room g1 m1 hb o.px x1) fun σ H Q h => ?_
      obtain ⟨ρ, σ', s, L, S, q⟩ := fin σ H Q h
      exact q ρ H [] (List.prefix_refl _) (Keep.refl _) rfl S
    | e :: es, h1, A, star =>
      obtain ⟨s1, s2⟩ := star e es rfl
      exact PE.imp (pe_makeSD M F o.room g1 m1 hb o.px A x1 s1 s2) fin
  · match es, h1, A, star with
    | [], h1, A, _ =>
      have e0 : xs = [] := List.eq_nil_of_length_eq_zero (trEs_len n h1)
      subst e0
      exact ⟨fun pins s σ H Q I ⟨ρ, σ', st, L, S, q⟩ => (hG _ _ _ _ q).elim⟩
    | e :: es, h1, A, star =>
      obtain ⟨s1, s2⟩ := star e es rfl
      refine ⟨fun pins s σ H Q I ⟨ρ, σ', st, L, S, q⟩ => ?_⟩
      refine wpAny_Call_Name_kw (ld_glob I g1 m1 ?_ x1)
      refine PySem.W.callWith_K (h₀ := X.base) I.ok.mod.kin kp (thn (A.run pos pins s σ H (fun _ _ => False) I ⟨ρ, σ', st, L, S, MonoXs o.Gm xs _ _ _ _ _ _ (fun ds s1 q => (hG _ _ _ _ q).elim) (fun _ _ _ h => h) q⟩) fun us s1 ⟨vs, H1, I1, r, q⟩ => q.elim) s1 s2
theorem ty_of {H : Hp} {ρ : List Addr} {s : Sto} {x : D} {v : V} {t : Nat} (hK : B.K = X.K) (r : RelD B H ρ x v) (S : RelS B H ρ s) (h : tyD s x = some t) : TyX X.K H v (.type (tyNm t)) := by
  cases x <;> simp only [tyD] at h
  case non => cases h; cases (show v = .non from r); exact .base .non
  case bl b => cases h; cases (show v = .bl b from r); exact .base (.bl b)
  case int i => cases h; cases int_of r; exact .base (.int i)
  case str a => cases h; obtain ⟨rfl, _⟩ := r; exact .base (.str _)
  case tup xs =>
    cases h
    obtain ⟨a, vs, rfl, q, _⟩ := r
    rcases q with (q | ⟨ob, q⟩) | ⟨ob, its, n, q, c, _⟩
    · exact .base (.tup q)
    · exact .fTuple q
    · exact .kTuple (hK ▸ q) c
  case fl xs =>
    cases h
    obtain ⟨a, vs, rfl, q, _⟩ := r
    rcases q with ⟨ob, q⟩ | ⟨ob, its, n, q, c, _⟩
    · exact .base (.frz q)
    · exact .kList (hK ▸ q) c
  case ref n =>
    obtain ⟨a, rfl, e⟩ := r
    split at h
    · rename_i xs hs
      cases h
      obtain ⟨vs, g, _⟩ := S.lstOf e hs
      exact .base (.lst g)
    · cases h
  all_goals cases h
theorem tyD_lt {s : Sto} {x : D} {t : Nat} (h : tyD s x = some t) : t < 6 := by
  cases x <;> simp only [tyD] at h
  case ref n =>
    split at h
    · cases h; decide
    · cases h
  all_goals first | (cases h; decide) | cases h
theorem kit_tab (K : PySem.W.Frag) : ∀ a : Fin 6, ∀ b : Fin 5, PySem.W.kitOne K (.type (tyNm a)) (.type (tyNm b)) = some (a.val == b.val || (a.val == 1 && b.val == 0)) := by
  intro a b
  exact kit_ty (by
    revert a b
    decide +kernel)
theorem isi_call {x : Str} {p pos : Pos} {es : List Expr} {e : Expr} {t : Nat} {m : EX} (o : Ok B G RX CXx k te X W) (h : isiArgs te x es = some (e, t)) (he : PE X e (rE B G W m)) (hs : ∀ es env, starEach (e :: es) env = (false, eval e env) :: starEach es env) :
    PE X (.Call (.Name x p) es [] pos) (rE B G W (.blt (.isi t) [m])) := by
  unfold isiArgs at h
  split at h
  · rename_i e' T pT
    split at h
    · rename_i hx
      subst hx
      split at h
      · rename_i t' h1 h2 h3
        cases h
        obtain ⟨g1, g2⟩ := o.glob h1
        obtain ⟨g3, g4⟩ := o.glob h2
        have hT : ∃ b : Fin 5, T = (tyNm b : Str) ∧ t = b.val ∧ bootBuiltins T = some (.type (tyNm b)) ∧ T ≠ "__name__" ∧ (T == ("__debug__" : Str)) = false := by
          unfold tyCode at h3
          split at h3
          · rename_i hx; subst hx; cases h3; exact ⟨0, rfl, rfl, by decide +kernel, by decide +kernel, by decide +kernel⟩
          · split at h3
            · rename_i hx; subst hx; cases h3; exact ⟨1, rfl, rfl, by decide +kernel, by decide +kernel, by decide +kernel⟩
            · split at h3
              · rename_i hx; subst hx; cases h3; exact ⟨2, rfl, rfl, by decide +kernel, by decide +kernel, by decide +kernel⟩
              · split at h3
                · rename_i hx; subst hx; cases h3; exact ⟨3, rfl, rfl, by decide +kernel, by decide +kernel, by decide +kernel⟩
                · split at h3
                  · rename_i hx; subst hx; cases h3; exact ⟨4, rfl, rfl, by decide +kernel, by decide +kernel, by decide +kernel⟩
                  · cases h3
        obtain ⟨b, -, rfl, hv, hn1, hn2⟩ := hT
        have A : PA X [e, .Name T pT] (tCons (rE B G W m) (tCons (tC (.ty (tyNm b))) tNil)) := pa_cons he (pa_cons (pe_bltn g3 (o.blts _ g4) hv rfl hn1 hn2) pa_nil rfl) (hs _ _)
        refine PE.imp (pe_callB call_isi g1 (o.blts _ g2) (by decide +kernel) A (by decide +kernel) (by decide +kernel) (hs _ _) rfl) fun σ H Q ⟨ρ, σ', s, L, S, q⟩ => ?_
        refine ⟨ρ, σ', s, L, S, MonoX o.Gm m _ _ _ _ _ _ (fun x s1 q ρ1 H1 v p1 k1 r S1 => ?_) (fun _ _ _ h => h) q⟩
        have q : xBlt (.isi b) [x] s1 (Lift B H ρ Q) := q
        simp only [xBlt, isiD] at q
        cases e1 : tyD s1 x with
        | none => rw [e1] at q; exact q.elim
        | some a =>
          rw [e1] at q
          exact ⟨v, .ty (tyNm b), .type (tyNm a), .type (tyNm b), _, rfl, .ty _, ty_of o.K r S1 e1, kit_tab X.K ⟨a, tyD_lt e1⟩ b, Lift.here (Lift.mono p1 k1 q) rfl S1⟩
      · cases h
    · cases h
  · cases h
/-- targets -/
theorem trG_shape {n : Nat} {e : Expr} {t : TG} (h : trG te n e = some t) (es : List Expr) (env : Env) : assignEach (e :: es) env = (false, assign e env) :: assignEach es env := by
  cases n with
  | zero => simp [trG] at h
  | succ n => cases e <;> first | rfl | simp [trG] at h
theorem nm_ok (o : Ok B G RX CXx k te X W) {x : Str} {p : Pos} {i : Nat} (h : te.stor x = some i) : PG X (.Name x p) (gName i) :=
  let ⟨h1, h2⟩ := o.st x i h
  pg_name (by rw [o.N]; exact o.nd) (o.slot (stor_slot h)).1 h1 h2
mutual
theorem gw_ok (vs : List Nat) : ∀ (n : Nat) {te : TE} {X : Cx} {W : WQ} {e : Expr} {t : TG}, Ok B G RX CXx k te X W → trG te n e = some t → subT vs t = true → PG X e (gW B vs t)
  | 0, te, X, W, e, t, o, h, s => by simp [trG] at h
  | n + 1, te, X, W, e, t, o, h, s => by
    cases e <;> try (simp [trG] at h; done)
    case Name x p =>
      simp only [trG] at h
      cases e1 : te.stor x with
      | none => rw [e1] at h; cases h
      | some i =>
        rw [e1] at h
        cases h
        exact pgw_nm (by simpa [subT] using s) (nm_ok o e1)
    case Tuple es kk p =>
      simp only [trG] at h
      cases e1 : trGs te n es with
      | none => rw [e1] at h; cases h
      | some ts =>
        rw [e1] at h
        cases h
        obtain ⟨g1, g2, g3, g4⟩ := gws_ok vs n o e1 (by simpa [subT] using s)
        exact pgw_tp o.calm o.K g1 g2 g3 g4
theorem gws_ok (vs : List Nat) : ∀ (n : Nat) {te : TE} {X : Cx} {W : WQ} {es : List Expr} {ts : List TG}, Ok B G RX CXx k te X W → trGs te n es = some ts → subT.subTs vs ts = true →
    PGs X es (gWs B vs ts) ∧ ts.length = es.length ∧ (assignEach es X.env).length = es.length ∧ (assignEach es X.env).findIdx? (·.1) = none
  | 0, te, X, W, es, ts, o, h, s => by simp [trGs] at h
  | n + 1, te, X, W, [], ts, o, h, s => by
    simp [trGs] at h
    subst h
    exact ⟨pgws_nl, rfl, rfl, rfl⟩
  | n + 1, te, X, W, e :: es, ts, o, h, s => by
    simp only [trGs] at h
    split at h
    · rename_i t ts' h1 h2
      cases h
      simp only [subT.subTs, Bool.and_eq_true] at s
      obtain ⟨g1, g2, g3, g4⟩ := gws_ok vs n o h2 s.2
      have sh := trG_shape h1 es X.env
      refine ⟨pgws_cn (gw_ok vs n o h1 s.1) g1 (by rw [sh]; rfl), by rw [List.length_cons, List.length_cons, g2], by rw [sh, List.length_cons, List.length_cons, g3], ?_⟩
      rw [sh, List.findIdx?_cons, g4]
      rfl
    · cases h
end
mutual
theorem gt_ok : ∀ (n : Nat) {te : TE} {X : Cx} {W : WQ} {e : Expr} {t : TG}, Ok B G RX CXx k te X W → trG te n e = some t → PG X e (gT B t)
  | 0, te, X, W, e, t, o, h => by simp [trG] at h
  | n + 1, te, X, W, e, t, o, h => by
    cases e <;> try (simp [trG] at h; done)
    case Name x p =>
      simp only [trG] at h
      cases e1 : te.stor x with
      | none => rw [e1] at h; cases h
      | some i =>
        rw [e1] at h
        cases h
        exact pg_nm (nm_ok o e1)
    case Tuple es kk p =>
      simp only [trG] at h
      cases e1 : trGs te n es with
      | none => rw [e1] at h; cases h
      | some ts =>
        rw [e1] at h
        cases h
        obtain ⟨g1, g2, g3, g4⟩ := gts_ok n o e1
        exact pg_tp o.calm o.K g1 g2 g3 g4
theorem gts_ok : ∀ (n : Nat) {te : TE} {X : Cx} {W : WQ} {es : List Expr} {ts : List TG}, Ok B G RX CXx k te X W → trGs te n es = some ts →
    PGs X es (gTs B ts) ∧ ts.length = es.length ∧ (assignEach es X.env).length = es.length ∧ (assignEach es X.env).findIdx? (·.1) = none
  | 0, te, X, W, es, ts, o, h => by simp [trGs] at h
  | n + 1, te, X, W, [], ts, o, h => by
    simp [trGs] at h
    subst h
    exact ⟨pgs_nl, rfl, rfl, rfl⟩
  | n + 1, te, X, W, e :: es, ts, o, h => by
    simp only [trGs] at h
    split at h
    · rename_i t ts' h1 h2
      cases h
      obtain ⟨g1, g2, g3, g4⟩ := gts_ok n o h2
      have sh := trG_shape h1 es X.env
      refine ⟨pgs_cn (gt_ok n o h1) g1 (by rw [sh]; rfl), by rw [List.length_cons, List.length_cons, g2], by rw [sh, List.length_cons, List.length_cons, g3], ?_⟩
      rw [sh, List.findIdx?_cons, g4]
      rfl
    · cases h
end
theorem lit_ok {c : Const} {d : D} {kk : Nat} {pos : Pos} (h : litOf c = some d) : PE X (.Constant c kk pos) (rE B G W (.lit d)) := by
  cases c <;> simp only [litOf] at h <;> try cases h
  case none => exact pe_lit pe_non fun _ _ => rfl
  case bool b => exact pe_lit pe_bl fun _ _ => rfl
  case int i => exact pe_lit pe_int fun _ _ => rfl
  case str x =>
    split at h
    · rename_i hc
      cases h
      unfold strC at hc
      rw [Bool.and_eq_true] at hc
      refine pe_lit pe_str fun _ _ => ⟨by rw [Array.toArray_toList], of_decide_eq_true hc.1, fun c hcm => ?_⟩
      exact of_decide_eq_true (List.all_eq_true.mp hc.2 c hcm)
    · cases h
theorem binop_ok (o : Ok B G RX CXx k te X W) {op : Operator} (h : opOk op = true) : OpR X (binaryOp op) (rO B (xBin op)) := by
  cases op <;> simp only [opOk] at h
  case Add => exact or_add o.K
  case Sub => exact or_sub
  case Mult => exact or_mul
  case FloorDiv => exact or_fdiv
  case Mod => exact or_mod
  case Pow => exact or_pow
  all_goals cases h
theorem mono_if (hG : G.Mono) (cs : List EX) : ∀ σ s K K', (∀ b s, K b s → K' b s) → xIf G cs σ s K → xIf G cs σ s K' := fun σ s K K' hK h => xIf_mono hG cs hK h
theorem pes_succ (he : PEs B G RX CXx k n) (hl : PLs B G RX CXx k n) (ha : PAs B G RX CXx k n) (ho : POs B G RX CXx k n) (hi : PIs B G RX CXx k n) (hd : PDs B G RX CXx k n) : PEs B G RX CXx k (n + 1) := by
  intro te X W e ir o h
  -- a term whose test is its truth
  have plain : ∀ {e : Expr} {ir : EX}, (∀ a p, e ≠ .UnaryOp .Not a p) → (∀ op vs p, e ≠ .BoolOp op vs p) → (∀ a ops cs p, e ≠ .Compare a ops cs p) → PE X e (rE B G W ir) → PE X e (rE B G W ir) ∧ (tok e = true → PT X e (rT B G W ir)) :=
    fun {e ir} h1 h2 h3 p => ⟨p, fun ht => pt_tr o.K (MonoX o.Gm ir) p (truth_ok X ht h1 h2 h3)⟩
  cases e <;> try (simp [trE] at h; done)
  case Constant c kk pos =>
    simp only [trE] at h
    cases e1 : litOf c with
    | none => rw [e1] at h; cases h
    | some d =>
      rw [e1] at h
      cases h
      exact plain (by intro a p z; cases z) (by intro a b c z; cases z) (by intro a b c d z; cases z) (lit_ok e1)
  case Name x pos =>
    simp only [trE] at h
    split at h
    · cases h
    · rename_i hx
      rw [Bool.or_eq_true, not_or] at hx
      have x1 : (x == ("__debug__" : Str)) = false := by simpa using hx.1
      have x2 : (x == ("__classdict__" : Str)) = false := by simpa using hx.2
      refine plain (by intro a p z; cases z) (by intro a b c z; cases z) (by intro a b c d z; cases z) ?_
      split at h
      · rename_i i hs
        cases h
        obtain ⟨g1, g2⟩ := o.slot hs
        exact pe_vr (pe_var g1 g2 x1 x2)
      · split at h
        · rename_i d hg
          cases h
          obtain ⟨g1, g2⟩ := o.glob hg
          obtain ⟨v, u, g3, g4, g5⟩ := o.csts _ _ g2
          exact pe_lit (pe_glob g1 g3 g4 x1) g5
        · cases h
  case BinOp a op b pos =>
    simp only [trE] at h
    split at h
    · rename_i hop
      split at h
      · rename_i x y h1 h2
        cases h
        exact plain (by intro a p z; cases z) (by intro a b c z; cases z) (by intro a b c d z; cases z) (pe_bin (MonoX o.Gm x) (MonoX o.Gm y) (binop_ok o hop) (he te X W a x o h1).1 (he te X W b y o h2).1)
      · cases h
    · cases h
  case UnaryOp op a pos =>
    cases op <;> try (simp [trE] at h; done)
    case Not =>
      simp only [trE] at h
      split at h
      · rename_i ht
        cases e1 : trE n te a with
        | none => rw [e1] at h; cases h
        | some x =>
          rw [e1] at h
          cases h
          obtain ⟨g1, g2⟩ := he te X W a x o e1
          exact ⟨pe_nt o.K (MonoX o.Gm x) g1, fun _ => pt_nt o.K (MonoX o.Gm x) (g2 ht)⟩
      · cases h
    case USub =>
      simp only [trE] at h
      cases e1 : trE n te a with
      | none => rw [e1] at h; cases h
      | some x =>
        rw [e1] at h
        cases h
        exact plain (by intro a p z; cases z) (by intro a b c z; cases z) (by intro a b c d z; cases z) (pe_ng (MonoX o.Gm x) (he te X W a x o e1).1)
  case Compare a ops cs pos =>
    match ops, cs, h with
    | [op], [b], h =>
      simp only [trE] at h
      split at h
      · cases h
      · rename_i hm
        split at h
        · rename_i x y h1 h2
          cases h
          have hm' : behindInMarks op b = false := by simpa using hm
          exact ⟨pe_cm (MonoX o.Gm x) (MonoX o.Gm y) (or_cmp o.K o.pw o.un op) (he te X W a x o h1).1 (he te X W b y o h2).1 hm', fun _ => pt_cm (MonoX o.Gm x) (MonoX o.Gm y) (or_cmp o.K o.pw o.un op) (he te X W a x o h1).1 (he te X W b y o h2).1 hm'⟩
        · cases h
    | [op, op'], [b, c], h =>
      simp only [trE] at h
      split at h
      · cases h
      · rename_i hm
        split at h
        · rename_i x y z h1 h2 h3
          cases h
          have hm' : lastMarks [op, op'] [b, c] = false := by simpa using hm
          exact ⟨pe_chn (MonoX o.Gm x) (MonoX o.Gm y) (MonoX o.Gm z) (or_cmp o.K o.pw o.un op) (or_cmp o.K o.pw o.un op') (he te X W a x o h1).1 (he te X W b y o h2).1 (he te X W c z o h3).1 hm',
            fun _ => pt_chn (MonoX o.Gm x) (MonoX o.Gm y) (MonoX o.Gm z) (or_cmp o.K o.pw o.un op) (or_cmp o.K o.pw o.un op') (he te X W a x o h1).1 (he te X W b y o h2).1 (he te X W c z o h3).1 hm'⟩
        · cases h
    | [], _, h => simp [trE] at h
    | [_], [], h => simp [trE] at h
    | [_], _ :: _ :: _, h => simp [trE] at h
    | [_, _], [], h => simp [trE] at h
    | [_, _], [_], h => simp [trE] at h
    | [_, _], _ :: _ :: _ :: _, h => simp [trE] at h
    | _ :: _ :: _ :: _, _, h => simp [trE] at h
  case BoolOp op vs pos =>
    simp only [trE] at h
    obtain ⟨g1, g2⟩ := hl te X W op vs ir pos o h
    exact ⟨g1, fun _ => PW.pt g2⟩
  case IfExp c a b pos =>
    simp only [trE] at h
    split at h
    · rename_i ht
      split at h
      · rename_i x y z h1 h2 h3
        cases h
        exact ⟨pe_it o.K (MonoX o.Gm x) (MonoX o.Gm y) (MonoX o.Gm z) ((he te X W c x o h1).2 ht) (he te X W a y o h2).1 (he te X W b z o h3).1, fun z => by simp [tok] at z⟩
      · cases h
    · cases h
  case Tuple es kk pos =>
    simp only [trE] at h
    cases e1 : trEs n te es with
    | none => rw [e1] at h; cases h
    | some xs =>
      rw [e1] at h
      cases h
      exact plain (by intro a p z; cases z) (by intro a b c z; cases z) (by intro a b c d z; cases z) (pe_tp (MonoXs o.Gm xs) (ha te X W es xs o e1).1)
  case List es pos =>
    simp only [trE] at h
    cases e1 : trEs n te es with
    | none => rw [e1] at h; cases h
    | some xs =>
      rw [e1] at h
      cases h
      exact plain (by intro a p z; cases z) (by intro a b c z; cases z) (by intro a b c d z; cases z) (pe_ls (MonoXs o.Gm xs) (ha te X W es xs o e1).1)
  case Dict keys vals pos =>
    simp only [trE] at h
    split at h
    · rename_i hk
      cases e1 : trKV n te keys vals with
      | none => rw [e1] at h; cases h
      | some irs =>
        rw [e1] at h
        cases h
        obtain ⟨ms, g1, g2, g3, g4, g5⟩ := hd te X W keys vals irs o e1
        refine plain (by intro a p z; cases z) (by intro a b c z; cases z) (by intro a b c d z; cases z) (PE.imp (pe_dct g1 (g2 pos) g3 g4 (fun z => by rw [z] at hk; simp at hk) hk.2) fun σ H Q ⟨ρ, σ', s, L, S, q⟩ => ⟨ρ, σ', s, L, S, ?_⟩)
        simp only [xE] at q
        rw [g5] at q
        exact q
    · cases h
  case Subscript a b pos =>
    refine plain (by intro a p z; cases z) (by intro a b c z; cases z) (by intro a b c d z; cases z) ?_
    by_cases hs : ∃ lo hi p2, b = .Slice lo hi none p2
    · obtain ⟨lo, hi, p2, rfl⟩ := hs
      simp only [trE] at h
      split at h
      · rename_i x y z h1 h2 h3
        cases h
        exact pe_sl (MonoX o.Gm x) (MonoX o.Gm y) (MonoX o.Gm z) o.K (he te X W a x o h1).1 (ho te X W lo y o h2) (ho te X W hi z o h3)
      · cases h
    · by_cases hr : ∃ kk p1 p2 p3, b = .Slice none none (some (.UnaryOp .USub (.Constant (.int 1) kk p1) p2)) p3
      · obtain ⟨kk, p1, p2, p3, rfl⟩ := hr
        simp only [trE] at h
        cases e1 : trE n te a with
        | none => rw [e1] at h; cases h
        | some x =>
          rw [e1] at h
          cases h
          exact pe_rv (MonoX o.Gm x) o.K (he te X W a x o e1).1
      have hb : trE (n + 1) te (.Subscript a b pos) = if isSlice b then none else match trE n te a, trE n te b with
        | some x, some y => some (.ix x y)
        | _, _ => none := by
        rw [trE]
        all_goals first
          | rfl
          | (intro lo hi p2 z; exact hs ⟨lo, hi, p2, z⟩)
          | (intro kk p1 p2 p3 z; exact hr ⟨kk, p1, p2, p3, z⟩)
      rw [hb] at h
      split at h
      · cases h
      · rename_i hsl
        split at h
        · rename_i x y h1 h2
          cases h
          exact pe_ixx (MonoX o.Gm x) (MonoX o.Gm y) o.K o.pw o.un (he te X W a x o h1).1 (he te X W b y o h2).1 (ixPlain (by simpa using hsl))
        · cases h
  case Attribute oo x pos =>
    refine plain (by intro a p z; cases z) (by intro a b c z; cases z) (by intro a b c d z; cases z) ?_
    simp only [trE] at h
    split at h
    · rename_i h0
      split at h
      · rename_i f m hf h1
        cases h
        obtain ⟨f1, f2⟩ := o.fi hf
        exact pe_fl (MonoX o.Gm m) o.ob f1 f2 (he te X W oo m o h1).1 (base_ok X h0)
      · cases h
    · cases h
  case DictComp kx vx gs scope pos =>
    refine plain (by intro a p z; cases z) (by intro a b c z; cases z) (by intro a b c d z; cases z) ?_
    match gs, h with
    | [], h => simp [trE] at h
    | _ :: _ :: _, h => simp [trE] at h
    | [⟨tg, it, ifs, as⟩], h =>
      by_cases has : as = 0
      · subst has
        simp only [trE] at h
        split at h
        · rename_i hb
          split at h
          · rename_i ik its t cs ek ev h1 h2 h3 h4 h5
            split at h
            · rename_i hc
              cases h
              rw [Bool.and_eq_true, Bool.and_eq_true, Bool.and_eq_true] at hc
              have hbk : blkC X.N X.env.scope scope (ownOf scope te) = true := by
                rw [o.N]
                unfold blkC at hb ⊢
                rw [o.sc]
                exact hb
              have O := fun s H C cl fp => o.blk hb s H C cl fp
              obtain ⟨i1, i2⟩ := hi te X W tg it ik its o h1 hc.2
              refine PE.imp (pe_dc (tt := tTi B fun σ s K => xIf G cs σ s K) (tk := tO B W0 fun σ s Q E => xE G ek σ s Q E) (tv := tO B W0 fun σ s Q E => xE G ev σ s Q E) (g := gW B ((ownOf scope te).map (·.2)) t) o.calm (by rw [o.N]; exact o.nd) i1 (blkOk_by hbk)
                (fun s H C cl fp => gw_ok _ n (O s H C cl fp) h2 hc.1.1.1) (fun s H C cl fp => ?_) (fun s H C cl fp => (he _ _ _ _ _ (O s H C cl fp) h4).1) (fun s H C cl fp => (he _ _ _ _ _ (O s H C cl fp) h5).1) i2) fun σ H Q h => dc_imp (MonoXs o.Gm its) (mono_if o.Gm cs) (MonoX o.Gm ek) (MonoX o.Gm ev) h
              exact (ha _ _ _ _ _ (O s H C cl fp) h3).2 rfl (by simpa using hc.1.1.2) hc.1.2
            · cases h
          · cases h
        · cases h
      · match as, has, h with
        | .ofNat 0, has, h => exact absurd rfl has
        | .ofNat (m + 1), _, h =>
          have e0 : trE (n + 1) te (.DictComp kx vx [⟨tg, it, ifs, Int.ofNat (m + 1)⟩] scope pos) = none := rfl
          rw [e0] at h
          cases h
        | .negSucc m, _, h => simp [trE] at h
  case Call f es kws pos =>
    refine plain (by intro a p z; cases z) (by intro a b c z; cases z) (by intro a b c d z; cases z) ?_
    cases kws with
    | cons kw r => cases f <;> simp [trE] at h
    | nil =>
      cases f <;> try (simp [trE] at h; done)
      case Name x p =>
        simp only [trE] at h
        split at h
        · cases h
        · rename_i hx
          rw [Bool.or_eq_true, not_or] at hx
          have x1 : (x == ("__debug__" : Str)) = false := by simpa using hx.1
          split at h
          · rename_i e t hisi
            cases e1 : trE n te e with
            | none => rw [e1] at h; cases h
            | some m =>
              rw [e1] at h
              cases h
              exact isi_call o hisi (he te X W e m o e1).1 (star_ok e1)
          split at h
          · rename_i id ar hg
            split at h
            · rename_i har
              cases e1 : trEs n te es with
              | none => rw [e1] at h; cases h
              | some xs =>
                rw [e1] at h
                cases h
                obtain ⟨g1, g2⟩ := o.glob hg
                obtain ⟨fa, fd, ps, m1, m2, m3, m4, F⟩ := o.fns _ _ _ g2
                have px := o.px
                have A := (ha te X W es xs o e1).1
                have fin : ∀ σ H Q, rE B G W (.call id xs) σ H Q → tCallSD (spD B RX G id) [] (exW B RX W) (rA B G W xs) σ H Q := fun σ H Q ⟨ρ, σ', s, L, S, q⟩ =>
                  ⟨ρ, σ', s, L, S, MonoXs o.Gm xs _ _ _ _ _ _ (fun ds s1 q ρ1 H1 vs p1 k1 rs S1 => by
                    show spD B RX G id (vs ++ []) H1 Q (exW B RX W σ)
                    rw [List.append_nil]
                    exact ⟨ρ1, ds, s1, rs, S1, o.Gm _ _ _ _ _ _ _ (fun _ _ h => Lift.mono p1 k1 h) (fun c fs s2 h ρ2 H2 cls d p2 k2 S2 rx => ⟨c, fs, ρ2, s2, rx, S2, h ρ2 H2 (p1.trans p2) (k1.trans k2) S2⟩) q⟩) (fun _ _ _ h => h) q⟩
                match es, e1, A with
                | [], e1, A =>
                  have e0 : xs = [] := List.eq_nil_of_length_eq_zero (trEs_len n e1)
                  subst e0
                  exact PE.imp (pe_callSD0 F o.room g1 m1 m2 m3 .nil px x1) fun σ H Q h => by
                    obtain ⟨ρ, σ', s, L, S, q⟩ := fin σ H Q h
                    exact q ρ H [] (List.prefix_refl _) (Keep.refl _) rfl S
                | e :: es, e1, A =>
                  cases n with
                  | zero => simp [trEs] at e1
                  | succ n =>
                    simp only [trEs] at e1
                    split at e1
                    · rename_i y ys g3 g4
                      have s1 := star_ok g3 es X.env
                      obtain ⟨s2, _, _⟩ := star_all n g4 pos X.env
                      exact PE.imp (pe_callSD F o.room g1 m1 m2 m3 .nil px A x1 s1 s2) fin
                    · cases e1
            · cases h
          · rename_i id ar hg
            split at h
            · cases e1 : trEs n te es with
              | none => rw [e1] at h; cases h
              | some xs =>
                rw [e1] at h
                cases h
                exact cls_call o hg x1 e1 (ha te X W es xs o e1).1
            · cases h
          · rename_i hg
            split at h
            · rename_i f xs hf e1
              cases h
              obtain ⟨g1, g2⟩ := o.glob hg
              have A := (ha te X W es xs o e1).1
              match es, e1, A, hf with
              | [], e1, A, hf => simp [bfOf] at hf
              | e :: es, e1, A, hf =>
                cases n with
                | zero => simp [trEs] at e1
                | succ n =>
                  simp only [trEs] at e1
                  split at e1
                  · rename_i y ys g3 g4
                    have s1 := star_ok g3 es X.env
                    obtain ⟨s2, _, _⟩ := star_all n g4 pos X.env
                    exact bf_call o hf g1 (o.blts _ g2) A s1 s2
                  · cases e1
            · cases h
          · cases h
      case Attribute oo m ap =>
        simp only [trE] at h
        split at h
        · rename_i hc
          split at h
          · rename_i i cs hm
            split at h
            · rename_i x xs h1 h2
              cases h
              exact meth_call o hm hc.1 hc.2.1 hc.2.2 (he te X W oo x o h1).1 (ha te X W es xs o h2).1 h2
            · cases h
          split at h
          · rename_i f x xs hf h1 h2
            cases h
            exact mf_call o hf hc.1 hc.2.1 hc.2.2 (he te X W oo x o h1).1 (ha te X W es xs o h2).1 h2
          · cases h
        · cases h
  case ListComp elt gs scope pos =>
    refine plain (by intro a p z; cases z) (by intro a b c z; cases z) (by intro a b c d z; cases z) ?_
    match gs, h with
    | [], h => simp [trE] at h
    | _ :: _ :: _, h => simp [trE] at h
    | [⟨tg, it, ifs, as⟩], h =>
      by_cases has : as = 0
      · subst has
        simp only [trE] at h
        split at h
        · rename_i hb
          split at h
          · rename_i ik its t cs e h1 h2 h3 h4
            split at h
            · rename_i hc
              cases h
              rw [Bool.and_eq_true, Bool.and_eq_true, Bool.and_eq_true] at hc
              have hbk : blkC X.N X.env.scope scope (ownOf scope te) = true := by
                rw [o.N]
                unfold blkC at hb ⊢
                rw [o.sc]
                exact hb
              have O := fun s H C cl fp => o.blk hb s H C cl fp
              obtain ⟨i1, i2⟩ := hi te X W tg it ik its o h1 hc.2
              refine PE.imp (pe_lc (tt := tTi B fun σ s K => xIf G cs σ s K) (te := tO B W0 fun σ s Q E => xE G e σ s Q E) (g := gW B ((ownOf scope te).map (·.2)) t) o.calm (by rw [o.N]; exact o.nd) i1 (blkOk_by hbk)
                (fun s H C cl fp => gw_ok _ n (O s H C cl fp) h2 hc.1.1.1) (fun s H C cl fp => ?_) (fun s H C cl fp => (he _ _ _ _ _ (O s H C cl fp) h4).1) i2) fun σ H Q h => lc_imp (MonoXs o.Gm its) (mono_if o.Gm cs) (MonoX o.Gm e) h
              exact (ha _ _ _ _ _ (O s H C cl fp) h3).2 rfl (by simpa using hc.1.1.2) hc.1.2
            · cases h
          · cases h
        · cases h
      · match as, has, h with
        | .ofNat 0, has, h => exact absurd rfl has
        | .ofNat (m + 1), _, h =>
          have e0 : trE (n + 1) te (.ListComp elt [⟨tg, it, ifs, Int.ofNat (m + 1)⟩] scope pos) = none := rfl
          rw [e0] at h
          cases h
        | .negSucc m, _, h => simp [trE] at h
theorem zero_all : PEs B G RX CXx k 0 ∧ PLs B G RX CXx k 0 ∧ PAs B G RX CXx k 0 ∧ POs B G RX CXx k 0 ∧ PIs B G RX CXx k 0 ∧ PDs B G RX CXx k 0 :=
  ⟨fun te X W e ir o h => by simp [trE] at h, fun te X W op es ir pos o h => by simp [trL] at h, fun te X W es irs o h => by simp [trEs] at h, fun te X W e ir o h => by simp [trO] at h, fun te X W tg e ik its o h => by simp [trI] at h, fun te X W keys vals irs o h => by simp [trKV] at h⟩
theorem snd_all : ∀ n, PEs B G RX CXx k n ∧ PLs B G RX CXx k n ∧ PAs B G RX CXx k n ∧ POs B G RX CXx k n ∧ PIs B G RX CXx k n ∧ PDs B G RX CXx k n
  | 0 => zero_all
  | n + 1 => let ⟨he, hl, ha, ho, hi, hd⟩ := snd_all n
    ⟨pes_succ he hl ha ho hi hd, pls_succ he hl, pas_succ he ha, pos_succ he, pis_succ he ha, pds_succ he hd⟩
/-! ### statements -/
theorem no_sw {e : Expr} (h : noComp e = true) (t : Option Expr) (l : Nat) (env : Env) : swapsWith e t l env = pure false := by
  cases e <;> first | rfl | simp [noComp] at h
theorem sw_false {elt : Expr} {gs : List Comprehension} {scope : Scope} {pos py : Pos} {y : Str} {l : Nat} (o : Ok B G RX CXx k te X W) (h : swB te scope pos y py = false) : swapsWith (.ListComp elt gs scope pos) (some (.Name y py)) l X.env = pure false := by
  have hb : X.env.blockKind = .function := by unfold Env.blockKind; rw [o.kd]; rfl
  have hk : X.env.kindOf y = te.sc.lookup y := by
    show X.env.scope.names.lookup y = _
    rw [o.sc]
  unfold swB at h
  unfold swapsWith
  simp only [hb, hk, Expr.pos]
  rw [show ((ScopeKind.function == ScopeKind.function) : Bool) = true from rfl, Bool.true_and, h]
theorem sw_tr {elt : Expr} {gs : List Comprehension} {scope : Scope} {pos py : Pos} {y : Str} {l : Nat} (o : Ok B G RX CXx k te X W) (h : swB te scope pos y py = true) : swapsWith (.ListComp elt gs scope pos) (some (.Name y py)) l X.env = pure true := by
  have hb : X.env.blockKind = .function := by unfold Env.blockKind; rw [o.kd]; rfl
  have hk : X.env.kindOf y = te.sc.lookup y := by
    show X.env.scope.names.lookup y = _
    rw [o.sc]
  unfold swB at h
  unfold swapsWith
  simp only [hb, hk, Expr.pos]
  rw [show ((ScopeKind.function == ScopeKind.function) : Bool) = true from rfl, Bool.true_and, h]
theorem sw_falseD {kx vx : Expr} {gs : List Comprehension} {scope : Scope} {pos py : Pos} {y : Str} {l : Nat} (o : Ok B G RX CXx k te X W) (h : swB te scope pos y py = false) : swapsWith (.DictComp kx vx gs scope pos) (some (.Name y py)) l X.env = pure false := by
  have hb : X.env.blockKind = .function := by unfold Env.blockKind; rw [o.kd]; rfl
  have hk : X.env.kindOf y = te.sc.lookup y := by
    show X.env.scope.names.lookup y = _
    rw [o.sc]
  unfold swB at h
  unfold swapsWith
  simp only [hb, hk, Expr.pos]
  rw [show ((ScopeKind.function == ScopeKind.function) : Bool) = true from rfl, Bool.true_and, h]
theorem sw_trD {kx vx : Expr} {gs : List Comprehension} {scope : Scope} {pos py : Pos} {y : Str} {l : Nat} (o : Ok B G RX CXx k te X W) (h : swB te scope pos y py = true) : swapsWith (.DictComp kx vx gs scope pos) (some (.Name y py)) l X.env = pure true := by
  have hb : X.env.blockKind = .function := by unfold Env.blockKind; rw [o.kd]; rfl
  have hk : X.env.kindOf y = te.sc.lookup y := by
    show X.env.scope.names.lookup y = _
    rw [o.sc]
  unfold swB at h
  unfold swapsWith
  simp only [hb, hk, Expr.pos]
  rw [show ((ScopeKind.function == ScopeKind.function) : Bool) = true from rfl, Bool.true_and, h]
/-- name = value -/
theorem set_ok' (o : Ok B G RX CXx k te X W) {x : Str} {py pos : Pos} {e : Expr} {i n : Nat} {m : EX} (hs : te.stor x = some i) (h : trE (n + 1) te e = some m) : PS X (.Assign [.Name x py] e pos) (tAsg (rE B G W m) (gName i)) := by
  obtain ⟨he, hl, ha, ho, hi, hd⟩ := snd_all (B := B) (G := G) (RX := RX) (CXx := CXx) (k := k) (n + 1)
  obtain ⟨s1, s2⟩ := o.st x i hs
  have hN : X.N.Nodup := by rw [o.N]; exact o.nd
  have hx := (o.slot (stor_slot hs)).1
  have plain : swapsWith e (some (.Name x py)) pos.line X.env = pure false → PS X (.Assign [.Name x py] e pos) (tAsg (rE B G W m) (gName i)) := fun hw =>
    ps_set hN hx s1 (he te X W e m o h).1 hw s2
  by_cases hc : noComp e = true
  · exact plain (no_sw hc _ _ _)
  · cases e <;> try (simp [noComp] at hc; done)
    case ListComp elt gs scope lpos =>
      cases hsw : swB te scope lpos x py with
      | false => exact plain (sw_false o hsw)
      | true =>
        have hlo : X.env.scope.names.lookup x = some .local := by
          unfold swB at hsw
          rw [Bool.and_eq_true, Bool.and_eq_true] at hsw
          rw [o.sc]
          simpa using hsw.1.1
        match gs, h with
        | [], h => simp [trE] at h
        | _ :: _ :: _, h => simp [trE] at h
        | [⟨tg, it, ifs, as⟩], h =>
          by_cases has : as = 0
          · subst has
            simp only [trE] at h
            split at h
            · rename_i hb
              split at h
              · rename_i ik its t cs e h1 h2 h3 h4
                split at h
                · rename_i hc
                  cases h
                  rw [Bool.and_eq_true, Bool.and_eq_true, Bool.and_eq_true] at hc
                  obtain ⟨he, hl, ha, ho, hi, hd⟩ := snd_all (B := B) (G := G) (RX := RX) (CXx := CXx) (k := k) n
                  have hbk : blkC X.N X.env.scope scope (ownOf scope te) = true := by
                    rw [o.N]
                    unfold blkC at hb ⊢
                    rw [o.sc]
                    exact hb
                  have O := fun s H C cl fp => o.blk hb s H C cl fp
                  obtain ⟨i1, i2⟩ := hi te X W tg it ik its o h1 hc.2
                  refine PS.imp (ps_setLc (tt := tTi B fun σ s K => xIf G cs σ s K) (te := tO B W0 fun σ s Q E => xE G e σ s Q E) (g := gW B ((ownOf scope te).map (·.2)) t) o.calm hN hx hlo (sw_tr o hsw) i1 (blkOk_by hbk)
                    (fun s H C cl fp => gw_ok _ n (O s H C cl fp) h2 hc.1.1.1) (fun s H C cl fp => (ha _ _ _ _ _ (O s H C cl fp) h3).2 rfl (by simpa using hc.1.1.2) hc.1.2) (fun s H C cl fp => (he _ _ _ _ _ (O s H C cl fp) h4).1) i2) fun D σ H h => ?_
                  exact lc_imp (W := W) (MonoXs o.Gm its) (mono_if o.Gm cs) (MonoX o.Gm e) h
                · cases h
              · cases h
            · cases h
          · match as, has, h with
            | .ofNat 0, has, h => exact absurd rfl has
            | .ofNat (m + 1), _, h =>
              have e0 : trE (n + 1) te (.ListComp elt [⟨tg, it, ifs, Int.ofNat (m + 1)⟩] scope lpos) = none := rfl
              rw [e0] at h
              cases h
            | .negSucc m, _, h => simp [trE] at h
    case DictComp kx vx gs scope lpos =>
      cases hsw : swB te scope lpos x py with
      | false => exact plain (sw_falseD o hsw)
      | true =>
        have hlo : X.env.scope.names.lookup x = some .local := by
          unfold swB at hsw
          rw [Bool.and_eq_true, Bool.and_eq_true] at hsw
          rw [o.sc]
          simpa using hsw.1.1
        match gs, h with
        | [], h => simp [trE] at h
        | _ :: _ :: _, h => simp [trE] at h
        | [⟨tg, it, ifs, as⟩], h =>
          by_cases has : as = 0
          · subst has
            simp only [trE] at h
            split at h
            · rename_i hb
              split at h
              · rename_i ik its t cs ek ev h1 h2 h3 h4 h5
                split at h
                · rename_i hc
                  cases h
                  rw [Bool.and_eq_true, Bool.and_eq_true, Bool.and_eq_true] at hc
                  obtain ⟨he, hl, ha, ho, hi, hd⟩ := snd_all (B := B) (G := G) (RX := RX) (CXx := CXx) (k := k) n
                  have hbk : blkC X.N X.env.scope scope (ownOf scope te) = true := by
                    rw [o.N]
                    unfold blkC at hb ⊢
                    rw [o.sc]
                    exact hb
                  have O := fun s H C cl fp => o.blk hb s H C cl fp
                  obtain ⟨i1, i2⟩ := hi te X W tg it ik its o h1 hc.2
                  refine PS.imp (ps_setDc (tt := tTi B fun σ s K => xIf G cs σ s K) (tk := tO B W0 fun σ s Q E => xE G ek σ s Q E) (te := tO B W0 fun σ s Q E => xE G ev σ s Q E) (g := gW B ((ownOf scope te).map (·.2)) t) o.calm hN hx hlo (sw_trD o hsw) i1 (blkOk_by hbk)
                    (fun s H C cl fp => gw_ok _ n (O s H C cl fp) h2 hc.1.1.1) (fun s H C cl fp => (ha _ _ _ _ _ (O s H C cl fp) h3).2 rfl (by simpa using hc.1.1.2) hc.1.2) (fun s H C cl fp => (he _ _ _ _ _ (O s H C cl fp) h4).1) (fun s H C cl fp => (he _ _ _ _ _ (O s H C cl fp) h5).1) i2) fun D σ H h => ?_
                  exact dc_imp (W := W) (MonoXs o.Gm its) (mono_if o.Gm cs) (MonoX o.Gm ek) (MonoX o.Gm ev) h
                · cases h
              · cases h
            · cases h
          · match as, has, h with
            | .ofNat 0, has, h => exact absurd rfl has
            | .ofNat (m + 1), _, h =>
              have e0 : trE (n + 1) te (.DictComp kx vx [⟨tg, it, ifs, Int.ofNat (m + 1)⟩] scope lpos) = none := rfl
              rw [e0] at h
              cases h
            | .negSucc m, _, h => simp [trE] at h
    all_goals simp [trE] at h
/-- a body -/
structure OkS (B : Tb) (G : FS) (RX : RXT) (CXx : CXT) (k : Nat) (te : TE) (X : Cx) (W : WQ) : Prop extends Ok B G RX CXx k te X W where
  po : PassesOwn (model X.prog X.w) X.A X.env X.xe
abbrev rS' (B : Tb) (G : FS) (W : WQ) (e : ST) : TS := tS B W fun σ s N => xS G e σ s N
abbrev rSs (B : Tb) (G : FS) (W : WQ) (e : List ST) : TS := tS B W fun σ s N => xSs G e σ s N
def PSS (B : Tb) (G : FS) (RX : RXT) (CXx : CXT) (k n : Nat) : Prop := (∀ te X W st ir, OkS B G RX CXx k te X W → trS n te st = some ir → PS X st (rS' B G W ir)) ∧ (∀ te X W st ir, OkS B G RX CXx k te X W → trSs n te st = some ir → PSs X st (rSs B G W ir))
theorem sts_succ (ih : PSS B G RX CXx k n) : PSS B G RX CXx k (n + 1) := by
  obtain ⟨ih1, ih2⟩ := ih
  obtain ⟨he, hl, ha, ho, hi, hd⟩ := snd_all (B := B) (G := G) (RX := RX) (CXx := CXx) (k := k) n
  refine ⟨fun te X W st ir o h => ?_, fun te X W st ir o h => ?_⟩
  · cases st <;> try (simp [trS] at h; done)
    case Return e pos =>
      cases e with
      | none =>
        simp only [trS] at h
        cases h
        exact ps_rtN
      | some e =>
        simp only [trS] at h
        cases e1 : trE n te e with
        | none => rw [e1] at h; cases h
        | some m =>
          rw [e1] at h
          cases h
          exact ps_rt (MonoX o.Gm m) (he te X W e m o.toOk e1).1
    case Assign ts e pos =>
      cases ts with
      | nil => simp [trS] at h
      | cons tg r =>
       cases r with
       | cons t2 r2 =>
        have e0 : trS (n + 1) te (.Assign (tg :: t2 :: r2) e pos) = none := by cases tg <;> rfl
        rw [e0] at h
        cases h
       | nil =>
        cases tg <;> try (simp [trS] at h; done)
        case Name x py =>
          simp only [trS] at h
          split at h
          · rename_i i m h1 h2
            cases h
            cases n with
            | zero => simp [trE] at h2
            | succ n => exact ps_nmset (MonoX o.Gm m) (set_ok' o.toOk h1 h2)
          · cases h
        case Tuple ts kk p =>
          simp only [trS] at h
          split at h
          · cases h
          · rename_i ht
            split at h
            · rename_i t m h1 h2
              cases h
              refine ps_as (MonoX o.Gm m) (he te X W e m o.toOk h2).1 (gt_ok n o.toOk h1) fun {g} hg => ps_asg (he te X W e m o.toOk h2).1 hg ?_ ?_ rfl
              · cases e <;> rfl
              · cases e <;> first | rfl | simp [isTup] at ht
            · cases h
        case Attribute oo x p =>
          simp only [trS] at h
          split at h
          · rename_i f m v hf h1 h2
            cases h
            obtain ⟨f1, f2⟩ := o.toOk.fi hf
            exact ps_fs (MonoX o.Gm m) (MonoX o.Gm v) o.ob f1 f2 (he te X W oo m o.toOk h1).1 (he te X W e v o.toOk h2).1
          · cases h
        case Subscript oo i p =>
          simp only [trS] at h
          split at h
          · cases h
          · rename_i hsl
            split at h
            · rename_i x y z h1 h2 h3
              cases h
              have hA : ∀ v, assign (.Subscript oo i p) X.env v = (do
                  let ov ← holding [v] (eval oo X.env)
                  let iv ← holding [v, ov] (eval i X.env)
                  standAt p
                  holding [v, ov, iv] (setItem ov iv v)
                  release [v, ov, iv] []) := by
                intro v
                cases i <;> first | rfl | simp [isSlice] at hsl
              refine ps_aset (MonoX o.Gm x) (MonoX o.Gm y) (MonoX o.Gm z) (he te X W e z o.toOk h3).1 (ps_asg (he te X W e z o.toOk h3).1 (pg_sub (he te X W oo x o.toOk h1).1 (he te X W i y o.toOk h2).1 (set_ok o.toOk.un) hA) ?_ ?_ rfl)
              · cases e <;> rfl
              · cases e <;> rfl
            · cases h
    case AugAssign t op e pos =>
      cases t <;> try (simp [trS] at h; done)
      case Attribute oo x p =>
        simp only [trS] at h
        split at h
        · rename_i f m v hf h1 h2
          cases h
          obtain ⟨f1, f2⟩ := o.toOk.fi hf
          exact ps_fa (MonoX o.Gm m) (MonoX o.Gm v) o.ob f1 f2 (.inl rfl) (he te X W oo m o.toOk h1).1 (he te X W e v o.toOk h2).1
        · rename_i f m v hf h1 h2
          cases h
          obtain ⟨f1, f2⟩ := o.toOk.fi hf
          exact ps_fa (MonoX o.Gm m) (MonoX o.Gm v) o.ob f1 f2 (.inr rfl) (he te X W oo m o.toOk h1).1 (he te X W e v o.toOk h2).1
        · cases h
      case Name x p =>
        simp only [trS] at h
        split at h
        · rename_i i m h1 h2
          cases h
          obtain ⟨s1, s2⟩ := o.st x i h1
          exact ps_ag (MonoX o.Gm m) (ps_aug (by rw [o.N]; exact o.nd) (o.slot (stor_slot h1)).1 s1 (he te X W e m o.toOk h2).1 or_iadd s2)
        · rename_i i m h1 h2
          cases h
          obtain ⟨s1, s2⟩ := o.st x i h1
          exact ps_ag (MonoX o.Gm m) (ps_aug (by rw [o.N]; exact o.nd) (o.slot (stor_slot h1)).1 s1 (he te X W e m o.toOk h2).1 or_isub s2)
        · cases h
    case For tg it b oe pos =>
      cases oe with
      | cons _ _ => simp [trS] at h
      | nil =>
        simp only [trS] at h
        split at h
        · rename_i i hdk
          split at h
          · rename_i t y h1 h2
            cases h
            unfold dkOf at hdk
            split at hdk
            · rename_i x px
              split at hdk
              · cases hdk
              · rename_i hx
                rw [Bool.or_eq_true, not_or] at hx
                have x1 : (x == ("__debug__" : Str)) = false := by simpa using hx.1
                have x2 : (x == ("__classdict__" : Str)) = false := by simpa using hx.2
                split at hdk
                · rename_i i' hs
                  split at hdk
                  · cases hdk
                    obtain ⟨g1, g2⟩ := o.toOk.slot hs
                    exact ps_fk o.po o.calm (MonoSts o.Gm y) (pe_var g1 g2 x1 x2) (gt_ok n o.toOk h1) (ih2 te X W b y o h2)
                  · cases hdk
                · cases hdk
            · cases hdk
          · cases h
        split at h
        · rename_i t ik its y h1 h2 h3
          by_cases htg : tgOk ik tg = true
          case neg => rw [if_neg htg] at h; cases h
          rw [if_pos htg] at h
          cases h
          obtain ⟨i1, i2⟩ := hi te X W tg it ik its o.toOk h2 htg
          exact ps_fr o.po o.calm (MonoXs o.Gm its) (MonoSts o.Gm y) i1 (gt_ok n o.toOk h1) (ih2 te X W b y o h3) i2
        · cases h
    case While c b oe pos =>
      cases oe with
      | cons _ _ => simp [trS] at h
      | nil =>
        simp only [trS] at h
        split at h
        · rename_i ht
          split at h
          · rename_i x y h1 h2
            cases h
            exact ps_wh o.po (MonoX o.Gm x) (MonoSts o.Gm y) ((he te X W c x o.toOk h1).2 ht) (ih2 te X W b y o h2)
          · cases h
        · cases h
    case If c a b pos =>
      simp only [trS] at h
      split at h
      · rename_i ht
        split at h
        · rename_i x y z h1 h2 h3
          cases h
          exact ps_iff (MonoX o.Gm x) (MonoSts o.Gm y) (MonoSts o.Gm z) ((he te X W c x o.toOk h1).2 ht) (ih2 te X W a y o h2) (ih2 te X W b z o h3)
        · cases h
      · cases h
    case Expr e pos =>
      simp only [trS] at h
      split at h
      · rename_i hc
        cases e1 : trE n te e with
        | none => rw [e1] at h; cases h
        | some m =>
          rw [e1] at h
          cases h
          exact ps_ex (MonoX o.Gm m) (he te X W e m o.toOk e1).1 (no_sw hc _ _ _)
      · cases h
    case Pass => simp only [trS] at h; cases h; exact ps_ps
    case Break => simp only [trS] at h; cases h; exact ps_br
    case Continue => simp only [trS] at h; cases h; exact ps_ct
  · cases st with
    | nil =>
      simp only [trSs] at h
      cases h
      exact pss_nl
    | cons st r =>
      simp only [trSs] at h
      split at h
      · rename_i x xs h1 h2
        cases h
        exact pss_cn (m1 := fun σ s N => xS G x σ s N) (m2 := fun σ s N => xSs G xs σ s N) (MonoSt o.Gm x) (MonoSts o.Gm xs) (ih1 te X W st x o h1) (ih2 te X W r xs o h2)
      · cases h
theorem sts_all : ∀ n, PSS B G RX CXx k n
  | 0 => ⟨fun te X W st ir o h => by simp [trS] at h, fun te X W st ir o h => by simp [trSs] at h⟩
  | n + 1 => sts_succ (sts_all n)
end
end PX

/-! PX: the defs of a text keep their plain meanings. -/
namespace PX
open PySem PySem.Spec PyProof.Rows L2
/-- one def: its name, its full name, its statement, its slots, its parameters, the slots of dicts that it walks, its plain body -/
structure DefT where
  name : Str
  qual : Str
  st : Stmt
  N : List Str
  ps : List Str
  dk : List Nat
  fn : Fn
/-- the names of a text -/
structure Ly where
  gl : List (Str × GE)
  at_ : List Str
  nf : Nat
  mc : List (Nat × List Nat)
def teOf (ly : Ly) (d : DefT) : TE := ⟨d.N, (defScope d.st).names, (defScope d.st).names, ly.gl, ly.at_, ly.nf, ly.mc, d.dk⟩
/-- a method of a class; a class that is made -/
structure MetT where
  c : Nat
  m : Nat
  d : DefT
structure ClsT where
  c : Nat
  name : Str
  ar : Nat
  m : Nat
/-- a def as it stands in the text -/
structure DefOk (ly : Ly) (d : DefT) : Prop where
  sc : FnScope d.N d.ps (defScope d.st)
  tr : trSs 60 (teOf ly d) (defBody d.st) = some d.fn.body
  ar : d.fn.ar = d.ps.length
  sl : d.fn.sl = d.N.length
  bd : ∀ (kV doc pm : Value) (an : Option Addr) (cdv ct : Value) (us : List Value), us.length = d.ps.length → bindArgs (PySem.W.fnOf d.name d.qual (defArgs d.st) (defBody d.st) (defScope d.st) .none kV doc pm an cdv ct) ⟨us, []⟩ = pure (d.ps.zip us)
/-- .. and behind the top -/
def FnFact (K : PySem.W.Frag) (d : DefT) : Prop := ∃ (f : Addr) (fd : FuncData), PySem.W.nsIn K mainGlobals d.name = some (some (.ref f)) ∧ Fun K d.name d.qual d.st f fd
theorem fact_mk {K : PySem.W.Frag} {d : DefT} {f : Addr} {oc : Value} {od an : Option Addr} {osl : Array (Option Value)} {kV doc pm cdv ct : Value} (a : PySem.W.nsIn K mainGlobals d.name = some (some (.ref f)))
    (l : K.lookup f = some ⟨oc, od, .func (PySem.W.fnOf d.name d.qual (defArgs d.st) (defBody d.st) (defScope d.st) .none kV doc pm an cdv ct), osl⟩)
    (c : PySem.W.codeIn K cdv d.qual = true) (k : PySem.W.keepIn K (.ref f) = true) : FnFact K d := ⟨f, _, a, fun_mk l c k⟩
/-- a class's method behind the top -/
def MtFact (K : PySem.W.Frag) (B : Tb) (q : MetT) : Prop := ∃ (C f : Addr) (fd : FuncData) (x : Str), B.cl q.c = some C ∧ B.at_[q.m]? = some x ∧ Meth K C x f ∧ Fun K q.d.name q.d.qual q.d.st f fd
theorem mt_mk {K : PySem.W.Frag} {B : Tb} {q : MetT} {C f : Addr} {x : Str} {oc : Value} {od an : Option Addr} {osl : Array (Option Value)} {kV doc pm cdv ct : Value} (hc : B.cl q.c = some C) (hx : B.at_[q.m]? = some x) (a : PySem.W.findIn K (.ref C) x = some (some (.ref f))) (i : PySem.W.isFn K (.ref f) = true)
    (l : K.lookup f = some ⟨oc, od, .func (PySem.W.fnOf q.d.name q.d.qual (defArgs q.d.st) (defBody q.d.st) (defScope q.d.st) .none kV doc pm an cdv ct), osl⟩)
    (c : PySem.W.codeIn K cdv q.d.qual = true) (k : PySem.W.keepIn K (.ref f) = true) : MtFact K B q := ⟨C, f, _, x, hc, hx, ⟨a, i, k⟩, fun_mk l c k⟩
/-- a class behind the top -/
def CtFact (K : PySem.W.Frag) (B : Tb) (q : ClsT) : Prop := ∃ C : Addr, B.cl q.c = some C ∧ B.at_[q.m]? = some ("__init__" : Str) ∧ PySem.W.nsIn K mainGlobals q.name = some (some (.ref C)) ∧ PySem.W.makesIn K C = true ∧ PySem.W.keepIn K (.ref C) = true
theorem ct_mk {K : PySem.W.Frag} {B : Tb} {q : ClsT} {C : Addr} (hc : B.cl q.c = some C) (hx : B.at_[q.m]? = some ("__init__" : Str)) (a : PySem.W.nsIn K mainGlobals q.name = some (some (.ref C))) (m : PySem.W.makesIn K C = true) (k : PySem.W.keepIn K (.ref C) = true) : CtFact K B q := ⟨C, hc, hx, a, m, k⟩
def RX0 : RXT := fun _ _ _ _ _ _ => False
def Tof (tbl : List DefT) (mts : List MetT) (cts : List ClsT) : Nat → Option Fn := fun i =>
  if i < 1000000 then (tbl[i]?).map (·.fn)
  else if i < 2000000 then (mts.find? fun q => mid q.c q.m == i).map (·.d.fn)
  else (cts.find? fun q => cid q.c == i).map fun q => ⟨q.ar, q.ar, [.ctor q.c (mid q.c q.m)]⟩
/-- what a table and its globals must bear -/
structure TabOk (pw : Params) (K : PySem.W.Frag) (B : Tb) (tbl : List DefT) (mts : List MetT) (cts : List ClsT) (ly : Ly) : Prop where
  hK : B.K = K
  hP : B.pw = pw
  ob : ClsOk B K ly.nf
  an : ly.at_ = B.at_
  few : tbl.length < 1000000
  defs : ∀ d ∈ tbl, DefOk ly d
  facts : ∀ d ∈ tbl, FnFact K d
  mdefs : ∀ q ∈ mts, DefOk ly q.d
  mfacts : ∀ q ∈ mts, MtFact K B q
  cfacts : ∀ q ∈ cts, CtFact K B q
  mT : ∀ q ∈ mts, Tof tbl mts cts (mid q.c q.m) = some q.d.fn
  cT : ∀ q ∈ cts, Tof tbl mts cts (cid q.c) = some ⟨q.ar, q.ar, [.ctor q.c (mid q.c q.m)]⟩ ∧ ∃ m ∈ mts, m.c = q.c ∧ m.m = q.m ∧ m.d.ps.length = q.ar + 1
  fns : ∀ x id ar, ly.gl.lookup x = some (.fn id ar) → ∃ d, tbl[id]? = some d ∧ d.name = x ∧ d.ps.length = ar
  clss : ∀ x id ar, ly.gl.lookup x = some (.cls id ar) → ∃ q ∈ cts, q.name = x ∧ id = cid q.c ∧ q.ar = ar
  csts : ∀ x d, ly.gl.lookup x = some (.cst d) → ∃ v u, PySem.W.nsIn K mainGlobals x = some (some u) ∧ RelV v u ∧ ∀ H ρ, RelD B H ρ d v
  blts : ∀ x, ly.gl.lookup x = some .blt → PySem.W.nsIn K mainGlobals x = some none
  mcs : ∀ m cs c, ly.mc.lookup m = some cs → c ∈ cs → ∃ q ∈ mts, q.c = c ∧ q.m = m
theorem start_rel {B : Tb} {H : Hp} {ρ : List Addr} {N : List Str} {ds : List D} {vs : List V} (r : RelDs B H ρ ds vs) (hl : ds.length ≤ N.length) : RelL B H ρ (ds.map some ++ List.replicate (N.length - ds.length) none) (L2.start N vs) := by
  have l := r.length
  refine ⟨?_, fun i d e => ?_⟩
  · unfold L2.start
    simp only [List.length_append, List.length_map, List.length_replicate, l]
  · by_cases hi : i < ds.length
    · rw [List.getElem?_append_left (by simpa using hi), List.getElem?_map] at e
      cases e2 : ds[i]? with
      | none => rw [e2] at e; cases e
      | some x =>
        rw [e2] at e
        cases e
        obtain ⟨v, h1, h2⟩ := r.get e2
        refine ⟨v, ?_, h2⟩
        unfold L2.start
        rw [List.getElem?_append_left (by rw [List.length_map, ← l]; exact hi), List.getElem?_map, h1]
        rfl
    · rw [List.getElem?_append_right (by simpa using hi), List.getElem?_replicate] at e
      split at e <;> cases e
theorem slotVs_map : ∀ vs : List D, slotVs (vs.map some) = some vs
  | [] => rfl
  | v :: vs => by
    show (slotVs (vs.map some)).map _ = _
    rw [slotVs_map vs]
    rfl
section
variable {P : Program} {w : World} {K : PySem.W.Frag} {mg : Str → Option Value} {B : Tb} {tbl : List DefT} {mts : List MetT} {cts : List ClsT} {ly : Ly} {h : Heap}
/-- what stands at a level -/
def GoodF (P : Program) (w : World) (K : PySem.W.Frag) (mg : Str → Option Value) (B : Tb) (T : Nat → Option Fn) (tbl : List DefT) (k : Nat) : Prop :=
  ∀ (id : Nat) (d : DefT), tbl[id]? = some d → ∃ (f : Addr) (fd : FuncData), mg d.name = some (.ref f) ∧ PySem.W.keepIn K (.ref f) = true ∧ Binds K fd d.ps [] ∧ (∀ (s : Shared) (us : List Value), us.length = d.ps.length → BindsTo s fd ⟨us, []⟩ (d.ps.zip us)) ∧ ∀ base : Heap, FnOk P w K mg base CX0 k f fd d.ps (spD B RX0 (Lv T k) id)
def GoodM (P : Program) (w : World) (K : PySem.W.Frag) (mg : Str → Option Value) (B : Tb) (T : Nat → Option Fn) (mts : List MetT) (k : Nat) : Prop :=
  ∀ q ∈ mts, ∃ (C f : Addr) (fd : FuncData) (x : Str), B.cl q.c = some C ∧ B.at_[q.m]? = some x ∧ Meth K C x f ∧ Binds K fd q.d.ps [] ∧ ∀ base : Heap, FnOk P w K mg base CX0 k f fd q.d.ps (spD B RX0 (Lv T k) (mid q.c q.m))
theorem fn_zero {f : Addr} {fd : FuncData} {ps : List Str} {T : Nat → Option Fn} {id : Nat} {base : Heap} : FnOk P w K mg base CX0 0 f fd ps (spD B RX0 (Lv T 0) id) :=
  ⟨fun vs H Q E ⟨_, _, _, _, _, z⟩ => z.elim, fun A outer s H args us vs Q E _ _ _ _ ⟨_, _, _, _, _, z⟩ => z.elim⟩
/-- a def, from what stands a level below -/
theorem def_ok (T : TabOk w.params K B tbl mts cts ly) (KX : K.In h) (hmg : h.Ns mainGlobals mg) {k : Nat} (F0 : GoodF P w K mg B (Tof tbl mts cts) tbl k) (M0 : GoodM P w K mg B (Tof tbl mts cts) mts k) (M1 : ∀ k', k = k' + 1 → GoodM P w K mg B (Tof tbl mts cts) mts k')
    {d : DefT} {id : Nat} {f : Addr} {fd : FuncData} (hT : Tof tbl mts cts id = some d.fn) (O : DefOk ly d) (F : Fun K d.name d.qual d.st f fd) (base : Heap) : FnOk P w K mg base CX0 (k + 1) f fd d.ps (spD B RX0 (Lv (Tof tbl mts cts) (k + 1)) id) := by
  refine F.ok O.sc (fun vs H Q E hh => ?_) fun cdv A outer s H vs Q E hr hh => ?_
  · obtain ⟨ρ, ds, s, r, S, q⟩ := hh
    simp only [Lv, hT] at q
    rw [← r.length, q.1, O.ar]
  · obtain ⟨ρ, ds, st, r, S, q⟩ := hh
    simp only [Lv, hT] at q
    have hN : d.ps.length ≤ d.N.length := by
      have := congrArg List.length O.sc.pre
      rw [List.length_take] at this
      omega
    refine ⟨rSs B (Lv (Tof tbl mts cts) k) (fun c fs _ H' ρ' s' => ∀ cls dd, RX0 c fs cls dd H' ρ' → E cls dd H') d.fn.body, ?_, ?_⟩
    · refine (sts_all (B := B) (G := Lv (Tof tbl mts cts) k) (RX := RX0) (CXx := CX0) (k := k) 60).2 (teOf ly d) _ _ _ _ ?_ O.tr
      refine ⟨⟨T.hK, T.hP, ?_, rfl, rfl, O.sc.nd, O.sc.kind, rfl, fun x i hx => ?_, hr, fun x id2 ar hx => ?_, fun x dd hx => ?_, fun x hx => PySem.W.mg_none_of KX hmg (T.blts x hx), fun σ pins H s e s' I c => c.elim, fun _ _ _ _ _ c => c, Lv_mono _ k, T.ob, T.an, fun x id2 ar hx => ?_, fun m cs x c hx ha hc => ?_⟩, PassesOwn.never⟩
      · have := hr.un
        show (A.deeper (envOfC d.qual (defScope d.st) s.heap.objs.size f cdv)).units + 65 < cLine
        omega
      · refine ⟨?_, .inl rfl⟩
        unfold TE.stor at hx
        show (defScope d.st).names.lookup x = _ ∨ (defScope d.st).names.lookup x = _
        simp only [teOf] at hx
        split at hx
        · rename_i e; exact .inl e
        · rename_i e; exact .inr e
        · cases hx
      · obtain ⟨d2, h1, h2, h3⟩ := T.fns x id2 ar hx
        obtain ⟨f2, fd2, g1, g2, g3, _, g4⟩ := F0 id2 d2 h1
        exact ⟨f2, fd2, d2.ps, h2 ▸ g1, g2, g3, h3, g4 base⟩
      · obtain ⟨v, u, h1, h2, h3⟩ := T.csts x dd hx
        exact ⟨v, u, PySem.W.mg_of KX hmg h1, h2, h3⟩
      · obtain ⟨qc, hq, rfl, rfl, rfl⟩ := T.clss x id2 ar hx
        obtain ⟨C, c1, c2, c3, c4, c5⟩ := T.cfacts qc hq
        refine ⟨C, PySem.W.mg_of KX hmg c3, c5, ?_⟩
        cases k with
        | zero => exact .inr fun vs s Q E z => z
        | succ k' =>
          obtain ⟨cT, mm, hmm, e1, e2, e3⟩ := T.cT qc hq
          obtain ⟨C', fi, fdi, xi, m1, m2, m3, m4, m5⟩ := M1 k' rfl mm hmm
          rw [e1, c1] at m1
          cases m1
          rw [e2, c2] at m2
          cases m2
          refine .inl ⟨fi, fdi, mm.d.ps, k', qc.c, mid mm.c mm.m, Lv (Tof tbl mts cts) k', rfl, ⟨c4, m3.at_, m3.fn, c5⟩, m4, m5 base, c1, Lv_mono _ _, fun vs s Q E z => ?_⟩
          simp only [Lv, cT] at z
          obtain ⟨hl, z⟩ := z
          refine ⟨hl, ?_⟩
          simp only [Nat.sub_self, List.replicate_zero, List.append_nil, xSs, xS, slotVs_map] at z
          rw [e1, e2]
          exact z
      · obtain ⟨qm, hq, rfl, rfl⟩ := T.mcs m cs c hx hc
        obtain ⟨C, f2, fd2, x2, m1, m2, m3, m4, m5⟩ := M0 qm hq
        rw [ha] at m2
        cases m2
        exact ⟨C, f2, fd2, qm.d.ps, m1, m3, m5 base, m4⟩
    · refine ⟨ρ, _, st, ?_, S, xSs_mono (Lv_mono _ k) d.fn.body (N' := LiftN B H ρ _ _) ⟨?_, ?_, ?_, ?_, ?_⟩ q.2⟩
      · rw [O.sl, O.ar]
        have e : d.ps.length = ds.length := by rw [q.1, O.ar]
        rw [e]
        exact start_rel r (by rw [q.1, O.ar]; exact hN)
      · exact fun σ s' h ρ' H' σV p kk L S' => h ρ' H' .non p kk rfl S'
      · exact fun dd s' h => h
      · exact fun σ s' h => h.elim
      · exact fun σ s' h => h.elim
      · exact fun c fs σ s' h ρ' H' σV p kk L S' cls dd rx => h ρ' H' cls dd p kk S' rx
theorem binds_of {ly : Ly} {d : DefT} {f : Addr} {fd : FuncData} (O : DefOk ly d) (F : Fun K d.name d.qual d.st f fd) : Binds K fd d.ps [] ∧ ∀ (s : Shared) (us : List Value), us.length = d.ps.length → BindsTo s fd ⟨us, []⟩ (d.ps.zip us) := by
  refine ⟨F.binds O.bd, fun s us hl => ?_⟩
  obtain ⟨oc, od, kV, doc, pm, an, cdv, ct, osl, rfl, lk, hcd⟩ := F.ex
  exact .of_eq (O.bd kV doc pm an cdv ct us hl)
theorem all_ok (T : TabOk w.params K B tbl mts cts ly) (KX : K.In h) (hmg : h.Ns mainGlobals mg) : ∀ k : Nat, (GoodF P w K mg B (Tof tbl mts cts) tbl k ∧ GoodM P w K mg B (Tof tbl mts cts) mts k) ∧ ∀ k', k = k' + 1 → GoodM P w K mg B (Tof tbl mts cts) mts k'
  | 0 => by
    refine ⟨⟨fun id d hd => ?_, fun q hq => ?_⟩, fun k' z => by omega⟩
    · have hm : d ∈ tbl := List.mem_of_getElem? hd
      obtain ⟨f, fd, a, F⟩ := T.facts d hm
      obtain ⟨b1, b2⟩ := binds_of (T.defs d hm) F
      exact ⟨f, fd, PySem.W.mg_of KX hmg a, F.kp, b1, b2, fun base => fn_zero⟩
    · obtain ⟨C, f, fd, x, h1, h2, h3, F⟩ := T.mfacts q hq
      exact ⟨C, f, fd, x, h1, h2, h3, (binds_of (T.mdefs q hq) F).1, fun base => fn_zero⟩
  | k + 1 => by
    obtain ⟨⟨g1, g2⟩, g3⟩ := all_ok T KX hmg k
    refine ⟨⟨fun id d hd => ?_, fun q hq => ?_⟩, fun k' z => by cases z; exact g2⟩
    · have hm : d ∈ tbl := List.mem_of_getElem? hd
      obtain ⟨f, fd, a, F⟩ := T.facts d hm
      obtain ⟨b1, b2⟩ := binds_of (T.defs d hm) F
      have hT : Tof tbl mts cts id = some d.fn := by
        have := T.few
        have hi : id < tbl.length := (List.getElem?_eq_some_iff.mp hd).1
        unfold Tof
        rw [if_pos (by omega), hd]
        rfl
      exact ⟨f, fd, PySem.W.mg_of KX hmg a, F.kp, b1, b2, fun base => def_ok T KX hmg g1 g2 g3 hT (T.defs d hm) F base⟩
    · obtain ⟨C, f, fd, x, h1, h2, h3, F⟩ := T.mfacts q hq
      exact ⟨C, f, fd, x, h1, h2, h3, (binds_of (T.mdefs q hq) F).1, fun base => def_ok T KX hmg g1 g2 g3 (T.mT q hq) (T.mdefs q hq) F base⟩
end
/-- the law's promise -/
def spLaw (K : PySem.W.Frag) : Sp := fun vs H Q _ => ∃ (a : Addr) (ns : List Int), vs = [.ref a] ∧ SqL K H a (ns.map V.int) ∧ (∀ o, H a = some o → ∃ ob xs, o = .frz ob xs) ∧ ns.length ≤ 63 ∧ ∀ H', Q (.bl true) H'
theorem law_ok {P : Program} {w : World} {K : PySem.W.Frag} {mg : Str → Option Value} {B : Tb} {tbl : List DefT} {mts : List MetT} {cts : List ClsT} {ly : Ly} {h : Heap} (T : TabOk w.params K B tbl mts cts ly) (KX : K.In h) (hmg : h.Ns mainGlobals mg) {k id : Nat} {d : DefT} {fa : Addr}
    (hd : tbl[id]? = some d) (hps : d.ps = ([("script" : Str)] : List Str)) (hfa : mg d.name = some (.ref fa)) (law : ∀ ns : List Int, ns.length ≤ 63 → Lv (Tof tbl mts cts) k id [.fl (ns.map .int)] [] (fun v _ => v = .bl true) (fun _ _ _ => False)) :
    ∃ fd : FuncData, (∀ (s : Shared) (v : Value), BindsTo s fd ⟨[v], []⟩ [("script", v)]) ∧ ∀ base : Heap, FnOk P w K mg base CX0 k fa fd ["script"] (spLaw K) := by
  obtain ⟨f, fd, g1, g2, g3, g4, F⟩ := (all_ok (P := P) (w := w) T KX hmg k).1.1 id d hd
  rw [hfa] at g1
  cases g1
  rw [hps] at g4 F
  refine ⟨fd, fun s v => g4 s [v] rfl, fun base => (F base).imp fun vs H Q E ⟨a, ns, e, hS, hf, hl, q⟩ => ?_⟩
  subst e
  refine ⟨[], [.fl (ns.map .int)], [], ⟨.ref a, [], rfl, ⟨a, ns.map V.int, rfl, ?_, RelDs.ints⟩, rfl⟩, ⟨rfl, List.nodup_nil, fun n a o e => by simp at e⟩, Lv_mono _ k _ _ _ _ _ _ _ (fun v s hv ρ' H' v' p kk r S => ?_) (fun _ _ _ h => h.elim) (law ns hl)⟩
  · rcases hS with (hS | hS) | hS
    · obtain ⟨ob, xs, z⟩ := hf _ hS
      cases z
    · exact .inl hS
    · exact .inr (by rw [T.hK]; exact hS)
  · subst hv
    cases (show v' = .bl true from r)
    exact q H'
theorem walk_ok {l : PySem.W.OpenLaw} {q : Program} {loose : List Str} {XP : (Str → Option Value) → Heap → Prop} {YP : World → Heap → Prop} {d : DefRec} {K : Params → PySem.W.Frag} {k : Nat} (hn : l.most = some 63) (hdf : d.params.defaults = []) (hr : Room k callerA)
    (hY : ∀ (w : World) (h : Heap), YP w h → (K w.params).In h)
    (F : ∀ (w : World) (mg : Str → Option Value) (fa : Addr) (h : Heap), (K w.params).In h → h.Ns mainGlobals mg → mg d.name = some (.ref fa) →
      ∃ fd : FuncData, (∀ (s : Shared) (u : Value), BindsTo s fd ⟨[u], []⟩ [("script", u)]) ∧ ∀ base : Heap, (K w.params).In base → base.Ns mainGlobals mg → FnOk l.prog w (K w.params) mg base CX0 k fa fd ["script"] (spLaw (K w.params))) :
    PySem.W.WalkO q loose XP YP l.row.toRowW d [] (fun f vs => PySem.call f vs) :=
  L2.walk_of (n := 63) (k := k) (x := "script") (CX := fun _ => CX0) (sp := fun w => spLaw (K w.params)) hn (by decide) hdf hr hY F (fun _ H a ns hl ho hS => ⟨a, ns, rfl, hS, fun o e => by
    rcases ho a with z | ⟨ob, xs, z⟩
    · rw [z] at e; cases e
    · rw [z] at e; cases e; exact ⟨_, _, rfl⟩, hl, fun _ => rfl⟩) fun _ _ _ _ _ z => z
/-! the table's facts, as the top has written them -/
def FactsL (K : PySem.W.Frag) : List DefT → Prop
  | [] => True
  | d :: r => FnFact K d ∧ FactsL K r
theorem FactsL.all {K : PySem.W.Frag} : ∀ {tbl : List DefT}, FactsL K tbl → ∀ d ∈ tbl, FnFact K d
  | [], _, _, h => by cases h
  | d :: r, ⟨a, b⟩, x, h => by
    rcases List.mem_cons.mp h with rfl | h
    · exact a
    · exact FactsL.all b x h
def DefsL (ly : Ly) : List DefT → Prop
  | [] => True
  | d :: r => DefOk ly d ∧ DefsL ly r
theorem DefsL.all {ly : Ly} : ∀ {tbl : List DefT}, DefsL ly tbl → ∀ d ∈ tbl, DefOk ly d
  | [], _, _, h => by cases h
  | d :: r, ⟨a, b⟩, x, h => by
    rcases List.mem_cons.mp h with rfl | h
    · exact a
    · exact DefsL.all b x h
def MDefsL (ly : Ly) : List MetT → Prop
  | [] => True
  | d :: r => DefOk ly d.d ∧ MDefsL ly r
theorem MDefsL.all {ly : Ly} : ∀ {tbl : List MetT}, MDefsL ly tbl → ∀ d ∈ tbl, DefOk ly d.d
  | [], _, _, h => by cases h
  | d :: r, ⟨a, b⟩, x, h => by
    rcases List.mem_cons.mp h with rfl | h
    · exact a
    · exact MDefsL.all b x h
def MFactsL (K : PySem.W.Frag) (B : Tb) : List MetT → Prop
  | [] => True
  | d :: r => MtFact K B d ∧ MFactsL K B r
theorem MFactsL.all {K : PySem.W.Frag} {B : Tb} : ∀ {tbl : List MetT}, MFactsL K B tbl → ∀ d ∈ tbl, MtFact K B d
  | [], _, _, h => by cases h
  | d :: r, ⟨a, b⟩, x, h => by
    rcases List.mem_cons.mp h with rfl | h
    · exact a
    · exact MFactsL.all b x h
def CFactsL (K : PySem.W.Frag) (B : Tb) : List ClsT → Prop
  | [] => True
  | d :: r => CtFact K B d ∧ CFactsL K B r
theorem CFactsL.all {K : PySem.W.Frag} {B : Tb} : ∀ {tbl : List ClsT}, CFactsL K B tbl → ∀ d ∈ tbl, CtFact K B d
  | [], _, _, h => by cases h
  | d :: r, ⟨a, b⟩, x, h => by
    rcases List.mem_cons.mp h with rfl | h
    · exact a
    · exact CFactsL.all b x h
/-- the classes: no attribute of a class bears a field's name -/
def NoL (K : PySem.W.Frag) (C : Addr) : List Str → Prop
  | [] => True
  | x :: r => PySem.W.findIn K (.ref C) x = some none ∧ NoL K C r
theorem NoL.all {K : PySem.W.Frag} {C : Addr} : ∀ {l : List Str}, NoL K C l → ∀ x ∈ l, NoAttr K C x
  | [], _, _, h => by cases h
  | d :: r, ⟨a, b⟩, x, h => by
    rcases List.mem_cons.mp h with rfl | h
    · exact a
    · exact NoL.all b x h
def ClsL (K : PySem.W.Frag) (fs : List Str) : List Addr → Prop
  | [] => True
  | C :: r => (Cls K C ∧ NoL K C fs) ∧ ClsL K fs r
theorem ClsL.all {K : PySem.W.Frag} {fs : List Str} : ∀ {l : List Addr}, ClsL K fs l → ∀ C ∈ l, Cls K C ∧ NoL K C fs
  | [], _, _, h => by cases h
  | d :: r, ⟨a, b⟩, x, h => by
    rcases List.mem_cons.mp h with rfl | h
    · exact a
    · exact ClsL.all b x h
theorem clsOk_of {B : Tb} {K : PySem.W.Frag} {nf : Nat} {Cs : List Addr} (hc : B.cl = fun c => Cs[c]?) (nd : B.at_.Nodup) (h : ClsL K (B.at_.take nf) Cs) : ClsOk B K nf :=
  ⟨nd, fun c C e => (h.all C (by rw [hc] at e; exact List.mem_of_getElem? e)).1, fun c C f x e hf hx => ((h.all C (by rw [hc] at e; exact List.mem_of_getElem? e)).2).all x (List.mem_of_getElem? (i := f) (by rw [List.getElem?_take, if_pos hf]; exact hx))⟩
def glChk (tbl : List DefT) (cts : List ClsT) : List (Str × GE) → Bool
  | [] => true
  | (x, .fn id ar) :: r => (match tbl[id]? with
    | some d => d.name == x && d.ps.length == ar
    | none => false) && glChk tbl cts r
  | (x, .cls id ar) :: r => (cts.any fun q => q.name == x && (cid q.c == id && q.ar == ar)) && glChk tbl cts r
  | _ :: r => glChk tbl cts r
theorem lookup_mem {α : Type} : ∀ {gl : List (Str × α)} {x : Str} {g : α}, gl.lookup x = some g → (x, g) ∈ gl
  | [], _, _, h => by cases h
  | (y, g') :: r, x, g, h => by
    rw [List.lookup_cons] at h
    split at h
    · rename_i e
      cases h
      rw [beq_iff_eq] at e
      subst e
      exact List.mem_cons_self
    · exact List.mem_cons_of_mem _ (lookup_mem h)
theorem lookup_memN {α : Type} : ∀ {gl : List (Nat × α)} {x : Nat} {g : α}, gl.lookup x = some g → (x, g) ∈ gl
  | [], _, _, h => by cases h
  | (y, g') :: r, x, g, h => by
    rw [List.lookup_cons] at h
    split at h
    · rename_i e
      cases h
      rw [beq_iff_eq] at e
      subst e
      exact List.mem_cons_self
    · exact List.mem_cons_of_mem _ (lookup_memN h)
theorem glChk.all {tbl : List DefT} {cts : List ClsT} : ∀ {gl : List (Str × GE)}, glChk tbl cts gl = true → (∀ x id ar, (x, GE.fn id ar) ∈ gl → ∃ d, tbl[id]? = some d ∧ d.name = x ∧ d.ps.length = ar) ∧ ∀ x id ar, (x, GE.cls id ar) ∈ gl → ∃ q ∈ cts, q.name = x ∧ id = cid q.c ∧ q.ar = ar
  | [], _ => ⟨(fun _ _ _ h => by cases h), (fun _ _ _ h => by cases h)⟩
  | (y, g) :: r, c => by
    have ih : glChk tbl cts r = true → _ := glChk.all (gl := r)
    cases g with
    | fn id' ar' =>
      simp only [glChk, Bool.and_eq_true] at c
      obtain ⟨i1, i2⟩ := ih c.2
      refine ⟨fun x id ar h => ?_, fun x id ar h => ?_⟩
      · rcases List.mem_cons.mp h with e | h
        · cases e
          have c := c.1
          split at c
          · rename_i d hd
            rw [Bool.and_eq_true, beq_iff_eq, beq_iff_eq] at c
            exact ⟨d, hd, c.1, c.2⟩
          · cases c
        · exact i1 x id ar h
      · rcases List.mem_cons.mp h with e | h
        · cases e
        · exact i2 x id ar h
    | cls id' ar' =>
      simp only [glChk, Bool.and_eq_true] at c
      obtain ⟨i1, i2⟩ := ih c.2
      refine ⟨fun x id ar h => ?_, fun x id ar h => ?_⟩
      · rcases List.mem_cons.mp h with e | h
        · cases e
        · exact i1 x id ar h
      · rcases List.mem_cons.mp h with e | h
        · cases e
          obtain ⟨q, hq, z⟩ := List.any_eq_true.mp c.1
          rw [Bool.and_eq_true, Bool.and_eq_true, beq_iff_eq, beq_iff_eq, beq_iff_eq] at z
          exact ⟨q, hq, z.1, z.2.1.symm, z.2.2⟩
        · exact i2 x id ar h
    | cst d =>
      obtain ⟨i1, i2⟩ := ih c
      exact ⟨(fun x id ar h => by rcases List.mem_cons.mp h with e | h; (cases e); exact i1 x id ar h), (fun x id ar h => by rcases List.mem_cons.mp h with e | h; (cases e); exact i2 x id ar h)⟩
    | blt =>
      obtain ⟨i1, i2⟩ := ih c
      exact ⟨(fun x id ar h => by rcases List.mem_cons.mp h with e | h; (cases e); exact i1 x id ar h), (fun x id ar h => by rcases List.mem_cons.mp h with e | h; (cases e); exact i2 x id ar h)⟩
def mcChk (mts : List MetT) (mc : List (Nat × List Nat)) : Bool := mc.all fun p => p.2.all fun c => mts.any fun q => q.c == c && q.m == p.1
theorem mcChk.all {mts : List MetT} {mc : List (Nat × List Nat)} (h : mcChk mts mc = true) : ∀ m cs c, mc.lookup m = some cs → c ∈ cs → ∃ q ∈ mts, q.c = c ∧ q.m = m := fun m cs c e hc => by
  have h1 := List.all_eq_true.mp h _ (lookup_memN e)
  have h2 := List.all_eq_true.mp h1 c hc
  obtain ⟨q, hq, z⟩ := List.any_eq_true.mp h2
  rw [Bool.and_eq_true, beq_iff_eq, beq_iff_eq] at z
  exact ⟨q, hq, z.1, z.2⟩
/-- methods and classes by their numbers -/
def ids : List MetT → List Nat → Bool
  | [], _ => true
  | q :: r, l => (decide (q.c < 900 ∧ q.m < 1000) && !l.contains (mid q.c q.m)) && ids r (mid q.c q.m :: l)
theorem ids.find {mts : List MetT} : ∀ {l : List Nat}, ids mts l = true → ∀ q ∈ mts, (mts.find? fun p => mid p.c p.m == mid q.c q.m) = some q ∧ (∀ i ∈ l, mid q.c q.m ≠ i) ∧ q.c < 900 ∧ q.m < 1000 := by
  induction mts with
  | nil => intro l _ q h; cases h
  | cons p r ih =>
    intro l h q hq
    simp only [ids, Bool.and_eq_true, decide_eq_true_eq, Bool.not_eq_true', List.contains_eq_mem, decide_eq_false_iff_not] at h
    obtain ⟨⟨⟨h1, h2⟩, h3⟩, h4⟩ := h
    rcases List.mem_cons.mp hq with rfl | hq
    · refine ⟨?_, fun i hi z => h3 (z ▸ hi), h1, h2⟩
      rw [List.find?_cons, beq_self_eq_true]
    · obtain ⟨g1, g2, g3, g4⟩ := ih h4 q hq
      refine ⟨?_, fun i hi => g2 i (List.mem_cons_of_mem _ hi), g3, g4⟩
      have : (mid p.c p.m == mid q.c q.m) = false := by
        rw [beq_eq_false_iff_ne]
        exact (g2 _ List.mem_cons_self).symm
      rw [List.find?_cons, this]
      exact g1
def ctChk (mts : List MetT) : List ClsT → List Nat → Bool
  | [], _ => true
  | q :: r, l => (!l.contains q.c && (mts.any fun m => m.c == q.c && (m.m == q.m && m.d.ps.length == q.ar + 1))) && ctChk mts r (q.c :: l)
theorem ctChk.find {mts : List MetT} {cts : List ClsT} : ∀ {l : List Nat}, ctChk mts cts l = true → ∀ q ∈ cts, (cts.find? fun p => cid p.c == cid q.c) = some q ∧ (∀ i ∈ l, q.c ≠ i) ∧ ∃ m ∈ mts, m.c = q.c ∧ m.m = q.m ∧ m.d.ps.length = q.ar + 1 := by
  induction cts with
  | nil => intro l _ q h; cases h
  | cons p r ih =>
    intro l h q hq
    simp only [ctChk, Bool.and_eq_true, Bool.not_eq_true', List.contains_eq_mem, decide_eq_false_iff_not] at h
    obtain ⟨⟨h3, h5⟩, h4⟩ := h
    rcases List.mem_cons.mp hq with rfl | hq
    · refine ⟨?_, fun i hi z => h3 (z ▸ hi), ?_⟩
      · rw [List.find?_cons, beq_self_eq_true]
      · obtain ⟨m, hm, z⟩ := List.any_eq_true.mp h5
        rw [Bool.and_eq_true, Bool.and_eq_true, beq_iff_eq, beq_iff_eq, beq_iff_eq] at z
        exact ⟨m, hm, z.1, z.2.1, z.2.2⟩
    · obtain ⟨g1, g2, g3⟩ := ih h4 q hq
      refine ⟨?_, fun i hi => g2 i (List.mem_cons_of_mem _ hi), g3⟩
      have : (cid p.c == cid q.c) = false := by
        rw [beq_eq_false_iff_ne]
        intro z
        unfold cid at z
        exact (g2 _ List.mem_cons_self) (by omega)
      rw [List.find?_cons, this]
      exact g1
/-- the names of the table that are not defs -/
def NamesL (K : PySem.W.Frag) (B : Tb) : List (Str × GE) → Prop
  | [] => True
  | (x, .cst d) :: r => (∃ v u, PySem.W.nsIn K mainGlobals x = some (some u) ∧ RelV v u ∧ ∀ H ρ, RelD B H ρ d v) ∧ NamesL K B r
  | (x, .blt) :: r => PySem.W.nsIn K mainGlobals x = some none ∧ NamesL K B r
  | _ :: r => NamesL K B r
theorem NamesL.cst {K : PySem.W.Frag} {B : Tb} : ∀ {gl : List (Str × GE)}, NamesL K B gl → ∀ x d, (x, GE.cst d) ∈ gl → ∃ v u, PySem.W.nsIn K mainGlobals x = some (some u) ∧ RelV v u ∧ ∀ H ρ, RelD B H ρ d v
  | [], _, _, _, h => by cases h
  | (y, g) :: r, c, x, d, h => by
    rcases List.mem_cons.mp h with e | h
    · cases e
      exact c.1
    · refine NamesL.cst (B := B) ?_ x d h
      cases g <;> first | exact c | exact c.2
theorem NamesL.blt {K : PySem.W.Frag} {B : Tb} : ∀ {gl : List (Str × GE)}, NamesL K B gl → ∀ x, (x, GE.blt) ∈ gl → PySem.W.nsIn K mainGlobals x = some none
  | [], _, _, h => by cases h
  | (y, g) :: r, c, x, h => by
    rcases List.mem_cons.mp h with e | h
    · cases e
      exact c.1
    · refine NamesL.blt (B := B) ?_ x h
      cases g <;> first | exact c | exact c.2
theorem tab_mk {K : PySem.W.Frag} {B : Tb} {tbl : List DefT} {mts : List MetT} {cts : List ClsT} {ly : Ly} (hK : B.K = K) {pw : Params} (hP : B.pw = pw) (O : ClsOk B K ly.nf) (an : ly.at_ = B.at_) (D : DefsL ly tbl) (F : FactsL K tbl) (MD : MDefsL ly mts) (MF : MFactsL K B mts) (CF : CFactsL K B cts)
    (few : decide (tbl.length < 1000000) = true) (c : glChk tbl cts ly.gl = true) (c1 : mcChk mts ly.mc = true) (c2 : ids mts [] = true) (c3 : ctChk mts cts [] = true) (N : NamesL K B ly.gl) : TabOk pw K B tbl mts cts ly where
  hK := hK
  hP := hP
  ob := O
  an := an
  few := of_decide_eq_true few
  defs := D.all
  facts := F.all
  mdefs := MD.all
  mfacts := MF.all
  cfacts := CF.all
  mT := fun q hq => by
    obtain ⟨h1, _, h2, h3⟩ := ids.find c2 q hq
    unfold Tof
    rw [if_neg (by unfold mid; omega), if_pos (by unfold mid; omega), h1]
    rfl
  cT := fun q hq => by
    obtain ⟨h1, _, h2⟩ := ctChk.find c3 q hq
    refine ⟨?_, h2⟩
    unfold Tof
    rw [if_neg (by unfold cid; omega), if_neg (by unfold cid; omega), h1]
    rfl
  fns := fun x id ar h => (glChk.all c).1 x id ar (lookup_mem h)
  clss := fun x id ar h => (glChk.all c).2 x id ar (lookup_mem h)
  csts := fun x d h => N.cst x d (lookup_mem h)
  blts := fun x h => N.blt x (lookup_mem h)
  mcs := mcChk.all c1
/-! constants -/
theorem co_int {K : PySem.W.Frag} {B : Tb} {x : Str} {i : Int} {t : Tok} (h : PySem.W.nsIn K mainGlobals x = some (some (.int i t))) : ∃ v u, PySem.W.nsIn K mainGlobals x = some (some u) ∧ RelV v u ∧ ∀ H ρ, RelD B H ρ (.int i) v :=
  ⟨.int i, _, h, ⟨t, rfl⟩, fun _ _ => rfl⟩
def strChk (x : List Nat) : Bool := decide (x.length ≤ 100000) && x.all (fun c => decide (c < 1114112))
theorem strChk_ok {x : List Nat} (h : strChk x = true) : StrOk x := by
  rw [strChk, Bool.and_eq_true, decide_eq_true_eq, List.all_eq_true] at h
  exact ⟨Nat.le_trans h.1 (by decide), fun c hc => of_decide_eq_true (h.2 c hc)⟩
theorem co_str {K : PySem.W.Frag} {B : Tb} {x : Str} {a : List Nat} {s : Str} {t : Tok} (h : PySem.W.nsIn K mainGlobals x = some (some (.str s t))) (e : s = ⟨a.toArray⟩) (c : strChk a = true) : ∃ v u, PySem.W.nsIn K mainGlobals x = some (some u) ∧ RelV v u ∧ ∀ H ρ, RelD B H ρ (.str a) v :=
  ⟨.str s, _, h, ⟨t, rfl⟩, fun _ _ => ⟨by rw [e], strChk_ok c⟩⟩
/-- a tuple's items, as they stand in the module -/
def v1 : D → Value → Bool
  | .str a, .str s _ => s == ⟨a.toArray⟩ && strChk a
  | .int i, .int j _ => i == j
  | .non, .none => true
  | .bl a, .bool b => a == b
  | _, _ => false
theorem v1_ok {B : Tb} {d : D} {u : Value} (h : v1 d u = true) : ∃ v, RelV v u ∧ ∀ H ρ, RelD B H ρ d v := by
  unfold v1 at h
  split at h
  · rename_i a s t
    rw [Bool.and_eq_true, beq_iff_eq] at h
    exact ⟨.str s, ⟨t, rfl⟩, fun _ _ => ⟨by rw [h.1], strChk_ok h.2⟩⟩
  · rename_i i j t
    rw [beq_iff_eq] at h
    exact ⟨.int j, ⟨t, rfl⟩, fun _ _ => by rw [h]; rfl⟩
  · exact ⟨.non, rfl, fun _ _ => rfl⟩
  · rename_i a b
    rw [beq_iff_eq] at h
    exact ⟨.bl b, rfl, fun _ _ => by rw [h]; rfl⟩
  · cases h
def itsChk : List D → List Value → Bool
  | [], [] => true
  | d :: r, u :: q => v1 d u && itsChk r q
  | _, _ => false
theorem itsChk_ok {B : Tb} : ∀ (ds : List D) (us : List Value), itsChk ds us = true → ∃ vs, Vals vs us ∧ ∀ H ρ, RelDs B H ρ ds vs
  | [], [], _ => ⟨[], .nil, fun _ _ => rfl⟩
  | [], _ :: _, h => by simp [itsChk] at h
  | _ :: _, [], h => by simp [itsChk] at h
  | d :: r, u :: q, h => by
    rw [itsChk, Bool.and_eq_true] at h
    obtain ⟨v, r1, r2⟩ := v1_ok (B := B) h.1
    obtain ⟨vs, h1, h2⟩ := itsChk_ok (B := B) r q h.2
    exact ⟨v :: vs, .cons r1 h1, fun H ρ => ⟨_, _, rfl, r2 H ρ, h2 H ρ⟩⟩
theorem co_tup {K : PySem.W.Frag} {B : Tb} (hK : B.K = K) {x : Str} {ds : List D} {a : Addr} {od : Option Addr} {its : Array Value} {n : Nat} {sl : Array (Option Value)} (h : PySem.W.nsIn K mainGlobals x = some (some (.ref a)))
    (l : K.lookup a = some ⟨.type "tuple", od, .seq its n, sl⟩) (c : itsChk ds its.toList = true) (z : (decide (its.size ≤ 100000) && decide (ds.length ≤ 100000)) = true) : ∃ v u, PySem.W.nsIn K mainGlobals x = some (some u) ∧ RelV v u ∧ ∀ H ρ, RelD B H ρ (.tup ds) v := by
  obtain ⟨vs, h1, h2⟩ := itsChk_ok (B := B) _ _ c
  rw [Bool.and_eq_true, decide_eq_true_eq, decide_eq_true_eq] at z
  exact ⟨.ref a, _, h, rfl, fun H ρ => ⟨a, vs, rfl, .inr ⟨_, its, n, by rw [hK]; exact l, rfl, rfl, Nat.le_trans z.1 (by decide), h1⟩, Nat.le_trans z.2 (by decide), h2 H ρ⟩⟩
/-- a dict of the module: texts as keys, plain values or tuples of plain values -/
theorem co_dct {K : PySem.W.Frag} {B : Tb} (hK : B.K = K) {x : Str} {ks vs : List D} {us : List V} {a : Addr} {es : Array DictEntry} {n : Nat} (h : PySem.W.nsIn K mainGlobals x = some (some (.ref a)))
    (l : K.lookup a = some ⟨.type "dict", none, .dict es n, #[]⟩) (lo : (a == sysModules) = false) (kl : PySem.W.KeysLit B.pw es.toList) (ce : CDes ks us es.toList) (rv : ∀ H ρ, RelDs B H ρ vs us) : ∃ v u, PySem.W.nsIn K mainGlobals x = some (some u) ∧ RelV v u ∧ ∀ H ρ, RelD B H ρ (.fd ks vs) v :=
  ⟨.ref a, _, h, rfl, fun H ρ => ⟨a, us, rfl, ⟨es, n, by rw [hK]; exact l, kl, lo, ce⟩, rv H ρ⟩⟩
end PX

/-! PX: the steps of a run, as rows that dsimp takes. -/
namespace PX
open PySem
theorem r_add {i j : Int}{s : Sto} {Q : QE} : xBin .Add (.int i) (.int j) s Q = Q (.int (i + j)) s := rfl
theorem r_sub {i j : Int}{s : Sto} {Q : QE} : xBin .Sub (.int i) (.int j) s Q = Q (.int (i - j)) s := rfl
theorem r_mul {i j : Int}{s : Sto} {Q : QE} : xBin .Mult (.int i) (.int j) s Q = (mulOk i j ∧ Q (.int (i * j)) s) := rfl
theorem r_div {i j : Int}{s : Sto} {Q : QE} : xBin .FloorDiv (.int i) (.int j) s Q = (divOk j ∧ Q (.int (i / j)) s) := rfl
theorem r_mod {i j : Int}{s : Sto} {Q : QE} : xBin .Mod (.int i) (.int j) s Q = (0 < j ∧ Q (.int (i % j)) s) := rfl
theorem r_pow {i j : Int}{s : Sto} {Q : QE} : xBin .Pow (.int i) (.int j) s Q = (powOk i j ∧ Q (.int (i ^ j.toNat)) s) := rfl
theorem r_adds {a b : List Nat}{s : Sto} {Q : QE} : xBin .Add (.str a) (.str b) s Q = (a.length + b.length ≤ sizeLine ∧ Q (.str (a ++ b)) s) := rfl
theorem r_muls {a : List Nat} {j : Int}{s : Sto} {Q : QE} : xBin .Mult (.str a) (.int j) s Q = ((0 ≤ j ∧ j ≤ 16777216 ∧ a.length * j.toNat ≤ 16777216) ∧ Q (.str (List.replicate j.toNat a).flatten) s) := rfl
theorem r_addt {a b : List D}{s : Sto} {Q : QE} : xBin .Add (.tup a) (.tup b) s Q = (a.length + b.length ≤ sizeLine ∧ Q (.tup (a ++ b)) s) := rfl
theorem r_ipa {i j : Int}{s : Sto} {Q : QE} : xIp .Add (.int i) (.int j) s Q = Q (.int (i + j)) s := rfl
theorem r_ips {i j : Int}{s : Sto} {Q : QE} : xIp .Sub (.int i) (.int j) s Q = Q (.int (i - j)) s := rfl
theorem r_ipt {a b : List Nat}{s : Sto} {Q : QE} : xIp .Add (.str a) (.str b) s Q = (a.length + b.length ≤ sizeLine ∧ Q (.str (a ++ b)) s) := rfl
theorem r_len1 {a : List Nat}{s : Sto} {Q : QE} : xBlt .len [.str a] s Q = Q (.int a.length) s := rfl
theorem r_len2 {a : List D}{s : Sto} {Q : QE} : xBlt .len [.tup a] s Q = Q (.int a.length) s := rfl
theorem r_len3 {a : List D}{s : Sto} {Q : QE} : xBlt .len [.fl a] s Q = Q (.int a.length) s := rfl
theorem r_int1 {i : Int}{s : Sto} {Q : QE} : xBlt .int [.int i] s Q = Q (.int i) s := rfl
theorem r_int2 {b : Bool}{s : Sto} {Q : QE} : xBlt .int [.bl b] s Q = Q (.int (if b then 1 else 0)) s := rfl
theorem r_abs {i : Int}{s : Sto} {Q : QE} : xBlt .abs [.int i] s Q = Q (.int (if i < 0 then -i else i)) s := rfl
theorem r_str {i : Int}{s : Sto} {Q : QE} : xBlt .str [.int i] s Q = ((0 ≤ i ∧ i < 10 ^ 10) ∧ Q (.str (strI i)) s) := rfl
theorem r_tup1 {a : List D}{s : Sto} {Q : QE} : xBlt .tuple [.tup a] s Q = Q (.tup a) s := rfl
theorem r_tup2 {a : List D}{s : Sto} {Q : QE} : xBlt .tuple [.fl a] s Q = Q (.tup a) s := rfl
theorem r_lst1 {a : List D}{s : Sto} {Q : QE} : xBlt .list [.tup a] s Q = mk (.lst a) s Q := rfl
theorem r_lst2 {a : List D}{s : Sto} {Q : QE} : xBlt .list [.fl a] s Q = mk (.lst a) s Q := rfl
theorem r_max {i j : Int}{s : Sto} {Q : QE} : xBlt .max2 [.int i, .int j] s Q = Q (.int (if j > i then j else i)) s := rfl
theorem r_min {i j : Int}{s : Sto} {Q : QE} : xBlt .min2 [.int i, .int j] s Q = Q (.int (if j < i then j else i)) s := rfl
theorem r_isi_non0 {s : Sto} {Q : QE} : xBlt (.isi 0) [.non] s Q = Q (.bl false) s := rfl
theorem r_isi_non1 {s : Sto} {Q : QE} : xBlt (.isi 1) [.non] s Q = Q (.bl false) s := rfl
theorem r_isi_non2 {s : Sto} {Q : QE} : xBlt (.isi 2) [.non] s Q = Q (.bl false) s := rfl
theorem r_isi_non3 {s : Sto} {Q : QE} : xBlt (.isi 3) [.non] s Q = Q (.bl false) s := rfl
theorem r_isi_non4 {s : Sto} {Q : QE} : xBlt (.isi 4) [.non] s Q = Q (.bl false) s := rfl
theorem r_isi_non5 {s : Sto} {Q : QE} : xBlt (.isi 5) [.non] s Q = Q (.bl true) s := rfl
theorem r_isi_bl0 {b : Bool}{s : Sto} {Q : QE} : xBlt (.isi 0) [.bl b] s Q = Q (.bl true) s := rfl
theorem r_isi_bl1 {b : Bool}{s : Sto} {Q : QE} : xBlt (.isi 1) [.bl b] s Q = Q (.bl true) s := rfl
theorem r_isi_bl2 {b : Bool}{s : Sto} {Q : QE} : xBlt (.isi 2) [.bl b] s Q = Q (.bl false) s := rfl
theorem r_isi_bl3 {b : Bool}{s : Sto} {Q : QE} : xBlt (.isi 3) [.bl b] s Q = Q (.bl false) s := rfl
theorem r_isi_bl4 {b : Bool}{s : Sto} {Q : QE} : xBlt (.isi 4) [.bl b] s Q = Q (.bl false) s := rfl
theorem r_isi_bl5 {b : Bool}{s : Sto} {Q : QE} : xBlt (.isi 5) [.bl b] s Q = Q (.bl false) s := rfl
theorem r_isi_int0 {i : Int}{s : Sto} {Q : QE} : xBlt (.isi 0) [.int i] s Q = Q (.bl true) s := rfl
theorem r_isi_int1 {i : Int}{s : Sto} {Q : QE} : xBlt (.isi 1) [.int i] s Q = Q (.bl false) s := rfl
theorem r_isi_int2 {i : Int}{s : Sto} {Q : QE} : xBlt (.isi 2) [.int i] s Q = Q (.bl false) s := rfl
theorem r_isi_int3 {i : Int}{s : Sto} {Q : QE} : xBlt (.isi 3) [.int i] s Q = Q (.bl false) s := rfl
theorem r_isi_int4 {i : Int}{s : Sto} {Q : QE} : xBlt (.isi 4) [.int i] s Q = Q (.bl false) s := rfl
theorem r_isi_int5 {i : Int}{s : Sto} {Q : QE} : xBlt (.isi 5) [.int i] s Q = Q (.bl false) s := rfl
theorem r_isi_str0 {a : List Nat}{s : Sto} {Q : QE} : xBlt (.isi 0) [.str a] s Q = Q (.bl false) s := rfl
theorem r_isi_str1 {a : List Nat}{s : Sto} {Q : QE} : xBlt (.isi 1) [.str a] s Q = Q (.bl false) s := rfl
theorem r_isi_str2 {a : List Nat}{s : Sto} {Q : QE} : xBlt (.isi 2) [.str a] s Q = Q (.bl true) s := rfl
theorem r_isi_str3 {a : List Nat}{s : Sto} {Q : QE} : xBlt (.isi 3) [.str a] s Q = Q (.bl false) s := rfl
theorem r_isi_str4 {a : List Nat}{s : Sto} {Q : QE} : xBlt (.isi 4) [.str a] s Q = Q (.bl false) s := rfl
theorem r_isi_str5 {a : List Nat}{s : Sto} {Q : QE} : xBlt (.isi 5) [.str a] s Q = Q (.bl false) s := rfl
theorem r_isi_tup0 {a : List D}{s : Sto} {Q : QE} : xBlt (.isi 0) [.tup a] s Q = Q (.bl false) s := rfl
theorem r_isi_tup1 {a : List D}{s : Sto} {Q : QE} : xBlt (.isi 1) [.tup a] s Q = Q (.bl false) s := rfl
theorem r_isi_tup2 {a : List D}{s : Sto} {Q : QE} : xBlt (.isi 2) [.tup a] s Q = Q (.bl false) s := rfl
theorem r_isi_tup3 {a : List D}{s : Sto} {Q : QE} : xBlt (.isi 3) [.tup a] s Q = Q (.bl true) s := rfl
theorem r_isi_tup4 {a : List D}{s : Sto} {Q : QE} : xBlt (.isi 4) [.tup a] s Q = Q (.bl false) s := rfl
theorem r_isi_tup5 {a : List D}{s : Sto} {Q : QE} : xBlt (.isi 5) [.tup a] s Q = Q (.bl false) s := rfl
theorem r_isi_fl0 {a : List D}{s : Sto} {Q : QE} : xBlt (.isi 0) [.fl a] s Q = Q (.bl false) s := rfl
theorem r_isi_fl1 {a : List D}{s : Sto} {Q : QE} : xBlt (.isi 1) [.fl a] s Q = Q (.bl false) s := rfl
theorem r_isi_fl2 {a : List D}{s : Sto} {Q : QE} : xBlt (.isi 2) [.fl a] s Q = Q (.bl false) s := rfl
theorem r_isi_fl3 {a : List D}{s : Sto} {Q : QE} : xBlt (.isi 3) [.fl a] s Q = Q (.bl false) s := rfl
theorem r_isi_fl4 {a : List D}{s : Sto} {Q : QE} : xBlt (.isi 4) [.fl a] s Q = Q (.bl true) s := rfl
theorem r_isi_fl5 {a : List D}{s : Sto} {Q : QE} : xBlt (.isi 5) [.fl a] s Q = Q (.bl false) s := rfl
theorem r_cLt {i j : Int}{s : Sto} : cmpD s .Lt (.int i) (.int j) = some (decide (i < j)) := rfl
theorem r_cLtE {i j : Int}{s : Sto} : cmpD s .LtE (.int i) (.int j) = some (decide (i ≤ j)) := rfl
theorem r_cGt {i j : Int}{s : Sto} : cmpD s .Gt (.int i) (.int j) = some (decide (j < i)) := rfl
theorem r_cGtE {i j : Int}{s : Sto} : cmpD s .GtE (.int i) (.int j) = some (decide (j ≤ i)) := rfl
theorem r_cEq {i j : Int}{s : Sto} : cmpD s .Eq (.int i) (.int j) = some (decide (i = j)) := rfl
theorem r_cNe {i j : Int}{s : Sto} : cmpD s .NotEq (.int i) (.int j) = some (!decide (i = j)) := rfl
theorem r_cEqs {a b : List Nat}{s : Sto} : cmpD s .Eq (.str a) (.str b) = some (decide (a = b)) := rfl
theorem r_cNes {a b : List Nat}{s : Sto} : cmpD s .NotEq (.str a) (.str b) = some (!decide (a = b)) := rfl
theorem r_cEqb {a b : Bool}{s : Sto} : cmpD s .Eq (.bl a) (.bl b) = some (decide (a = b)) := rfl
theorem r_cNeb {a b : Bool}{s : Sto} : cmpD s .NotEq (.bl a) (.bl b) = some (!decide (a = b)) := rfl
theorem r_cIns {a b : List Nat}{s : Sto} : cmpD s .In (.str a) (.str b) = some (subS a b) := rfl
theorem r_cNis {a b : List Nat}{s : Sto} : cmpD s .NotIn (.str a) (.str b) = some (!subS a b) := rfl
theorem r_is_non {s : Sto} : cmpD s .Is (.non) .non = some true := rfl
theorem r_isn_non {s : Sto} : cmpD s .IsNot (.non) .non = some false := rfl
theorem r_is_bl {b : Bool}{s : Sto} : cmpD s .Is (.bl b) .non = some false := rfl
theorem r_isn_bl {b : Bool}{s : Sto} : cmpD s .IsNot (.bl b) .non = some true := rfl
theorem r_is_int {i : Int}{s : Sto} : cmpD s .Is (.int i) .non = some false := rfl
theorem r_isn_int {i : Int}{s : Sto} : cmpD s .IsNot (.int i) .non = some true := rfl
theorem r_is_str {a : List Nat}{s : Sto} : cmpD s .Is (.str a) .non = some false := rfl
theorem r_isn_str {a : List Nat}{s : Sto} : cmpD s .IsNot (.str a) .non = some true := rfl
theorem r_is_tup {a : List D}{s : Sto} : cmpD s .Is (.tup a) .non = some false := rfl
theorem r_isn_tup {a : List D}{s : Sto} : cmpD s .IsNot (.tup a) .non = some true := rfl
theorem r_is_fl {a : List D}{s : Sto} : cmpD s .Is (.fl a) .non = some false := rfl
theorem r_isn_fl {a : List D}{s : Sto} : cmpD s .IsNot (.fl a) .non = some true := rfl
theorem r_is_ref {n : Nat}{s : Sto} : cmpD s .Is (.ref n) .non = some false := rfl
theorem r_isn_ref {n : Nat}{s : Sto} : cmpD s .IsNot (.ref n) .non = some true := rfl
theorem r_is_kd {n : Nat}{s : Sto} : cmpD s .Is (.kd n) .non = some false := rfl
theorem r_isn_kd {n : Nat}{s : Sto} : cmpD s .IsNot (.kd n) .non = some true := rfl
theorem r_tru_non {s : Sto} : tru s (.non) = some false := rfl
theorem r_tru_bl {b : Bool}{s : Sto} : tru s (.bl b) = some b := rfl
theorem r_tru_int {i : Int}{s : Sto} : tru s (.int i) = some (i != 0) := rfl
theorem r_tru_str {a : List Nat}{s : Sto} : tru s (.str a) = some (!a.isEmpty) := rfl
theorem r_tru_tup {a : List D}{s : Sto} : tru s (.tup a) = some (!a.isEmpty) := rfl
theorem r_tru_fl {a : List D}{s : Sto} : tru s (.fl a) = some (!a.isEmpty) := rfl
theorem r_obl {b : Bool} {K : Bool → Prop} : obl (some b) K = K b := rfl
theorem r_brt {A B : Prop} : br (some true) A B = A := rfl
theorem r_brf {A B : Prop} : br (some false) A B = B := rfl
theorem r_pk {n : Nat} : partD (.kd n) = some none := rfl
theorem r_pi {i : Int} : partD (.int i) = some (some i) := rfl
theorem r_sl_strkk {a : List Nat}{p : Nat}{q : Nat}{s : Sto} {Q : QE} : xSl (.str a) (.kd p) (.kd q) s Q = Q (.str (cut a none none)) s := rfl
theorem r_sl_strki {a : List Nat}{p : Nat}{j : Int}{s : Sto} {Q : QE} : xSl (.str a) (.kd p) (.int j) s Q = Q (.str (cut a none (some j))) s := rfl
theorem r_sl_strik {a : List Nat}{i : Int}{q : Nat}{s : Sto} {Q : QE} : xSl (.str a) (.int i) (.kd q) s Q = Q (.str (cut a (some i) none)) s := rfl
theorem r_sl_strii {a : List Nat}{i : Int}{j : Int}{s : Sto} {Q : QE} : xSl (.str a) (.int i) (.int j) s Q = Q (.str (cut a (some i) (some j))) s := rfl
theorem r_sl_tupkk {a : List D}{p : Nat}{q : Nat}{s : Sto} {Q : QE} : xSl (.tup a) (.kd p) (.kd q) s Q = Q (.tup (cut a none none)) s := rfl
theorem r_sl_tupki {a : List D}{p : Nat}{j : Int}{s : Sto} {Q : QE} : xSl (.tup a) (.kd p) (.int j) s Q = Q (.tup (cut a none (some j))) s := rfl
theorem r_sl_tupik {a : List D}{i : Int}{q : Nat}{s : Sto} {Q : QE} : xSl (.tup a) (.int i) (.kd q) s Q = Q (.tup (cut a (some i) none)) s := rfl
theorem r_sl_tupii {a : List D}{i : Int}{j : Int}{s : Sto} {Q : QE} : xSl (.tup a) (.int i) (.int j) s Q = Q (.tup (cut a (some i) (some j))) s := rfl
theorem r_mtj {a : List Nat} {s : Sto} : mTy .join (.str a) s = True := rfl
theorem r_it1 {a : List Nat}{s : Sto} {K : List D → WK → Prop} : xIt .seq [.str a] s K = K (a.map fun c => .str [c]) .free := rfl
theorem r_it2 {a : List D}{s : Sto} {K : List D → WK → Prop} : xIt .seq [.tup a] s K = K a .free := rfl
theorem r_it3 {a : List D}{s : Sto} {K : List D → WK → Prop} : xIt .seq [.fl a] s K = K a .free := rfl
theorem r_it4 {j : Int}{s : Sto} {K : List D → WK → Prop} : xIt .rng1 [.int j] s K = (rngOk 0 j ∧ K (rngL 0 j) .free) := rfl
theorem r_it5 {i j : Int}{s : Sto} {K : List D → WK → Prop} : xIt .rng2 [.int i, .int j] s K = (rngOk i j ∧ K (rngL i j) .free) := rfl
theorem r_brnt {A B : Prop} : br (some (!true)) A B = B := rfl
theorem r_brnf {A B : Prop} : br (some (!false)) A B = A := rfl
theorem r_ko_i {i : Int} : keyOk (.int i) = true := rfl
theorem r_ko_s {a : List Nat} : keyOk (.str a) = true := rfl
theorem r_if_t {A B : Prop} : (if true = true then A else B) = A := rfl
end PX

local macro_rules | `(tactic| walk_at "run") => `(tactic| first | dsimp only [PX.xSs, PX.xS, PX.xE, PX.xEs, PX.xIf, PX.xTg, PX.xTgs, PX.mk, PX.chk, Option.isSome, Option.map, List.map, List.replicate, List.cons_append, List.nil_append, List.getElem?_cons_zero, List.getElem?_cons_succ, List.set_cons_zero, List.set_cons_succ, List.length_cons, List.length_nil, Nat.sub_self, Nat.reduceSub, Nat.reduceAdd, Bool.not_true, Bool.not_false, true_and, and_true, PX.r_add, PX.r_sub, PX.r_mul, PX.r_div, PX.r_mod, PX.r_pow, PX.r_adds, PX.r_muls, PX.r_addt, PX.r_ipa, PX.r_ips, PX.r_ipt, PX.r_len1, PX.r_len2, PX.r_len3, PX.r_int1, PX.r_int2, PX.r_abs, PX.r_str, PX.r_tup1, PX.r_tup2, PX.r_lst1, PX.r_lst2, PX.r_max, PX.r_min, PX.r_isi_non0, PX.r_isi_non1, PX.r_isi_non2, PX.r_isi_non3, PX.r_isi_non4, PX.r_isi_non5, PX.r_isi_bl0, PX.r_isi_bl1, PX.r_isi_bl2, PX.r_isi_bl3, PX.r_isi_bl4, PX.r_isi_bl5, PX.r_isi_int0, PX.r_isi_int1, PX.r_isi_int2, PX.r_isi_int3, PX.r_isi_int4, PX.r_isi_int5, PX.r_isi_str0, PX.r_isi_str1, PX.r_isi_str2, PX.r_isi_str3, PX.r_isi_str4, PX.r_isi_str5, PX.r_isi_tup0, PX.r_isi_tup1, PX.r_isi_tup2, PX.r_isi_tup3, PX.r_isi_tup4, PX.r_isi_tup5, PX.r_isi_fl0, PX.r_isi_fl1, PX.r_isi_fl2, PX.r_isi_fl3, PX.r_isi_fl4, PX.r_isi_fl5, PX.r_cLt, PX.r_cLtE, PX.r_cGt, PX.r_cGtE, PX.r_cEq, PX.r_cNe, PX.r_cEqs, PX.r_cNes, PX.r_cEqb, PX.r_cNeb, PX.r_cIns, PX.r_cNis, PX.r_is_non, PX.r_isn_non, PX.r_is_bl, PX.r_isn_bl, PX.r_is_int, PX.r_isn_int, PX.r_is_str, PX.r_isn_str, PX.r_is_tup, PX.r_isn_tup, PX.r_is_fl, PX.r_isn_fl, PX.r_is_ref, PX.r_isn_ref, PX.r_is_kd, PX.r_isn_kd, PX.r_tru_non, PX.r_tru_bl, PX.r_tru_int, PX.r_tru_str, PX.r_tru_tup, PX.r_tru_fl, PX.r_obl, PX.r_brt, PX.r_brf, PX.r_pk, PX.r_pi, PX.r_sl_strkk, PX.r_sl_strki, PX.r_sl_strik, PX.r_sl_strii, PX.r_sl_tupkk, PX.r_sl_tupki, PX.r_sl_tupik, PX.r_sl_tupii, PX.r_mtj, PX.r_it1, PX.r_it2, PX.r_it3, PX.r_it4, PX.r_it5, PX.r_brnt, PX.r_brnf, PX.r_ko_i, PX.r_ko_s, PX.r_if_t] | skip)
/-! PX: lemmas for use. -/
namespace PX
open PySem
theorem lv_in {T : Nat → Option Fn} {k f : Nat} {fn : Fn} {vs : List D} {s : Sto} {Q : QE} {E : XQ} (h : T f = some fn) (hl : vs.length = fn.ar)
    (hb : xSs (Lv T k) fn.body (vs.map some ++ List.replicate (fn.sl - fn.ar) none) s { nx := fun _ s' => Q .non s', rt := Q, bk := fun _ _ => False, ct := fun _ _ => False, ex := fun c fs _ s' => E c fs s' }) : Lv T (k + 1) f vs s Q E := by
  simp only [Lv, h]
  exact ⟨hl, hb⟩
theorem br_dec {p A B : Prop} [Decidable p] (h1 : p → A) (h2 : ¬ p → B) : br (some (decide p)) A B := by
  by_cases h : p
  · rw [decide_eq_true h]; exact h1 h
  · rw [decide_eq_false h]; exact h2 h
theorem br_ndec {p A B : Prop} [Decidable p] (h1 : ¬ p → A) (h2 : p → B) : br (some (!decide p)) A B := by
  by_cases h : p
  · rw [decide_eq_true h]; exact h2 h
  · rw [decide_eq_false h]; exact h1 h
theorem br_b {b : Bool} {A B : Prop} (h1 : b = true → A) (h2 : b = false → B) : br (some b) A B := by
  cases b with
  | true => exact h1 rfl
  | false => exact h2 rfl
theorem br_t {b : Bool} {A B : Prop} (hb : b = true) (h : A) : br (some b) A B := by subst hb; exact h
theorem br_f {b : Bool} {A B : Prop} (hb : b = false) (h : B) : br (some b) A B := by subst hb; exact h
theorem br_yes {p A B : Prop} [Decidable p] (hp : p) (h : A) : br (some (decide p)) A B := br_dec (fun _ => h) (fun n => absurd hp n)
theorem br_no {p A B : Prop} [Decidable p] (hp : ¬ p) (h : B) : br (some (decide p)) A B := br_dec (fun n => absurd n hp) (fun _ => h)
/-! indices -/
theorem atI_k {α : Type} {xs : List α} {k : Nat} : L2.atI xs (k : Int) = xs[k]? := by
  cases h : xs[k]? with
  | some v => exact L2.atI_nat h
  | none =>
    unfold L2.atI L2.ixN
    have : ¬ ((k : Int) < (xs.length : Int)) := by
      have := List.getElem?_eq_none_iff.mp h
      omega
    rw [if_pos (by omega), if_neg this]
    rfl
theorem atI_nn {α : Type} {xs : List α} {i : Int} (h : 0 ≤ i) : L2.atI xs i = xs[i.toNat]? := by
  have := atI_k (xs := xs) (k := i.toNat)
  rwa [Int.toNat_of_nonneg h] at this
theorem atI_z {α : Type} {a : α} {l : List α} : L2.atI (a :: l) 0 = some a := atI_k (k := 0)
theorem atI_o {α : Type} {a b : α} {l : List α} : L2.atI (a :: b :: l) 1 = some b := atI_k (k := 1)
theorem atI_t {α : Type} {a b c : α} {l : List α} : L2.atI (a :: b :: c :: l) 2 = some c := atI_k (k := 2)
theorem atI_3 {α : Type} {a b c d : α} {l : List α} : L2.atI (a :: b :: c :: d :: l) 3 = some d := atI_k (k := 3)
theorem ixn_z {n : Nat} (h : 0 < n) : L2.ixN n 0 = some 0 := by
  unfold L2.ixN
  rw [if_pos (by decide), if_pos (by omega)]
  rfl
theorem ixn_k {n k : Nat} (h : k < n) : L2.ixN n (k : Int) = some k := by
  unfold L2.ixN
  rw [if_pos (by omega), if_pos (by omega), Int.toNat_natCast]
/-- an item, by the store's list -/
theorem ix_ref {s : Sto} {n : Nat} {xs : List D} {i : Int} {v : D} {Q : QE} (hs : s[n]? = some (.lst xs)) (hv : L2.atI xs i = some v) (h : Q v s) : xIx (.ref n) (.int i) s Q := by
  simp only [xIx, dicOf, xIs, seqOf, hs, hv]
  exact h
theorem ix_fl {s : Sto} {xs : List D} {i : Int} {v : D} {Q : QE} (hv : L2.atI xs i = some v) (h : Q v s) : xIx (.fl xs) (.int i) s Q := by
  simp only [xIx, dicOf, xIs, seqOf, hv]
  exact h
theorem ix_tup {s : Sto} {xs : List D} {i : Int} {v : D} {Q : QE} (hv : L2.atI xs i = some v) (h : Q v s) : xIx (.tup xs) (.int i) s Q := by
  simp only [xIx, dicOf, xIs, seqOf, hv]
  exact h
theorem ix_str {s : Sto} {a : List Nat} {i : Int} {c : Nat} {Q : QE} (hv : L2.atI a i = some c) (h : Q (.str [c]) s) : xIx (.str a) (.int i) s Q := by
  simp only [xIx, dicOf, xIs, hv]
  exact h
theorem atI_in {α : Type} {xs : List α} {i : Int} (h0 : 0 ≤ i) (h1 : i < xs.length) : ∃ v, L2.atI xs i = some v ∧ v ∈ xs := by
  rw [atI_nn h0]
  have : i.toNat < xs.length := by omega
  exact ⟨xs[i.toNat], List.getElem?_eq_getElem this, List.getElem_mem this⟩
/-- one of the items, whichever -/
theorem ix_any {s : Sto} {n : Nat} {xs : List D} {i : Int} {Q : QE} (hs : s[n]? = some (.lst xs)) (h0 : 0 ≤ i) (h1 : i < xs.length) (h : ∀ v ∈ xs, Q v s) : xIx (.ref n) (.int i) s Q := by
  obtain ⟨v, hv, hm⟩ := atI_in h0 h1
  exact ix_ref hs hv (h v hm)
theorem set_ref {s : Sto} {n : Nat} {xs : List D} {i : Int} {j : Nat} {v : D} {K : Sto → Prop} (hs : s[n]? = some (.lst xs)) (hj : L2.ixN xs.length i = some j) (h : K (s.set n (.lst (xs.set j v)))) : xAset (.ref n) (.int i) v s K := by
  simp only [xAset, hs, hj]
  exact h
/-! the store -/
theorem get_new {s r : Sto} {o : Ob} : (s ++ o :: r)[s.length]? = some o := by
  rw [List.getElem?_append_right (Nat.le_refl _), Nat.sub_self]
  rfl
theorem get_old {s r : Sto} {n : Nat} {o : Ob} (h : s[n]? = some o) : (s ++ r)[n]? = some o := by
  rw [List.getElem?_append_left (List.getElem?_eq_some_iff.mp h).1]
  exact h
theorem get_set {s : Sto} {n : Nat} {o o' : Ob} (h : s[n]? = some o) : (s.set n o')[n]? = some o' := List.getElem?_set_self (List.getElem?_eq_some_iff.mp h).1
theorem lt_of_get {s : Sto} {n : Nat} {o : Ob} (h : s[n]? = some o) : n < s.length := (List.getElem?_eq_some_iff.mp h).1
/-- all but r is kept -/
structure Kp (r : Nat → Prop) (s s' : Sto) : Prop where
  len : s.length ≤ s'.length
  get : ∀ (n : Nat) (o : Ob), ¬ r n → s[n]? = some o → s'[n]? = some o
theorem Kp.refl (r : Nat → Prop) (s : Sto) : Kp r s s := ⟨Nat.le_refl _, fun _ _ _ h => h⟩
theorem Kp.trans {r : Nat → Prop} {s s1 s2 : Sto} (a : Kp r s s1) (b : Kp r s1 s2) : Kp r s s2 := ⟨Nat.le_trans a.len b.len, fun n o h e => b.get n o h (a.get n o h e)⟩
theorem Kp.push {r : Nat → Prop} {s t : Sto} : Kp r s (s ++ t) := ⟨by simp, fun n o _ h => get_old h⟩
theorem Kp.set {r : Nat → Prop} {s : Sto} {n : Nat} {o : Ob} (h : r n) : Kp r s (s.set n o) := ⟨by simp, fun m o' hm e => by rw [List.getElem?_set_ne (by rintro rfl; exact hm h)]; exact e⟩
theorem Kp.mono {r r' : Nat → Prop} {s s' : Sto} (a : Kp r s s') (h : ∀ n, n < s.length → r n → r' n) : Kp r' s s' := ⟨a.len, fun n o hn e => a.get n o (fun z => hn (h n (lt_of_get e) z)) e⟩

/-! ### the draws that all laws share -/
def cellFn : Fn := ⟨2, 2, [.ite (.cmp .Lt (.var 1) (.blt .len [(.var 0)])) [.ret (.blt .abs [(.blt .int [(.ix (.var 0) (.var 1))])])] [], .ret (.lit (.int 0))]⟩
def srcFn (cid : Nat) : Fn := ⟨2, 3, [.asg (.nm 2) (.call cid [(.var 0), (.var 1)]),
  .ite (.cmp .GtE (.var 2) (.bin .Pow (.lit (.int 10)) (.lit (.int 18)))) [.ret (.lst [(.lit (.int 1)), (.bin .Sub (.var 2) (.bin .Pow (.lit (.int 10)) (.lit (.int 18)))), (.lit (.int 0))])] [],
  .ret (.lst [(.lit (.int 0)), (.bin .Add (.var 2) (.bin .Mult (.lit (.int 1000)) (.var 1))), (.lit (.int 0))])]⟩
def drawFn : Fn := ⟨2, 5, [.ite (.cmp .Eq (.ix (.var 0) (.lit (.int 0))) (.lit (.int 1))) [.asg (.nm 2) (.bin .Mod (.blt .int [(.ix (.var 0) (.lit (.int 1)))]) (.var 1)),
  .aset (.var 0) (.lit (.int 1)) (.bin .FloorDiv (.ix (.var 0) (.lit (.int 1))) (.var 1)),
  .ret (.var 2)] [],
  .aset (.var 0) (.lit (.int 2)) (.bin .Add (.ix (.var 0) (.lit (.int 2))) (.lit (.int 1))),
  .asg (.nm 3) (.bin .Mod (.blt .int [(.bin .Add (.bin .Add (.bin .Mult (.ix (.var 0) (.lit (.int 1))) (.lit (.int 48271))) (.bin .Mult (.ix (.var 0) (.lit (.int 2))) (.lit (.int 69621)))) (.lit (.int 11)))]) (.lit (.int 2147483647))),
  .asg (.nm 4) (.bin .Mod (.blt .int [(.bin .Add (.bin .Add (.bin .Mult (.var 3) (.var 3)) (.ix (.var 0) (.lit (.int 1)))) (.bin .Mult (.ix (.var 0) (.lit (.int 2))) (.lit (.int 40692))))]) (.lit (.int 2147483563))),
  .ret (.bin .Mod (.blt .int [(.bin .Add (.bin .FloorDiv (.bin .Mult (.var 4) (.var 4)) (.lit (.int 64))) (.var 3))]) (.var 1))]⟩
/-- the state of a source: how many draws it has made at most -/
def SrcL (b : Nat) (xs : List D) : Prop := ∃ f n k : Int, xs = [.int f, .int n, .int k] ∧ 0 ≤ n ∧ 0 ≤ k ∧ k ≤ b ∧ (f ≠ 1 → n < 2 ^ 70)
def Src (b : Nat) (s : Sto) (r : Nat) : Prop := ∃ xs, s[r]? = some (.lst xs) ∧ SrcL b xs
theorem Src.mono {b b' : Nat} {s : Sto} {r : Nat} (h : Src b s r) (hb : b ≤ b') : Src b' s r := by
  obtain ⟨xs, e, f, n, k, h1, h2, h3, h4, h5⟩ := h
  exact ⟨xs, e, f, n, k, h1, h2, h3, by omega, h5⟩
theorem Src.kp {b : Nat} {s s' : Sto} {r : Nat} {R : Nat → Prop} (h : Src b s r) (k : Kp R s s') (hr : ¬ R r) : Src b s' r := by
  obtain ⟨xs, e, q⟩ := h
  exact ⟨xs, k.get r _ hr e, q⟩
theorem log2_le {i : Int} {n : Nat} (h0 : 0 ≤ i) (h : i < 2 ^ n) (hn : 0 < n) : i.natAbs.log2 < n := by
  have e : i.natAbs < 2 ^ n := by
    have h1 : (i.natAbs : Int) = i := by omega
    have h2 : ((2 ^ n : Nat) : Int) = (2 : Int) ^ n := by norm_cast
    omega
  exact PySem.Flt.log2_lt_of hn e
theorem mul_small {i j : Int} (h0 : 0 ≤ i) (h1 : i < 2 ^ 200) (h2 : 0 ≤ j) (h3 : j < 2 ^ 200) : mulOk i j := by
  have a := log2_le h0 h1 (by decide)
  have b := log2_le h2 h3 (by decide)
  show _ + _ < 1000000
  omega
theorem div_small {j : Int} (h0 : 0 < j) (h1 : j < 2 ^ 200) : divOk j := ⟨h0, Nat.lt_of_lt_of_le (log2_le (by omega) h1 (by decide)) (by decide)⟩
section
variable {T : Nat → Option Fn} {j : Nat} {E : XQ}
def cellV (ns : List Int) (k : Nat) : Int := match ns[k]? with
  | some n => if n < 0 then -n else n
  | none => 0
theorem cellV_nn (ns : List Int) (k : Nat) : 0 ≤ cellV ns k := by
  unfold cellV
  split
  · split <;> omega
  · exact Int.le_refl _
theorem cell_ok {cid : Nat} (hT : T cid = some cellFn) {ns : List Int} {k : Nat} {s : Sto} {Q : QE} (h : Q (.int (cellV ns k)) s) : Lv T (j + 1) cid [.fl (ns.map .int), .int k] s Q E := by
  refine lv_in hT rfl ?_
  unfold cellFn
  walk_at "run"
  refine br_dec (fun hk => ?_) (fun hk => ?_)
  · rw [List.length_map] at hk
    have hk' : k < ns.length := by omega
    refine ix_fl (v := .int ns[k]) (by rw [atI_k, List.getElem?_map, List.getElem?_eq_getElem hk']; rfl) ?_
    walk_at "run"
    unfold cellV at h
    rw [List.getElem?_eq_getElem hk'] at h
    exact h
  · rw [List.length_map] at hk
    unfold cellV at h
    rw [List.getElem?_eq_none (by omega)] at h
    exact h
theorem src_ok {cid sid : Nat} (hT : T cid = some cellFn) (hS : T sid = some (srcFn cid)) {ns : List Int} {k : Nat} (hk : k < 1000000) {s : Sto} {Q : QE} (h : ∀ xs, SrcL 0 xs → Q (.ref s.length) (s ++ [.lst xs])) : Lv T (j + 2) sid [.fl (ns.map .int), .int k] s Q E := by
  refine lv_in hS rfl ?_
  unfold srcFn
  walk_at "run"
  refine cell_ok hT ?_
  have c0 := cellV_nn ns k
  generalize cellV ns k = c at c0
  walk_at "run"
  refine ⟨by refine ⟨by decide, by decide, by decide⟩, br_dec (fun hc => ?_) (fun hc => ?_)⟩
  · have hc' : (10 : Int) ^ 18 ≤ c := hc
    refine ⟨by refine ⟨by decide, by decide, by decide⟩, by decide, h _ ⟨1, c - 10 ^ 18, 0, rfl, by omega, by decide, by decide, fun z => absurd rfl z⟩⟩
  · have hc' : c < (10 : Int) ^ 18 := by
      have : ¬ ((10 : Int) ^ 18 ≤ c) := hc
      omega
    refine ⟨mul_small (by decide) (by decide) (by omega) (by omega), by decide, h _ ⟨0, c + 1000 * k, 0, rfl, by omega, by decide, by decide, fun _ => by omega⟩⟩
theorem draw_ok {did : Nat} (hD : T did = some drawFn) {b r : Nat} {m : Int} {s : Sto} {Q : QE} (hs : Src b s r) (hb : b < 2 ^ 60) (hm' : divOk m)
    (h : ∀ v xs, 0 ≤ v → v < m → SrcL (b + 1) xs → Q (.int v) (s.set r (.lst xs))) : Lv T (j + 1) did [.ref r, .int m] s Q E := by
  obtain ⟨xs, hr, f, n, k, rfl, h1, h2, h3, h4⟩ := hs
  have hm := hm'.1
  refine lv_in hD rfl ?_
  unfold drawFn
  walk_at "run"
  refine ix_ref hr atI_z ?_
  walk_at "run"
  refine br_dec (fun hf => ?_) (fun hf => ?_)
  · refine ix_ref hr atI_o ?_
    walk_at "run"
    refine ⟨hm, ix_ref hr atI_o ⟨hm', set_ref hr (ixn_k (k := 1) (by simp)) ?_⟩⟩
    walk_at "run"
    refine h _ _ (Int.emod_nonneg _ (by omega)) (Int.emod_lt_of_pos _ hm) ⟨f, n / m, k, rfl, Int.ediv_nonneg h1 (by omega), h2, by omega, fun z => absurd hf z⟩
  · have n70 := h4 hf
    refine ix_ref hr atI_t ?_
    walk_at "run"
    refine set_ref hr (ixn_k (k := 2) (by simp)) ?_
    have hr2 := get_set (o' := Ob.lst [D.int f, D.int n, D.int (k + 1)]) hr
    walk_at "run"
    refine ix_ref hr2 atI_o ⟨mul_small h1 (by omega) (by decide) (by decide), ix_ref hr2 atI_t ⟨mul_small (by omega) (by omega) (by decide) (by decide), by decide, ?_⟩⟩
    have a0 := Int.emod_nonneg (n * 48271 + (k + 1) * 69621 + 11) (show (2147483647 : Int) ≠ 0 by decide)
    have a1 := Int.emod_lt_of_pos (n * 48271 + (k + 1) * 69621 + 11) (show (0 : Int) < 2147483647 by decide)
    generalize (n * 48271 + (k + 1) * 69621 + 11) % 2147483647 = a at a0 a1
    refine ⟨mul_small a0 (by omega) a0 (by omega), ix_ref hr2 atI_o ?_⟩
    walk_at "run"
    refine ix_ref hr2 atI_t ?_
    walk_at "run"
    refine ⟨mul_small (by omega) (by omega) (by decide) (by decide), by decide, ?_⟩
    have b0 := Int.emod_nonneg (a * a + n + (k + 1) * 40692) (show (2147483563 : Int) ≠ 0 by decide)
    have b1 := Int.emod_lt_of_pos (a * a + n + (k + 1) * 40692) (show (0 : Int) < 2147483563 by decide)
    generalize (a * a + n + (k + 1) * 40692) % 2147483563 = c at b0 b1
    refine ⟨mul_small b0 (by omega) b0 (by omega), div_small (by decide) (by omega), hm, ?_⟩
    exact h _ _ (Int.emod_nonneg _ (by omega)) (Int.emod_lt_of_pos _ hm) ⟨f, n, k + 1, rfl, h1, by omega, by omega, fun _ => n70⟩
end
end PX

/-! PX: more lemmas for use. -/
namespace PX
open PySem
theorem len_ref {s : Sto} {n : Nat} {xs : List D} {Q : QE} (hs : s[n]? = some (.lst xs)) (h : Q (.int xs.length) s) : xBlt .len [.ref n] s Q := by
  simp only [xBlt, bLen, seqOf, hs]
  exact h
theorem tup_ref {s : Sto} {n : Nat} {xs : List D} {Q : QE} (hs : s[n]? = some (.lst xs)) (h : Q (.tup xs) s) : xBlt .tuple [.ref n] s Q := by
  simp only [xBlt, bTup, seqOf, hs]
  exact h
theorem mty_ref {m : MF} {s : Sto} {n : Nat} {xs : List D} (hs : s[n]? = some (.lst xs)) (hm : mT m = "list") : mTy m (.ref n) s := by
  cases m <;> first | exact absurd hm (by decide) | (simp only [mTy, hs])
theorem app_ref {s : Sto} {n : Nat} {xs : List D} {v : D} {Q : QE} (hs : s[n]? = some (.lst xs)) (hl : xs.length < sizeLine) (h : Q .non (s.set n (.lst (xs ++ [v])))) : xMeth .append (.ref n) [v] s Q := by
  simp only [xMeth, hs]
  exact ⟨hl, h⟩
theorem it_ref {s : Sto} {n : Nat} {xs : List D} {K : List D → WK → Prop} (hs : s[n]? = some (.lst xs)) (h : K xs (.lst n)) : xIt .seq [.ref n] s K := by
  simp only [xIt, hs]
  exact h
theorem add_refs {s : Sto} {m n : Nat} {a b : List D} {Q : QE} (ha : s[m]? = some (.lst a)) (hb : s[n]? = some (.lst b)) (hl : a.length + b.length ≤ sizeLine) (h : Q (.ref s.length) (s ++ [.lst (a ++ b)])) : xBin .Add (.ref m) (.ref n) s Q := by
  simp only [xBin, ha, hb]
  exact ⟨hl, h⟩
theorem br_ref {s : Sto} {n : Nat} {xs : List D} {A B : Prop} (hs : s[n]? = some (.lst xs)) (h1 : xs ≠ [] → A) (h2 : xs = [] → B) : br (tru s (.ref n)) A B := by
  simp only [tru, hs]
  cases xs with
  | nil => exact h2 rfl
  | cons a r => exact h1 (by simp)
theorem join_ref {s : Sto} {n : Nat} {l : List (List Nat)} {sep : List Nat} {Q : QE} (hs : s[n]? = some (.lst (l.map .str))) (hl : (l.map List.length).sum + l.length * sep.length ≤ 16777216) (h : Q (.str (joinS sep l)) s) : xMeth .join (.str sep) [.ref n] s Q := by
  have e : ∀ l : List (List Nat), strsOf (l.map .str) = some l := fun l => by
    induction l with
    | nil => rfl
    | cons a r ih => simp only [List.map_cons, strsOf, ih]; rfl
  simp only [xMeth, seqOf, hs, e]
  exact ⟨hl, h⟩
theorem joinS_nil : ∀ l : List (List Nat), joinS [] l = l.flatten
  | [] => rfl
  | [a] => by simp [joinS]
  | a :: b :: r => by simp only [joinS, joinS_nil (b :: r), List.append_nil, List.flatten_cons]
/-! equality of lists and tuples of plain values -/
def pl : D → Bool
  | .non | .int _ | .str _ => true
  | _ => false
theorem resWs_pl {r : Nat → Option D} : ∀ {xs : List D}, (∀ x ∈ xs, pl x = true) → resWs r xs = some xs
  | [], _ => rfl
  | x :: xs, h => by
    have a := h x (by simp)
    have b := resWs_pl (r := r) (xs := xs) fun y hy => h y (by simp [hy])
    cases x <;> simp_all [resWs, resW, pl]
theorem nobs_pl {k : Nat} : ∀ {xs : List D}, (∀ x ∈ xs, pl x = true) → nobs k xs = true
  | [], _ => by simp [nobs]
  | x :: xs, h => by
    have a := h x (by simp)
    have b := nobs_pl (k := k) (xs := xs) fun y hy => h y (by simp [hy])
    cases x <;> simp_all [nobs, nob, pl]
theorem res_pl {s : Sto} {n k : Nat} {xs : List D} (hs : s[n]? = some (.lst xs)) (hp : ∀ x ∈ xs, pl x = true) : res s (k + 1) (.ref n) = some (.fl xs) := by
  simp only [res, resW, hs, resWs_pl hp]
  rfl
theorem eq_refs {s : Sto} {m n : Nat} {xs ys : List D} (hx : s[m]? = some (.lst xs)) (hy : s[n]? = some (.lst ys)) (px : ∀ x ∈ xs, pl x = true) (py : ∀ x ∈ ys, pl x = true) : eqD s (.ref m) (.ref n) = some (decide (xs = ys)) := by
  show eqDeep s (.ref m) (.ref n) = _
  unfold eqDeep
  rw [res_pl hx px, res_pl hy py]
  have a : nob 40 (.fl xs) = true := nobs_pl px
  have b : nob 40 (.fl ys) = true := nobs_pl py
  simp only [a, b, Bool.and_self, if_true, D.fl.injEq]
theorem res_tup {s : Sto} {k : Nat} {xs : List D} (hp : ∀ x ∈ xs, pl x = true) : res s (k + 1) (.tup xs) = some (.tup xs) := by
  simp only [res, resW, resWs_pl hp]
  rfl
theorem eq_tups {s : Sto} {xs ys : List D} (px : ∀ x ∈ xs, pl x = true) (py : ∀ x ∈ ys, pl x = true) : eqD s (.tup xs) (.tup ys) = some (decide (xs = ys)) := by
  show eqDeep s (.tup xs) (.tup ys) = _
  unfold eqDeep
  rw [res_tup px, res_tup py]
  have a : nob 40 (.tup xs) = true := nobs_pl px
  have b : nob 40 (.tup ys) = true := nobs_pl py
  simp only [a, b, Bool.and_self, if_true, D.tup.injEq]
theorem pl_strs (l : List (List Nat)) : ∀ x ∈ l.map D.str, pl x = true := fun x hx => by
  obtain ⟨a, _, rfl⟩ := List.mem_map.mp hx
  rfl
theorem pl_ints (l : List Int) : ∀ x ∈ l.map D.int, pl x = true := fun x hx => by
  obtain ⟨a, _, rfl⟩ := List.mem_map.mp hx
  rfl
theorem strs_inj {l m : List (List Nat)} : l.map D.str = m.map D.str ↔ l = m := by
  constructor
  · intro h
    exact (List.map_inj_right (fun a b e => by cases e; rfl)).mp h
  · rintro rfl; rfl
theorem in_strs {s : Sto} {w : List Nat} {l : List (List Nat)} : inD s (.str w) (.tup (l.map .str)) = some (decide (w ∈ l)) := by
  have e1 : (l.map D.str).all flatD = true := by
    rw [List.all_eq_true]
    intro x hx
    obtain ⟨a, _, rfl⟩ := List.mem_map.mp hx
    rfl
  have e2 : ((l.map D.str).any fun z => eqF z (.str w)) = decide (w ∈ l) := by
    induction l with
    | nil => rfl
    | cons a r ih =>
      rw [List.map_cons, List.any_cons, ih (by
        rw [List.map_cons, List.all_cons, Bool.and_eq_true] at e1
        exact e1.2)]
      rw [Bool.eq_iff_iff, Bool.or_eq_true, decide_eq_true_eq, decide_eq_true_eq, List.mem_cons]
      show (a == w) = true ∨ _ ↔ _
      rw [beq_iff_eq]
      exact ⟨fun h => h.imp (fun e => e.symm) id, fun h => h.imp (fun e => e.symm) id⟩
  show (match seqOf s (.tup (l.map .str)) with
    | some ys => if flatD (.str w) && ys.all flatD then some (ys.any fun z => eqF z (.str w)) else none
    | none => none) = _
  simp only [seqOf, e1, e2, flatD, Bool.and_self, if_true]
theorem cin_strs {s : Sto} {w : List Nat} {l : List (List Nat)} : cmpD s .In (.str w) (.tup (l.map .str)) = some (decide (w ∈ l)) := in_strs (s := s)
theorem cnin_strs {s : Sto} {w : List Nat} {l : List (List Nat)} : cmpD s .NotIn (.str w) (.tup (l.map .str)) = some (!decide (w ∈ l)) := by
  show (inD s (.str w) (.tup (l.map .str))).map _ = _
  rw [in_strs]
  rfl
theorem br_nb {b : Bool} {A B : Prop} (h1 : b = false → A) (h2 : b = true → B) : br (some (!b)) A B := by
  cases b with
  | true => exact h2 rfl
  | false => exact h1 rfl
theorem atI_hd {α : Type} {a : List α} {c : α} (h : a.head? = some c) : L2.atI a 0 = some c := by
  cases a with
  | nil => cases h
  | cons x r => cases h; exact atI_z
/-! parts of texts -/
theorem sub_one (a : List Nat) (c : Nat) : subS [c] a = decide (c ∈ a) := by
  have := StrLaws.found_one ⟨a.toArray⟩ c
  simpa [subS, Str.length] using this
theorem sub_no {a b : List Nat} (h : ∀ i, i + a.length ≤ b.length → ∃ t, t < a.length ∧ b[i + t]? ≠ a[t]?) : subS a b = false := by
  have e : Builtin.Str.occurrences ⟨b.toArray⟩ ⟨a.toArray⟩ 0 (Str.length ⟨b.toArray⟩) 1 = [] := by
    refine PySem.W.occ_nil_of_no _ _ 1 fun i hi => ?_
    simp only [Str.length, List.size_toArray] at hi
    obtain ⟨t, ht, hn⟩ := h i hi
    unfold Builtin.Str.subAt
    rw [beq_eq_false_iff_ne]
    intro e
    refine hn ?_
    have e2 := congrArg (fun z : Array Nat => z[t]?) e
    simp only [Str.length, List.size_toArray, List.getElem?_toArray] at e2
    rw [Array.getElem?_extract] at e2
    simp only [List.size_toArray, List.getElem?_toArray] at e2
    rw [if_pos (by omega)] at e2
    exact e2
  have e' : Builtin.Str.occurrences ⟨b.toArray⟩ ⟨a.toArray⟩ 0 b.length 1 = [] := by simpa [Str.length] using e
  unfold subS
  rw [e']
  rfl
theorem sIx_nn {n d : Nat} {i : Int} (h : 0 ≤ i) : HT.sIx n d (some i) = min i.toNat n := by
  simp only [HT.sIx]
  rw [if_neg (by omega)]
theorem sIx_none {n d : Nat} : HT.sIx n d none = d := rfl
theorem cut_nn {α : Type} {xs : List α} {i j : Int} (hi : 0 ≤ i) (hj : 0 ≤ j) : cut xs (some i) (some j) = (xs.drop i.toNat).take (j.toNat - i.toNat) := by
  unfold cut
  rw [sIx_nn hi, sIx_nn hj]
  by_cases h : i.toNat ≤ xs.length
  · by_cases h2 : j.toNat ≤ xs.length
    · rw [Nat.min_eq_left h, Nat.min_eq_left h2]
    · rw [Nat.min_eq_left h, Nat.min_eq_right (by omega), List.take_of_length_le (by simp), List.take_of_length_le (by simp; omega)]
  · rw [Nat.min_eq_right (show xs.length ≤ i.toNat by omega), List.drop_of_length_le (Nat.le_refl _), List.drop_of_length_le (show xs.length ≤ i.toNat by omega)]
    simp
theorem cut_to {α : Type} {xs : List α} {j : Int} (hj : 0 ≤ j) : cut xs none (some j) = xs.take j.toNat := by
  unfold cut
  rw [sIx_nn hj, sIx_none]
  simp only [List.drop_zero, Nat.sub_zero]
  by_cases h2 : j.toNat ≤ xs.length
  · rw [Nat.min_eq_left h2]
  · rw [Nat.min_eq_right (by omega), List.take_of_length_le (Nat.le_refl _), List.take_of_length_le (by omega)]
theorem cut_from {α : Type} {xs : List α} {i : Int} (hi : 0 ≤ i) : cut xs (some i) none = xs.drop i.toNat := by
  unfold cut
  rw [sIx_nn hi, sIx_none, List.take_of_length_le (by simp)]
  by_cases h2 : i.toNat ≤ xs.length
  · rw [Nat.min_eq_left h2]
  · rw [Nat.min_eq_right (by omega), List.drop_of_length_le (Nat.le_refl _), List.drop_of_length_le (by omega)]
theorem cut_len {α : Type} {xs : List α} {a b : Option Int} : (cut xs a b).length ≤ xs.length := by
  unfold cut
  simp only [List.length_take, List.length_drop]
  omega
/-! draws, the rest of the store kept -/
section
variable {T : Nat → Option Fn} {j : Nat} {E : XQ}
theorem draw_kp {did : Nat} (hD : T did = some drawFn) {b r : Nat} {m : Int} {s : Sto} {Q : QE} (hs : Src b s r) (hb : b < 2 ^ 60) (hm : divOk m)
    (h : ∀ v s', 0 ≤ v → v < m → Kp (fun n => n = r) s s' → s'.length = s.length → Src (b + 1) s' r → Q (.int v) s') : Lv T (j + 1) did [.ref r, .int m] s Q E := by
  obtain ⟨xs, hr, _⟩ := id hs
  exact draw_ok hD hs hb hm fun v xs' h0 h1 hx => h v _ h0 h1 (Kp.set rfl) (by simp) ⟨xs', get_set hr, hx⟩
theorem src_kp {cid sid : Nat} (hT : T cid = some cellFn) (hS : T sid = some (srcFn cid)) {ns : List Int} {k : Nat} (hk : k < 1000000) {s : Sto} {Q : QE} (h : ∀ s', Kp (fun _ => False) s s' → s'.length = s.length + 1 → Src 0 s' s.length → Q (.ref s.length) s') : Lv T (j + 2) sid [.fl (ns.map .int), .int k] s Q E :=
  src_ok hT hS hk fun xs hx => h _ Kp.push (by simp) ⟨xs, get_new, hx⟩
end
theorem div_nat {n : Nat} (h0 : 0 < n) (h1 : n < 2 ^ 60) : divOk (n : Int) := div_small (by omega) (by omega)
theorem Kp.none {r : Nat → Prop} {s s' : Sto} (a : Kp (fun _ => False) s s') : Kp r s s' := a.mono fun _ _ z => z.elim
theorem Kp.get_ref {r : Nat → Prop} {s s' : Sto} (a : Kp r s s') {n : Nat} {o : Ob} (hn : ¬ r n) (h : s[n]? = some o) : s'[n]? = some o := a.get n o hn h
/-! loops by what holds before each turn -/
theorem for_ind {T : Nat → Option Fn} {k : Nat} {B : List ST} {tg : TG} {o : WK} {all : List D} {N : En} (I : List D → Sl → Sto → Prop)
    (step : ∀ x r σ s, I (x :: r) σ s → chk o all s ∧ xTg tg x σ fun σ' => xSs (Lv T k) B σ' s { nx := fun σ s => I r σ s, ct := fun σ s => I r σ s, bk := N.nx, rt := N.rt, ex := N.ex })
    (fin : ∀ σ s, I [] σ s → chk o all s ∧ N.nx σ s) : ∀ (items : List D) (σ : Sl) (s : Sto), I items σ s → forGo tg o all (fun σ s N => xSs (Lv T k) B σ s N) N items σ s
  | [], σ, s, h => fin σ s h
  | x :: r, σ, s, h => by
    obtain ⟨c, h⟩ := step x r σ s h
    refine ⟨c, xTg_mono tg (fun σ' h => xSs_mono (Lv_mono T k) B (N := { nx := fun σ s => I r σ s, ct := fun σ s => I r σ s, bk := N.nx, rt := N.rt, ex := N.ex }) ⟨fun σ s h => for_ind I step fin r σ s h, fun _ _ h => h, fun σ s h => h, fun σ s h => for_ind I step fin r σ s h, fun _ _ _ _ h => h⟩ h) h⟩
theorem lc_ind {T : Nat → Option Fn} {k : Nat} {tg : TG} {o : WK} {all : List D} {n : Nat} {ifs : List EX} {elt : EX} {own : List Nat} {σ : Sl} {K : Sto → Prop} (I : List D → Sto → Prop)
    (step : ∀ x r s, I (x :: r) s → chk o all s ∧ xTg tg x (wipeS σ own) fun σ' => xIf (Lv T k) ifs σ' s fun b s1 =>
      if b = true then xE (Lv T k) elt σ' s1 (fun y s2 => ∃ acc, s2[n]? = some (.lst acc) ∧ acc.length < sizeLine ∧ I r (s2.set n (.lst (acc ++ [y])))) (fun _ _ _ => False) else I r s1)
    (fin : ∀ s, I [] s → chk o all s ∧ K s) : ∀ (items : List D) (s : Sto), I items s → lcGo tg o all n (fun σ' s' K => xIf (Lv T k) ifs σ' s' K) (fun σ' s' K => xE (Lv T k) elt σ' s' K (fun _ _ _ => False)) own σ items s K
  | [], s, h => fin s h
  | x :: r, s, h => by
    obtain ⟨c, h⟩ := step x r s h
    refine ⟨c, xTg_mono tg (fun σ' h => xIf_mono (Lv_mono T k) ifs (fun b s1 h => ?_) h) h⟩
    cases b with
    | true =>
      refine xE_mono (Lv_mono T k) elt (fun y s2 h => ?_) (fun _ _ _ h => h) h
      obtain ⟨acc, h1, h2, h3⟩ := h
      show (match s2[n]? with
        | some (.lst acc) => _
        | _ => False)
      rw [h1]
      exact ⟨h2, lc_ind I step fin r _ h3⟩
    | false => exact lc_ind I step fin r s1 h
/-! the same, the turn's ends abstract -/
structure En.Is (N' : En) (F : Sl → Sto → Prop) (N : En) : Prop where
  nx : ∀ σ s, F σ s → N'.nx σ s
  ct : ∀ σ s, F σ s → N'.ct σ s
  bk : ∀ σ s, N.nx σ s → N'.bk σ s
  rt : ∀ d s, N.rt d s → N'.rt d s
  ex : ∀ c fs σ s, N.ex c fs σ s → N'.ex c fs σ s
def Dn (W : Nat → Sl → Sto → Prop) (m : Nat) (σ : Sl) (s : Sto) : Prop := ∃ m', m' < m ∧ W m' σ s
theorem whl_of {c : SE} {b : SS} {N : En} {σ : Sl} {s : Sto} (W : Nat → Sl → Sto → Prop) (m : Nat) (h0 : W m σ s)
    (step : ∀ m σ s (N' : En), W m σ s → N'.Is (Dn W m) N → c σ s (fun d s1 => br (tru s1 d) (b σ s1 N') (N.nx σ s1)) (fun e fs s1 => N.ex e fs σ s1)) : whlGo c b N σ s :=
  ⟨W, ⟨m, h0⟩, fun m σ s h => step m σ s _ h ⟨fun _ _ h => h, fun _ _ h => h, fun _ _ h => h, fun _ _ h => h, fun _ _ _ _ h => h⟩⟩
theorem for_inv {T : Nat → Option Fn} {k : Nat} {B : List ST} {tg : TG} {o : WK} {all : List D} {N : En} {items : List D} {σ : Sl} {s : Sto} (I : List D → Sl → Sto → Prop) (h0 : I items σ s)
    (step : ∀ x r σ s (N' : En), I (x :: r) σ s → N'.Is (I r) N → chk o all s ∧ xTg tg x σ fun σ' => xSs (Lv T k) B σ' s N')
    (fin : ∀ σ s, I [] σ s → chk o all s ∧ N.nx σ s) : forGo tg o all (fun σ s N => xSs (Lv T k) B σ s N) N items σ s :=
  for_ind I (fun x r σ s h => step x r σ s _ h ⟨fun _ _ h => h, fun _ _ h => h, fun _ _ h => h, fun _ _ h => h, fun _ _ _ _ h => h⟩) fin items σ s h0
/-- an if, the condition by itself -/
theorem ss_ite {T : Nat → Option Fn} {k : Nat} {c : EX} {a b r : List ST} {σ : Sl} {s : Sto} {N : En} (P : Bool → Sto → Prop)
    (hc : xE (Lv T k) c σ s (fun x s1 => br (tru s1 x) (P true s1) (P false s1)) (fun e fs s1 => N.ex e fs σ s1))
    (ht : ∀ s1, P true s1 → xSs (Lv T k) a σ s1 { N with nx := fun σ s => xSs (Lv T k) r σ s N })
    (hf : ∀ s1, P false s1 → xSs (Lv T k) b σ s1 { N with nx := fun σ s => xSs (Lv T k) r σ s N }) : xSs (Lv T k) (.ite c a b :: r) σ s N := by
  show xE (Lv T k) c σ s _ _
  exact xE_mono (Lv_mono T k) c (fun x s1 h => br_mono h (ht s1) (hf s1)) (fun _ _ _ h => h) hc
section
variable {T : Nat → Option Fn} {j : Nat} {E : XQ}
/-- one of the items of a new list, by a draw -/
theorem pick_ok {did : Nat} (hD : T did = some drawFn) {b r : Nat} {xs : List D} {m : Int} {s : Sto} {Q : QE} (hs : Src b s r) (hb : b < 2 ^ 60) (hm : m = xs.length) (h0 : 0 < xs.length) (h1 : xs.length < 1000000)
    (h : ∀ v s', v ∈ xs → Kp (fun n => n = r) s s' → s.length < s'.length → Src (b + 1) s' r → Q v s') : Lv T (j + 1) did [.ref r, .int m] (s ++ [.lst xs]) (fun y s2 => xIx (.ref s.length) y s2 Q) E := by
  subst hm
  have hr : r < s.length := by
    obtain ⟨_, e, _⟩ := hs
    exact lt_of_get e
  refine draw_kp hD (hs.kp (R := fun _ => False) Kp.push (fun z => z)) hb (div_nat h0 (by omega)) fun v s' v0 v1 k l hs' => ?_
  refine ix_any (k.get _ _ (by omega) get_new) v0 v1 fun w hw => h w s' hw ((Kp.push (t := [.lst xs])).trans k) ?_ hs'
  simp at l
  omega
/-- a sign of a text, by a draw -/
theorem sign_ok {did : Nat} (hD : T did = some drawFn) {b r : Nat} {xs : List Nat} {m : Int} {s : Sto} {Q : QE} (hs : Src b s r) (hb : b < 2 ^ 60) (hm : m = xs.length) (h0 : 0 < xs.length) (h1 : xs.length < 1000000)
    (h : ∀ c s', c ∈ xs → Kp (fun n => n = r) s s' → Src (b + 1) s' r → Q (.str [c]) s') : Lv T (j + 1) did [.ref r, .int m] s (fun y s2 => xIx (.str xs) y s2 Q) E := by
  subst hm
  refine draw_kp hD hs hb (div_nat h0 (by omega)) fun v s' v0 v1 k l hs' => ?_
  obtain ⟨c, e, hc⟩ := atI_in v0 v1
  exact ix_str e (h c s' hc k hs')
end
theorem Src.lt {b : Nat} {s : Sto} {r : Nat} (h : Src b s r) : r < s.length := by
  obtain ⟨_, e, _⟩ := h
  exact lt_of_get e
theorem Src.push {b : Nat} {s : Sto} {r : Nat} {t : Sto} (h : Src b s r) : Src b (s ++ t) r := h.kp (R := fun _ => False) Kp.push (fun z => z)
theorem strI_len {i : Int} (h0 : 0 ≤ i) (h : i < 10 ^ 10) : (strI i).length ≤ 10 ∧ strI i ≠ [] := by
  have e : strI i = (toString i).toList.map Char.toNat := PyProof.Rows.signs_ofString (toString i)
  constructor
  · have := PyProof.Rows.toString_length_le h0 (k := 10) (by decide) h
    show (Str.ofString (toString i)).cps.toList.length ≤ 10
    rw [Array.length_toList]
    exact this
  · obtain ⟨n, rfl⟩ := Int.eq_ofNat_of_zero_le h0
    rw [e]
    show (n.repr).toList.map Char.toNat ≠ []
    rw [Nat.toList_repr]
    exact fun z => Nat.toDigits_ne_nil (List.map_eq_nil_iff.mp z)
theorem dv (n : Nat) (h : 0 < n ∧ n < 1000000 := by decide) : divOk (n : Int) := div_nat h.1 (by omega)
def strB (lo hi : Nat) : D → Bool
  | .str a => decide (lo ≤ a.length) && decide (a.length ≤ hi)
  | _ => false
theorem strB_of {lo hi : Nat} {x : D} {xs : List D} (hx : x ∈ xs) (h : xs.all (strB lo hi) = true) : ∃ a, x = .str a ∧ lo ≤ a.length ∧ a.length ≤ hi := by
  have := List.all_eq_true.mp h x hx
  cases x with
  | str a =>
    simp only [strB, Bool.and_eq_true, decide_eq_true_eq] at this
    exact ⟨a, rfl, this.1, this.2⟩
  | _ => simp [strB] at this
theorem size24 : sizeLine = 16777216 := rfl
end PX

/-! PX: a deeper level does what a level does. -/
namespace PX
open PySem
section
variable {G G' : FS} (hG : G.Mono) (hG' : G'.Mono) (up : ∀ f vs s Q E, G f vs s Q E → G' f vs s Q E)
include hG hG' up
mutual
theorem xE_G : ∀ (e : EX) {σ : Sl} {s : Sto} {Q : QE} {E : XQ}, xE G e σ s Q E → xE G' e σ s Q E
  | .lit d, _, _, _, _, h => h
  | .var i, _, _, _, _, h => h
  | .bin op a b, _, _, _, _, h => by
    simp only [xE] at h ⊢
    exact xE_G a (xE_mono hG a (fun x s1 h => xE_G b h) (fun _ _ _ h => h) h)
  | .neg a, _, _, _, _, h => by
    simp only [xE] at h ⊢
    exact xE_G a h
  | .cmp op a b, _, _, _, _, h => by
    simp only [xE] at h ⊢
    exact xE_G a (xE_mono hG a (fun x s1 h => xE_G b h) (fun _ _ _ h => h) h)
  | .chn op op' a b c, _, _, _, _, h => by
    simp only [xE] at h ⊢
    exact xE_G a (xE_mono hG a (fun x s1 h => xE_G b (xE_mono hG b (fun y s2 h => br_mono h (fun h => xE_G c h) (fun h => h)) (fun _ _ _ h => h) h)) (fun _ _ _ h => h) h)
  | .and a b, _, _, _, _, h => by
    simp only [xE] at h ⊢
    exact xE_G a (xE_mono hG a (fun x s1 h => br_mono h (fun h => xE_G b h) (fun h => h)) (fun _ _ _ h => h) h)
  | .or a b, _, _, _, _, h => by
    simp only [xE] at h ⊢
    exact xE_G a (xE_mono hG a (fun x s1 h => br_mono h (fun h => h) (fun h => xE_G b h)) (fun _ _ _ h => h) h)
  | .not a, _, _, _, _, h => by
    simp only [xE] at h ⊢
    exact xE_G a h
  | .ite c a b, _, _, _, _, h => by
    simp only [xE] at h ⊢
    exact xE_G c (xE_mono hG c (fun x s1 h => br_mono h (fun h => xE_G a h) (fun h => xE_G b h)) (fun _ _ _ h => h) h)
  | .tup es, _, _, _, _, h => by
    simp only [xE] at h ⊢
    exact xEs_G es h
  | .lst es, _, _, _, _, h => by
    simp only [xE] at h ⊢
    exact xEs_G es h
  | .dct es, _, _, _, _, h => by
    simp only [xE] at h ⊢
    exact xEs_G es h
  | .ix a b, _, _, _, _, h => by
    simp only [xE] at h ⊢
    exact xE_G a (xE_mono hG a (fun x s1 h => xE_G b h) (fun _ _ _ h => h) h)
  | .sl a l u, _, _, _, _, h => by
    simp only [xE] at h ⊢
    exact xE_G a (xE_mono hG a (fun x s1 h => xE_G l (xE_mono hG l (fun y s2 h => ⟨h.1, xE_G u h.2⟩) (fun _ _ _ h => h) h)) (fun _ _ _ h => h) h)
  | .call f es, _, _, _, _, h => by
    simp only [xE] at h ⊢
    exact xEs_G es (xEs_mono hG es (fun vs s1 h => up _ _ _ _ _ h) (fun _ _ _ h => h) h)
  | .blt f es, _, _, _, _, h => by
    simp only [xE] at h ⊢
    exact xEs_G es h
  | .meth m o es, _, _, _, _, h => by
    simp only [xE] at h ⊢
    exact xE_G o (xE_mono hG o (fun x s1 h => ⟨h.1, xEs_G es h.2⟩) (fun _ _ _ h => h) h)
  | .lc own tg ik its ifs elt, _, _, _, _, h => by
    simp only [xE] at h ⊢
    exact xEs_G its (xEs_mono hG its (fun vs s1 h => xIt_mono ik vs (fun l o h => lcGo_mono (t := fun σ' s' K => xIf G ifs σ' s' K) (f := fun σ' s' K => xE G elt σ' s' K (fun _ _ _ => False)) (fun σ s K K' hK h => xIf_G ifs (xIf_mono hG ifs hK h)) (fun σ s Q Q' hQ h => xE_G elt (xE_mono hG elt hQ (fun _ _ _ h => h) h)) _ _ (fun s h => h) h) h) (fun _ _ _ h => h) h)
  | .dc own tg ik its ifs k v, _, _, _, _, h => by
    simp only [xE] at h ⊢
    exact xEs_G its (xEs_mono hG its (fun vs s1 h => xIt_mono ik vs (fun l o h => dcGo_mono (t := fun σ' s' K => xIf G ifs σ' s' K) (f := fun σ' s' K => xE G k σ' s' K (fun _ _ _ => False)) (g := fun σ' s' K => xE G v σ' s' K (fun _ _ _ => False)) (fun σ s K K' hK h => xIf_G ifs (xIf_mono hG ifs hK h)) (fun σ s Q Q' hQ h => xE_G k (xE_mono hG k hQ (fun _ _ _ h => h) h)) (fun σ s Q Q' hQ h => xE_G v (xE_mono hG v hQ (fun _ _ _ h => h) h)) _ _ (fun s h => h) h) h) (fun _ _ _ h => h) h)
  | .fld o f, _, _, _, _, h => by
    simp only [xE] at h ⊢
    exact xE_G o h
  | .mcall m cs o es, _, _, _, _, h => by
    simp only [xE] at h ⊢
    exact xE_G o (xE_mono hG o (fun x s1 h => xMc_mono x m cs (fun c h => xEs_G es (xEs_mono hG es (fun vs s1 h => up _ _ _ _ _ h) (fun _ _ _ h => h) h)) h) (fun _ _ _ h => h) h)
  | .rvs a, _, _, _, _, h => by
    simp only [xE] at h ⊢
    exact xE_G a h
theorem xEs_G : ∀ (es : List EX) {σ : Sl} {s : Sto} {Q : List D → Sto → Prop} {E : XQ}, xEs G es σ s Q E → xEs G' es σ s Q E
  | [], _, _, _, _, h => h
  | e :: es, _, _, _, _, h => by
    simp only [xEs] at h ⊢
    exact xE_G e (xE_mono hG e (fun x s1 h => xEs_G es h) (fun _ _ _ h => h) h)
theorem xIf_G : ∀ (es : List EX) {σ : Sl} {s : Sto} {K : Bool → Sto → Prop}, xIf G es σ s K → xIf G' es σ s K
  | [], _, _, _, h => h
  | e :: es, _, _, _, h => by
    simp only [xIf] at h ⊢
    exact xE_G e (xE_mono hG e (fun x s1 h => br_mono h (fun h => xIf_G es h) (fun h => h)) (fun _ _ _ h => h) h)
end
mutual
theorem xS_G : ∀ (st : ST) {σ : Sl} {s : Sto} {N : En}, xS G st σ s N → xS G' st σ s N
  | .expr e, _, _, _, h => by
    simp only [xS] at h ⊢
    exact xE_G hG hG' up e h
  | .asg tg e, _, _, _, h => by
    simp only [xS] at h ⊢
    exact xE_G hG hG' up e h
  | .aset o i e, _, _, _, h => by
    simp only [xS] at h ⊢
    exact xE_G hG hG' up e (xE_mono hG e (fun v s1 h => xE_G hG hG' up o (xE_mono hG o (fun x s2 h => xE_G hG hG' up i h) (fun _ _ _ h => h) h)) (fun _ _ _ h => h) h)
  | .aug i op e, _, _, _, h => by
    simp only [xS] at h ⊢
    split at h
    · exact xE_G hG hG' up e h
    · exact h
  | .ite c a b, _, _, _, h => by
    simp only [xS] at h ⊢
    exact xE_G hG hG' up c (xE_mono hG c (fun x s1 h => br_mono h (fun h => xSs_G a h) (fun h => xSs_G b h)) (fun _ _ _ h => h) h)
  | .whl c b, σ, s, N, h => by
    simp only [xS] at h ⊢
    exact whlGo_mono (c := fun σ s Q E => xE G c σ s Q E) (b := fun σ s N => xSs G b σ s N) (fun σ s Q Q' E E' hQ hE h => xE_G hG hG' up c (xE_mono hG c hQ hE h)) (fun σ s N N' hN h => xSs_G b (xSs_mono hG b hN h)) ⟨fun _ _ h => h, fun _ _ h => h, fun _ _ h => h, fun _ _ h => h, fun _ _ _ _ h => h⟩ h
  | .for_ tg ik its b, _, _, _, h => by
    simp only [xS] at h ⊢
    exact xEs_G hG hG' up its (xEs_mono hG its (fun vs s1 h => xIt_mono ik vs (fun l o h => forGo_mono (b := fun σ s N => xSs G b σ s N) (fun σ s N N' hN h => xSs_G b (xSs_mono hG b hN h)) ⟨fun _ _ h => h, fun _ _ h => h, fun _ _ h => h, fun _ _ h => h, fun _ _ _ _ h => h⟩ _ _ _ h) h) (fun _ _ _ h => h) h)
  | .ret e, _, _, _, h => by
    simp only [xS] at h ⊢
    exact xE_G hG hG' up e h
  | .brk, _, _, _, h => h
  | .cnt, _, _, _, h => h
  | .pass, _, _, _, h => h
  | .fset o f e, _, _, _, h => by
    simp only [xS] at h ⊢
    exact xE_G hG hG' up e (xE_mono hG e (fun v s1 h => xE_G hG hG' up o h) (fun _ _ _ h => h) h)
  | .faug o f op e, _, _, _, h => by
    simp only [xS] at h ⊢
    exact xE_G hG hG' up o (xE_mono hG o (fun x s1 h => xFa1_mono x f (fun n c v h => xE_G hG hG' up e h) h) (fun _ _ _ h => h) h)
  | .forK tg i b, _, _, _, h => by
    simp only [xS] at h ⊢
    exact xFk_mono _ i (fun n kvs h => forGo_mono (b := fun σ s N => xSs G b σ s N) (fun σ s N N' hN h => xSs_G b (xSs_mono hG b hN h)) ⟨fun _ _ h => h, fun _ _ h => h, fun _ _ h => h, fun _ _ h => h, fun _ _ _ _ h => h⟩ _ _ _ h) h
  | .ctor c i, _, _, _, h => by
    simp only [xS] at h ⊢
    split at h
    · exact up _ _ _ _ _ h
    · exact h
theorem xSs_G : ∀ (b : List ST) {σ : Sl} {s : Sto} {N : En}, xSs G b σ s N → xSs G' b σ s N
  | [], _, _, _, h => h
  | st :: r, _, _, N, h => by
    simp only [xSs] at h ⊢
    exact xS_G st (xS_mono hG st (N := { N with nx := fun σ s => xSs G r σ s N }) (N' := { N with nx := fun σ s => xSs G' r σ s N }) ⟨fun σ s h => xSs_G r h, fun _ _ h => h, fun _ _ h => h, fun _ _ h => h, fun _ _ _ _ h => h⟩ h)
end
end
theorem Lv_up (T : Nat → Option Fn) : ∀ (k f : Nat) (vs : List D) (s : Sto) (Q : QE) (E : XQ), Lv T k f vs s Q E → Lv T (k + 1) f vs s Q E
  | 0, _, _, _, _, _, h => h.elim
  | k + 1, f, vs, s, Q, E, h => by
    rw [Lv] at h ⊢
    cases e : T f with
    | none => rw [e] at h; exact h.elim
    | some fn =>
      rw [e] at h ⊢
      exact ⟨h.1, xSs_G (Lv_mono T k) (Lv_mono T (k + 1)) (Lv_up T k) _ h.2⟩
theorem Lv_le {T : Nat → Option Fn} {k : Nat} : ∀ {m : Nat}, k ≤ m → ∀ {f : Nat} {vs : List D} {s : Sto} {Q : QE} {E : XQ}, Lv T k f vs s Q E → Lv T m f vs s Q E
  | 0, hk, f, vs, s, Q, E, h => by
    have : k = 0 := by omega
    subst this
    exact h
  | m + 1, hk, f, vs, s, Q, E, h => by
    by_cases e : k = m + 1
    · subst e; exact h
    · exact Lv_up T m _ _ _ _ _ (Lv_le (by omega) h)
end PX

/-! PX: lemmas for use: objects, dicts, what is walked. -/
namespace PX
open PySem
/-! fields -/
theorem fld_ref {s : Sto} {n c f : Nat} {fs : List (Nat × D)} {v : D} {Q : QE} (hs : s[n]? = some (.ins c fs)) (hv : fGet fs f = some v) (h : Q v s) : xFld (.ref n) f s Q := by
  simp only [xFld, insOf, hs, hv]
  exact h
theorem fset_ref {s : Sto} {n c f : Nat} {fs : List (Nat × D)} {v : D} {K : Sto → Prop} (hs : s[n]? = some (.ins c fs)) (hl : fs.length < 1000) (h : K (s.set n (.ins c (fPut fs f v)))) : xFset (.ref n) f v s K := by
  simp only [xFset, insOf, hs]
  exact ⟨hl, h⟩
theorem fa1_ref {s : Sto} {n c f : Nat} {fs : List (Nat × D)} {v : D} {K : Nat → Nat → D → Prop} (hs : s[n]? = some (.ins c fs)) (hv : fGet fs f = some v) (h : K n c v) : xFa1 (.ref n) f s K := by
  simp only [xFa1, insOf, hs, hv]
  exact h
theorem fa2_add {s : Sto} {n c f : Nat} {fs : List (Nat × D)} {i j : Int} {K : Sto → Prop} (hs : s[n]? = some (.ins c fs)) (hl : fs.length < 1000) (h : K (s.set n (.ins c (fPut fs f (.int (i + j)))))) : xFa2 .Add n c f (.int i) (.int j) s K := by
  simp only [xFa2, hs]
  exact ⟨trivial, hl, h⟩
theorem fa2_sub {s : Sto} {n c f : Nat} {fs : List (Nat × D)} {i j : Int} {K : Sto → Prop} (hs : s[n]? = some (.ins c fs)) (hl : fs.length < 1000) (h : K (s.set n (.ins c (fPut fs f (.int (i - j)))))) : xFa2 .Sub n c f (.int i) (.int j) s K := by
  simp only [xFa2, hs]
  exact ⟨trivial, hl, h⟩
theorem mc_ref {s : Sto} {n c m : Nat} {fs : List (Nat × D)} {cs : List Nat} {K : Nat → Prop} (hs : s[n]? = some (.ins c fs)) (hn : fGet fs m = none) (hc : c ∈ cs) (h : K c) : xMc s (.ref n) m cs K := by
  simp only [xMc, clsM, insOf, hs, hn]
  exact ⟨hc, h⟩
theorem fk_slot {σ : Sl} {i n : Nat} {s : Sto} {kvs : List (D × D)} {K : Nat → List (D × D) → Prop} (hi : σ[i]? = some (some (.ref n))) (hs : s[n]? = some (.dic kvs)) (h : K n kvs) : xFk σ i s K := by
  simp only [xFk, hi, hs]
  exact h
/-- a class is made: its __init__ runs -/
theorem new_ok {T : Nat → Option Fn} {k id c i ar : Nat} {vs : List D} {s : Sto} {Q : QE} {E : XQ} (hT : T id = some ⟨ar, ar, [.ctor c i]⟩) (hl : vs.length = ar) (h : Lv T k i (.ref s.length :: vs) (s ++ [.ins c []]) (fun v s' => v = .non ∧ Q (.ref s.length) s') E) : Lv T (k + 1) id vs s Q E := by
  simp only [Lv, hT]
  refine ⟨hl, ?_⟩
  simp only [Nat.sub_self, List.replicate_zero, List.append_nil, xSs, xS, slotVs_map]
  exact h
/-! dicts -/
theorem dic_ref {s : Sto} {n : Nat} {kvs : List (D × D)} (hs : s[n]? = some (.dic kvs)) : dicOf s (.ref n) = some kvs := by
  simp only [dicOf, hs]
theorem ix_dic {s : Sto} {n : Nat} {kvs : List (D × D)} {y v : D} {Q : QE} (hs : dicOf s (.ref n) = some kvs) (hk : keyOk y = true) (hv : dGet kvs y = some v) (h : Q v s) : xIx (.ref n) y s Q := by
  simp only [xIx, hs, hv]
  refine ⟨?_, h⟩
  cases y <;> first | exact hk | cases hk
theorem in_dic {s : Sto} {n : Nat} {kvs : List (D × D)} {y : D} (hs : dicOf s (.ref n) = some kvs) (hk : keyOk y = true) : cmpD s .In y (.ref n) = some (dGet kvs y).isSome := by
  show inD s y (.ref n) = _
  unfold inD
  rw [hs]
  have : kOk (.ref n) y = true := by cases y <;> first | exact hk | cases hk
  simp only [this, if_true]
theorem nin_dic {s : Sto} {n : Nat} {kvs : List (D × D)} {y : D} (hs : dicOf s (.ref n) = some kvs) (hk : keyOk y = true) : cmpD s .NotIn y (.ref n) = some (!(dGet kvs y).isSome) := by
  show (inD s y (.ref n)).map _ = _
  have := in_dic hs hk
  rw [show inD s y (.ref n) = some (dGet kvs y).isSome from this]
  rfl
theorem dset_ref {s : Sto} {n : Nat} {kvs : List (D × D)} {y v : D} {K : Sto → Prop} (hs : s[n]? = some (.dic kvs)) (hk : keyOk y = true) (hl : kvs.length < sizeLine) (h : K (s.set n (.dic (dPut kvs y v)))) : xAset (.ref n) y v s K := by
  simp only [xAset, hs]
  exact ⟨hk, hl, h⟩
/-! walks -/
theorem it_enum {s : Sto} {n : Nat} {xs : List D} {K : List D → WK → Prop} (hs : s[n]? = some (.lst xs)) (h : K (enumL 0 xs) (.enu 0 n)) : xIt .enum [.ref n] s K := by
  simp only [xIt, hs]
  exact h
theorem min1_ref {s : Sto} {n : Nat} {ns : List Int} {Q : QE} (hs : s[n]? = some (.lst (ns.map .int))) (h0 : 0 < ns.length) (h : ∀ m, m ∈ ns → (∀ i ∈ ns, m ≤ i) → Q (.int m) s) : xBlt .min1 [.ref n] s Q := by
  have e : intsOf (ns.map .int) = some ns := by
    clear h h0 hs
    induction ns with
    | nil => rfl
    | cons a r ih => simp only [List.map_cons, intsOf, ih]; rfl
  simp only [xBlt, bMin1, hs, e]
  exact ⟨h0, h⟩
theorem lst_ref {s : Sto} {n : Nat} {xs : List D} {Q : QE} (hs : s[n]? = some (.lst xs)) (h : Q (.ref s.length) (s ++ [.lst xs])) : xBlt .list [.ref n] s Q := by
  simp only [xBlt, bLst, seqOf, hs]
  exact h
theorem mul_ref {s : Sto} {m : Nat} {a : List D} {j : Int} {Q : QE} (ha : s[m]? = some (.lst a)) (h1 : -(2 ^ 63) ≤ j) (h2 : j < 2 ^ 63) (hl : a.length * j.toNat ≤ sizeLine) (h : Q (.ref s.length) (s ++ [.lst (List.replicate j.toNat a).flatten])) : xBin .Mult (.ref m) (.int j) s Q := by
  simp only [xBin, ha]
  exact ⟨⟨h1, h2, hl⟩, h⟩
/-! items of written tuples -/
theorem x0 {a : D} {l : List D} {s : Sto} {Q : QE} : xIx (.tup (a :: l)) (.int 0) s Q = Q a s := by simp only [xIx, dicOf, xIs, seqOf, atI_z]
theorem x1 {a b : D} {l : List D} {s : Sto} {Q : QE} : xIx (.tup (a :: b :: l)) (.int 1) s Q = Q b s := by simp only [xIx, dicOf, xIs, seqOf, atI_o]
theorem x2 {a b c : D} {l : List D} {s : Sto} {Q : QE} : xIx (.tup (a :: b :: c :: l)) (.int 2) s Q = Q c s := by simp only [xIx, dicOf, xIs, seqOf, atI_t]
theorem x3 {a b c d : D} {l : List D} {s : Sto} {Q : QE} : xIx (.tup (a :: b :: c :: d :: l)) (.int 3) s Q = Q d s := by simp only [xIx, dicOf, xIs, seqOf, atI_3]
/-! for over a list that may be told by what it holds at each turn -/
theorem get_ne {s : Sto} {n m : Nat} {o o' : Ob} (h : s[n]? = some o) (hne : n ≠ m) : (s.set m o')[n]? = some o := by rw [List.getElem?_set_ne (Ne.symm hne)]; exact h
theorem ref_ne {s : Sto} {n m : Nat} {o o' : Ob} (h : s[n]? = some o) (h' : s[m]? = some o') (hne : o ≠ o') : n ≠ m := by
  rintro rfl
  rw [h] at h'
  exact hne (Option.some.inj h')
/-! loops told by the number of turns -/
theorem for_at {T : Nat → Option Fn} {k : Nat} {B : List ST} {tg : TG} {o : WK} {all : List D} {N : En} {σ : Sl} {s : Sto} (I : Nat → Sl → Sto → Prop) (h0 : I 0 σ s)
    (step : ∀ i x σ s (N' : En), all[i]? = some x → I i σ s → N'.Is (I (i + 1)) N → chk o all s ∧ xTg tg x σ fun σ' => xSs (Lv T k) B σ' s N')
    (fin : ∀ σ s, I all.length σ s → chk o all s ∧ N.nx σ s) : forGo tg o all (fun σ s N => xSs (Lv T k) B σ s N) N all σ s := by
  refine for_inv (I := fun r σ s => ∃ i, r = all.drop i ∧ i ≤ all.length ∧ I i σ s) ⟨0, rfl, Nat.zero_le _, h0⟩ ?_ ?_
  · rintro x r σ s N' ⟨i, e, hi, h⟩ hN
    have hx : all[i]? = some x := by
      have : (all.drop i)[0]? = some x := by rw [← e]; rfl
      rwa [List.getElem?_drop] at this
    have hlt : i < all.length := (List.getElem?_eq_some_iff.mp hx).1
    have hr : r = all.drop (i + 1) := by
      have : (x :: r).drop 1 = (all.drop i).drop 1 := by rw [e]
      rw [List.drop_drop] at this
      exact this
    exact step i x σ s N' hx h ⟨fun σ s q => hN.nx σ s ⟨i + 1, hr, hlt, q⟩, fun σ s q => hN.ct σ s ⟨i + 1, hr, hlt, q⟩, hN.bk, hN.rt, hN.ex⟩
  · rintro σ s ⟨i, e, hi, h⟩
    have : i = all.length := by
      have := congrArg List.length e
      simp only [List.length_nil, List.length_drop] at this
      omega
    subst this
    exact fin σ s h
theorem lc_at {T : Nat → Option Fn} {k : Nat} {tg : TG} {o : WK} {all : List D} {n : Nat} {ifs : List EX} {elt : EX} {own : List Nat} {σ : Sl} {s : Sto} {K : Sto → Prop} (I : Nat → List D → Sto → Prop) (hI : ∀ i acc s, I i acc s → s[n]? = some (.lst acc)) (h0 : I 0 [] s)
    (step : ∀ i x acc s, all[i]? = some x → I i acc s → chk o all s ∧ xTg tg x (wipeS σ own) fun σ' => xIf (Lv T k) ifs σ' s fun b s1 =>
      if b = true then xE (Lv T k) elt σ' s1 (fun y s2 => s2[n]? = some (.lst acc) ∧ acc.length < sizeLine ∧ I (i + 1) (acc ++ [y]) (s2.set n (.lst (acc ++ [y])))) (fun _ _ _ => False) else I (i + 1) acc s1)
    (fin : ∀ acc s, I all.length acc s → chk o all s ∧ K s) : lcGo tg o all n (fun σ' s' K => xIf (Lv T k) ifs σ' s' K) (fun σ' s' K => xE (Lv T k) elt σ' s' K (fun _ _ _ => False)) own σ all s K := by
  refine lc_ind (I := fun r s => ∃ i acc, r = all.drop i ∧ i ≤ all.length ∧ I i acc s) ?_ ?_ _ _ ⟨0, [], rfl, Nat.zero_le _, h0⟩
  · rintro x r s ⟨i, acc, e, hi, h⟩
    have hx : all[i]? = some x := by
      have : (all.drop i)[0]? = some x := by rw [← e]; rfl
      rwa [List.getElem?_drop] at this
    have hlt : i < all.length := (List.getElem?_eq_some_iff.mp hx).1
    have hr : r = all.drop (i + 1) := by
      have : (x :: r).drop 1 = (all.drop i).drop 1 := by rw [e]
      rw [List.drop_drop] at this
      exact this
    obtain ⟨c, q⟩ := step i x acc s hx h
    refine ⟨c, xTg_mono tg (fun σ' q => xIf_mono (Lv_mono T k) ifs (fun b s1 q => ?_) q) q⟩
    cases b with
    | true =>
      rw [if_pos rfl] at q ⊢
      exact xE_mono (Lv_mono T k) elt (fun y s2 q => ⟨acc, q.1, q.2.1, i + 1, acc ++ [y], hr, hlt, q.2.2⟩) (fun _ _ _ h => h) q
    | false =>
      rw [if_neg (by decide)] at q ⊢
      exact ⟨i + 1, acc, hr, hlt, q⟩
  · rintro s ⟨i, acc, e, hi, h⟩
    have : i = all.length := by
      have := congrArg List.length e
      simp only [List.length_nil, List.length_drop] at this
      omega
    subst this
    exact fin acc s h
/-- [elt for x in all], elt without an effect -/
theorem lc_map {T : Nat → Option Fn} {k : Nat} {tg : TG} {o : WK} {all : List D} {elt : EX} {own : List Nat} {σ : Sl} {s : Sto} {K : Sto → Prop} (f : Nat → D → D) (hl : all.length < sizeLine) (ho : ∀ s', Kp (fun p => p = s.length) s s' → chk o all s')
    (step : ∀ i x s1 (Q : QE), all[i]? = some x → Kp (fun p => p = s.length) s s1 → (∀ s2, Kp (fun _ => False) s1 s2 → Q (f i x) s2) → xTg tg x (wipeS σ own) fun σ' => xE (Lv T k) elt σ' s1 Q (fun _ _ _ => False))
    (fin : ∀ s', Kp (fun p => p = s.length) s s' → s'[s.length]? = some (.lst (all.mapIdx f)) → K s') : lcGo tg o all s.length (fun σ' s' K => xIf (Lv T k) [] σ' s' K) (fun σ' s' K => xE (Lv T k) elt σ' s' K (fun _ _ _ => False)) own σ all (s ++ [.lst []]) K := by
  refine lc_at (I := fun i acc s' => i ≤ all.length ∧ s'[s.length]? = some (.lst acc) ∧ acc = (all.take i).mapIdx f ∧ Kp (fun p => p = s.length) s s') (fun i acc s h => h.2.1) ⟨Nat.zero_le _, get_new, rfl, Kp.push⟩ ?_ ?_
  · rintro i x acc s1 hx ⟨hi, h1, h2, h3⟩
    have hlt : i < all.length := (List.getElem?_eq_some_iff.mp hx).1
    refine ⟨ho s1 h3, ?_⟩
    have := step i x s1 (fun y s2 => s2[s.length]? = some (.lst acc) ∧ acc.length < sizeLine ∧ (i + 1 ≤ all.length ∧ (s2.set s.length (.lst (acc ++ [y])))[s.length]? = some (.lst (acc ++ [y])) ∧ acc ++ [y] = (all.take (i + 1)).mapIdx f ∧ Kp (fun p => p = s.length) s (s2.set s.length (.lst (acc ++ [y]))))) hx h3 (fun s2 k2 => ?_)
    · refine xTg_mono tg (fun σ' q => ?_) this
      simp only [xIf, if_true]
      exact q
    · have g2 := k2.get _ _ (fun z => z) h1
      have la : acc.length = i := by rw [h2]; simp; omega
      refine ⟨g2, by omega, hlt, get_set g2, ?_, (h3.trans k2.none).trans (Kp.set rfl)⟩
      rw [List.take_add_one, hx, List.mapIdx_append, h2]
      simp only [Option.toList_some, List.mapIdx_cons, List.mapIdx_nil, List.length_take]
      congr 2
      rw [Nat.min_eq_left hi, Nat.zero_add]
  · rintro acc s' ⟨_, h1, h2, h3⟩
    refine ⟨ho s' h3, fin s' h3 ?_⟩
    rw [h1, h2, List.take_length]
/-! stores with a written end -/
theorem set_new {s r : Sto} {o o' : Ob} : (s ++ o :: r).set s.length o' = s ++ o' :: r := by
  have := List.set_append (s := s) (t := o :: r) (i := s.length) (x := o')
  rw [if_neg (Nat.lt_irrefl _), Nat.sub_self] at this
  exact this
theorem get_off {s l : Sto} {k : Nat} : (s ++ l)[s.length + k]? = l[k]? := by
  rw [List.getElem?_append_right (by omega), Nat.add_sub_cancel_left]
theorem set_off {s l : Sto} {k : Nat} {o : Ob} : (s ++ l).set (s.length + k) o = s ++ l.set k o := by
  have := List.set_append (s := s) (t := l) (i := s.length + k) (x := o)
  rw [if_neg (by omega), Nat.add_sub_cancel_left] at this
  exact this
theorem len_off {s l : Sto} : (s ++ l).length = s.length + l.length := List.length_append
theorem Kp.app {s l : Sto} {r : Nat → Prop} : Kp r s (s ++ l) := Kp.push
theorem set_old {s l : Sto} {n : Nat} {o o' : Ob} (h : s[n]? = some o) : (s ++ l).set n o' = s.set n o' ++ l := by
  have := List.set_append (s := s) (t := l) (i := n) (x := o')
  rw [if_pos (lt_of_get h)] at this
  exact this
/-- [.. for x in all if ..], no test holds -/
theorem lc_none {T : Nat → Option Fn} {k : Nat} {tg : TG} {o : WK} {all : List D} {ifs : List EX} {elt : EX} {own : List Nat} {σ : Sl} {s : Sto} {K : Sto → Prop} (ho : ∀ s', Kp (fun p => p = s.length) s s' → chk o all s')
    (step : ∀ (i : Nat) (x : D) (s1 : Sto) (K' : Bool → Sto → Prop), all[i]? = some x → Kp (fun p => p = s.length) s s1 → (∀ s2, Kp (fun _ => False) s1 s2 → K' false s2) → xTg tg x (wipeS σ own) fun σ' => xIf (Lv T k) ifs σ' s1 K')
    (fin : ∀ s', Kp (fun p => p = s.length) s s' → s'[s.length]? = some (.lst []) → K s') : lcGo tg o all s.length (fun σ' s' K => xIf (Lv T k) ifs σ' s' K) (fun σ' s' K => xE (Lv T k) elt σ' s' K (fun _ _ _ => False)) own σ all (s ++ [.lst []]) K := by
  refine lc_at (I := fun i acc s' => s'[s.length]? = some (.lst acc) ∧ acc = [] ∧ Kp (fun p => p = s.length) s s') (fun i acc s h => h.1) ⟨get_new, rfl, Kp.push⟩ ?_ ?_
  · rintro i x acc s1 hx ⟨h1, rfl, h3⟩
    refine ⟨ho s1 h3, xTg_mono tg (fun σ' q => xIf_mono (Lv_mono T k) ifs (fun b s2 q => ?_) q) (step i x s1 (fun b s2 => b = false ∧ Kp (fun _ => False) s1 s2) hx h3 fun s2 k2 => ⟨rfl, k2⟩)⟩
    obtain ⟨rfl, k2⟩ := q
    rw [if_neg (by decide)]
    exact ⟨k2.get _ _ (fun z => z) h1, rfl, h3.trans k2.none⟩
  · rintro acc s1 ⟨h1, rfl, h3⟩
    exact ⟨ho s1 h3, fin s1 h3 h1⟩
theorem ne_nil {s : Sto} {m : Nat} (h : s[m]? = some (.lst [])) : cmpD (s ++ [Ob.lst []]) .NotEq (.ref m) (.ref s.length) = some false := by
  show (eqD _ _ _).map _ = _
  rw [eq_refs (get_old h) get_new (fun x hx => by cases hx) (fun x hx => by cases hx)]
  rfl
theorem eq_nil {s : Sto} {m : Nat} (h : s[m]? = some (.lst [])) : cmpD (s ++ [Ob.lst []]) .Eq (.ref m) (.ref s.length) = some true := by
  show eqD (s ++ [Ob.lst []]) (.ref m) (.ref s.length) = some true
  rw [eq_refs (get_old h) get_new (fun x hx => by cases hx) (fun x hx => by cases hx)]
  rfl
theorem br_nyes {p A B : Prop} [Decidable p] (hp : p) (h : B) : br (some (!decide p)) A B := br_ndec (fun n => absurd hp n) (fun _ => h)
theorem br_nno {p A B : Prop} [Decidable p] (hp : ¬ p) (h : A) : br (some (!decide p)) A B := br_ndec (fun _ => h) (fun n => absurd n hp)
end PX

/-! PX: lemmas for use: dict comprehensions, what a dict holds. -/
namespace PX
open PySem
theorem find_map_key {k v : D} : ∀ (kvs : List (D × D)) (k' : D), ((kvs.map fun p => if p.1 = k then (p.1, v) else p).find? fun p => decide (p.1 = k')).map (·.2) = if k' = k then (if (kvs.any fun p => decide (p.1 = k)) = true then some v else none) else (kvs.find? fun p => decide (p.1 = k')).map (·.2)
  | [], k' => by simp
  | p :: r, k' => by
    have ih := find_map_key (k := k) (v := v) r k'
    rw [List.map_cons, List.find?_cons, List.find?_cons, List.any_cons]
    by_cases h1 : p.1 = k
    · rw [if_pos h1]
      dsimp only
      by_cases h2 : p.1 = k'
      · have h3 : k' = k := h2.symm.trans h1
        simp only [h2, decide_true, Option.map_some, h3, Bool.true_or, if_true]
      · have : ¬ k' = k := fun e => h2 (h1.trans e.symm)
        simp only [h2, decide_false, Bool.false_eq_true, if_false]
        rw [ih, if_neg this, if_neg this]
    · rw [if_neg h1]
      by_cases h2 : p.1 = k'
      · have : ¬ k' = k := fun e => h1 (h2.trans e)
        simp only [h2, decide_true, Option.map_some, if_neg this]
      · simp only [h2, decide_false, Bool.false_eq_true, if_false]
        rw [ih]
        simp only [h1, decide_false, Bool.false_or]
theorem dGet_put {kvs : List (D × D)} {k v k' : D} : dGet (dPut kvs k v) k' = if k' = k then some v else dGet kvs k' := by
  unfold dPut
  by_cases h : (kvs.any fun p => decide (p.1 = k)) = true
  · rw [if_pos h]
    unfold dGet
    rw [find_map_key, if_pos h]
  · rw [if_neg h]
    unfold dGet
    rw [List.find?_append]
    by_cases e : k' = k
    · subst e
      have : (kvs.find? fun p => decide (p.1 = k')) = none := by
        rw [List.find?_eq_none]
        intro p hp hc
        exact h (List.any_eq_true.mpr ⟨p, hp, hc⟩)
      rw [this, if_pos rfl]
      simp
    · rw [if_neg e]
      have : ¬ k = k' := fun z => e z.symm
      cases hf : kvs.find? fun p => decide (p.1 = k') with
      | some p => simp
      | none => simp [this]
theorem dPut_len {kvs : List (D × D)} {k v : D} : (dPut kvs k v).length ≤ kvs.length + 1 := by
  unfold dPut
  split
  · simp
  · simp
theorem dPut_new {kvs : List (D × D)} {k v : D} (h : ∀ p ∈ kvs, p.1 ≠ k) : dPut kvs k v = kvs ++ [(k, v)] := by
  unfold dPut
  rw [if_neg]
  intro z
  obtain ⟨p, hp, e⟩ := List.any_eq_true.mp z
  exact h p hp (of_decide_eq_true e)
theorem dc_ind {T : Nat → Option Fn} {j : Nat} {tg : TG} {o : WK} {all : List D} {n : Nat} {ifs : List EX} {k v : EX} {own : List Nat} {σ : Sl} {K : Sto → Prop} (I : List D → Sto → Prop)
    (step : ∀ x r s, I (x :: r) s → chk o all s ∧ xTg tg x (wipeS σ own) fun σ' => xIf (Lv T j) ifs σ' s fun b s1 =>
      if b = true then xE (Lv T j) k σ' s1 (fun y s2 => xE (Lv T j) v σ' s2 (fun z s3 => ∃ kvs, s3[n]? = some (.dic kvs) ∧ keyOk y = true ∧ kvs.length < sizeLine ∧ I r (s3.set n (.dic (dPut kvs y z)))) (fun _ _ _ => False)) (fun _ _ _ => False) else I r s1)
    (fin : ∀ s, I [] s → chk o all s ∧ K s) : ∀ (items : List D) (s : Sto), I items s → dcGo tg o all n (fun σ' s' K => xIf (Lv T j) ifs σ' s' K) (fun σ' s' K => xE (Lv T j) k σ' s' K (fun _ _ _ => False)) (fun σ' s' K => xE (Lv T j) v σ' s' K (fun _ _ _ => False)) own σ items s K
  | [], s, h => fin s h
  | x :: r, s, h => by
    obtain ⟨c, h⟩ := step x r s h
    refine ⟨c, xTg_mono tg (fun σ' h => xIf_mono (Lv_mono T j) ifs (fun b s1 h => ?_) h) h⟩
    cases b with
    | true =>
      refine xE_mono (Lv_mono T j) k (fun y s2 h => xE_mono (Lv_mono T j) v (fun z s3 h => ?_) (fun _ _ _ h => h) h) (fun _ _ _ h => h) h
      obtain ⟨kvs, h1, h2, h3, h4⟩ := h
      show (match s3[n]? with
        | some (.dic kvs) => _
        | _ => False)
      rw [h1]
      exact ⟨h2, h3, dc_ind I step fin r _ h4⟩
    | false => exact dc_ind I step fin r _ h
/-- {k: v for x in all}, told by the number of turns -/
theorem dc_at {T : Nat → Option Fn} {j : Nat} {tg : TG} {o : WK} {all : List D} {n : Nat} {ifs : List EX} {k v : EX} {own : List Nat} {σ : Sl} {s : Sto} {K : Sto → Prop} (I : Nat → Sto → Prop) (h0 : I 0 s)
    (step : ∀ i x s, all[i]? = some x → I i s → chk o all s ∧ xTg tg x (wipeS σ own) fun σ' => xIf (Lv T j) ifs σ' s fun b s1 =>
      if b = true then xE (Lv T j) k σ' s1 (fun y s2 => xE (Lv T j) v σ' s2 (fun z s3 => ∃ kvs, s3[n]? = some (.dic kvs) ∧ keyOk y = true ∧ kvs.length < sizeLine ∧ I (i + 1) (s3.set n (.dic (dPut kvs y z)))) (fun _ _ _ => False)) (fun _ _ _ => False) else I (i + 1) s1)
    (fin : ∀ s, I all.length s → chk o all s ∧ K s) : dcGo tg o all n (fun σ' s' K => xIf (Lv T j) ifs σ' s' K) (fun σ' s' K => xE (Lv T j) k σ' s' K (fun _ _ _ => False)) (fun σ' s' K => xE (Lv T j) v σ' s' K (fun _ _ _ => False)) own σ all s K := by
  refine dc_ind (I := fun r s => ∃ i, r = all.drop i ∧ i ≤ all.length ∧ I i s) ?_ ?_ _ _ ⟨0, rfl, Nat.zero_le _, h0⟩
  · rintro x r s ⟨i, e, hi, h⟩
    have hx : all[i]? = some x := by
      have : (all.drop i)[0]? = some x := by rw [← e]; rfl
      rwa [List.getElem?_drop] at this
    have hlt : i < all.length := (List.getElem?_eq_some_iff.mp hx).1
    have hr : r = all.drop (i + 1) := by
      have : (x :: r).drop 1 = (all.drop i).drop 1 := by rw [e]
      rw [List.drop_drop] at this
      exact this
    obtain ⟨c, q⟩ := step i x s hx h
    refine ⟨c, xTg_mono tg (fun σ' q => xIf_mono (Lv_mono T j) ifs (fun b s1 q => ?_) q) q⟩
    cases b with
    | true =>
      rw [if_pos rfl] at q ⊢
      exact xE_mono (Lv_mono T j) k (fun y s2 q => xE_mono (Lv_mono T j) v (fun z s3 q => by
        obtain ⟨kvs, q1, q2, q3, q4⟩ := q
        exact ⟨kvs, q1, q2, q3, i + 1, hr, hlt, q4⟩) (fun _ _ _ h => h) q) (fun _ _ _ h => h) q
    | false =>
      rw [if_neg (by decide)] at q ⊢
      exact ⟨i + 1, hr, hlt, q⟩
  · rintro s ⟨i, e, hi, h⟩
    have : i = all.length := by
      have := congrArg List.length e
      simp only [List.length_nil, List.length_drop] at this
      omega
    subst this
    exact fin s h
/-- reading a list that may be locked -/
theorem ldic_ref {s : Sto} {n : Nat} {kvs : List (D × D)} (hs : s[n]? = some (.ldic kvs)) : dicOf s (.ref n) = some kvs := by
  simp only [dicOf, hs]
end PX

/-! PX: dicts of the module. -/
namespace PX
open PySem PySem.Spec PyProof.Rows L2
/-- the values of a dict of the module: plain ones, tuples of plain ones -/
def DV (K : PySem.W.Frag) : List D → List DictEntry → Prop
  | [], [] => True
  | .tup ds :: r, e :: es => (∃ (a : Addr) (od : Option Addr) (its : Array Value) (n : Nat) (sl : Array (Option Value)), e.val = .ref a ∧ K.lookup a = some ⟨.type "tuple", od, .seq its n, sl⟩ ∧ itsChk ds its.toList = true ∧ (decide (its.size ≤ 100000) && decide (ds.length ≤ 100000)) = true) ∧ DV K r es
  | d :: r, e :: es => v1 d e.val = true ∧ DV K r es
  | _, _ => False
theorem dv_tup {K : PySem.W.Frag} {a : Addr} {od : Option Addr} {its : Array Value} {n : Nat} {sl : Array (Option Value)} {ds : List D} (l : K.lookup a = some ⟨.type "tuple", od, .seq its n, sl⟩) (c : itsChk ds its.toList = true) (z : (decide (its.size ≤ 100000) && decide (ds.length ≤ 100000)) = true) :
    ∃ (a' : Addr) (od : Option Addr) (its : Array Value) (n : Nat) (sl : Array (Option Value)), Value.ref a = .ref a' ∧ K.lookup a' = some ⟨.type "tuple", od, .seq its n, sl⟩ ∧ itsChk ds its.toList = true ∧ (decide (its.size ≤ 100000) && decide (ds.length ≤ 100000)) = true := ⟨a, od, its, n, sl, rfl, l, c, z⟩
/-- .. its keys -/
def keysChk : List D → List DictEntry → Bool
  | [], [] => true
  | .str a :: r, e :: es => (match e.key with
    | .str s _ => s == ⟨a.toArray⟩
    | _ => false) && keysChk r es
  | _, _ => false
theorem dv_ok {K : PySem.W.Frag} {B : Tb} (hK : B.K = K) : ∀ (ks vs : List D) (es : List DictEntry), keysChk ks es = true → DV K vs es → ∃ us, CDes ks us es ∧ ∀ H ρ, RelDs B H ρ vs us
  | [], [], [], _, _ => ⟨[], trivial, fun _ _ => rfl⟩
  | [], v :: vs, [], _, h => by cases v <;> exact h.elim
  | k :: ks, _, [], h, _ => by cases k <;> simp [keysChk] at h
  | [], _, _ :: _, h, _ => by simp [keysChk] at h
  | k :: ks, [], e :: es, _, h => h.elim
  | k :: ks, v :: vs, e :: es, hk, h => by
    have h1 : ∃ a t, k = .str a ∧ e.key = .str ⟨a.toArray⟩ t := by
      cases k <;> first | (simp [keysChk] at hk; done) | skip
      rename_i a
      rw [keysChk, Bool.and_eq_true] at hk
      have := hk.1
      split at this
      · rename_i s t e1
        rw [beq_iff_eq] at this
        exact ⟨a, t, rfl, by rw [e1, this]⟩
      · cases this
    have h2 : keysChk ks es = true := by
      cases k <;> first | (simp [keysChk] at hk; done) | skip
      rw [keysChk, Bool.and_eq_true] at hk
      exact hk.2
    have h3 : (∃ u, RelV u e.val ∧ ∀ H ρ, RelD B H ρ v u) ∧ DV K vs es := by
      cases v with
      | tup ds =>
        obtain ⟨⟨a, od, its, n, sl, e1, l, c, z⟩, r⟩ := h
        obtain ⟨ws, w1, w2⟩ := itsChk_ok (B := B) _ _ c
        rw [Bool.and_eq_true, decide_eq_true_eq, decide_eq_true_eq] at z
        exact ⟨⟨.ref a, e1, fun H ρ => ⟨a, ws, rfl, .inr ⟨_, its, n, by rw [hK]; exact l, rfl, rfl, Nat.le_trans z.1 (by decide), w1⟩, Nat.le_trans z.2 (by decide), w2 H ρ⟩⟩, r⟩
      | _ =>
        obtain ⟨c, r⟩ := h
        obtain ⟨u, w1, w2⟩ := v1_ok (B := B) c
        exact ⟨⟨u, w1, w2⟩, r⟩
    obtain ⟨⟨u, u1, u2⟩, h4⟩ := h3
    obtain ⟨us, g1, g2⟩ := dv_ok hK ks vs es h2 h4
    exact ⟨u :: us, ⟨h1, u1, g1⟩, fun H ρ => ⟨u, us, rfl, u2 H ρ, g2 H ρ⟩⟩
theorem co_dct2 {K : PySem.W.Frag} {B : Tb} (hK : B.K = K) {x : Str} {ks vs : List D} {a : Addr} {es : Array DictEntry} {n : Nat} (h : PySem.W.nsIn K mainGlobals x = some (some (.ref a)))
    (l : K.lookup a = some ⟨.type "dict", none, .dict es n, #[]⟩) (lo : (a == sysModules) = false) (kl : PySem.W.KeysLit B.pw es.toList) (kc : keysChk ks es.toList = true) (dv : DV K vs es.toList) : ∃ v u, PySem.W.nsIn K mainGlobals x = some (some u) ∧ RelV v u ∧ ∀ H ρ, RelD B H ρ (.fd ks vs) v := by
  obtain ⟨us, g1, g2⟩ := dv_ok hK ks vs _ kc dv
  exact co_dct hK h l lo kl g1 g2
end PX

/-! Tokens of a line, as the laws' own lexer has them. -/
namespace Tk
open PySem PX
def KW : List (List Nat) := [[102, 117, 110], [101, 110, 100], [105, 102], [101, 108, 115, 101], [119, 104, 105, 108, 101], [116, 114, 121], [99, 97, 116, 99, 104], [114, 101, 116, 117, 114, 110], [116, 104, 114, 111, 119], [115, 97, 121], [103, 111], [114, 101, 115, 116], [110, 101, 119], [110, 105, 108], [112, 117, 115, 104], [98, 105, 110, 100], [97, 115, 107], [108, 101, 110], [107, 105, 110, 100]]
def LET : List Nat := [97, 98, 99, 100, 101, 102, 103, 104, 105, 106, 107, 108, 109, 110, 111, 112, 113, 114, 115, 116, 117, 118, 119, 120, 121, 122]
def DIG : List Nat := [48, 49, 50, 51, 52, 53, 54, 55, 56, 57]
def SIG : List Nat := [40, 41, 91, 93, 46, 44, 43, 45, 42, 60, 61, 33]
def nameB (w : List Nat) : Bool := match w with
  | [] => false
  | c :: r => decide (c ∈ LET) && (decide ((c :: r).length ≤ 8) && !decide (c :: r ∈ KW))
def numB (w : List Nat) : Bool := w.all (fun c => decide (c ∈ DIG)) && (decide (w = [48]) || (decide (1 ≤ w.length) && (decide (w.length ≤ 3) && !decide (w.head? = some 48))))
def aln (c : Nat) : Bool := decide (c ∈ LET) || decide (c ∈ DIG)
theorem drop_get {α : Type} {a : List α} {k : Nat} {c : α} {r : List α} (h : a.drop k = c :: r) : a[k]? = some c ∧ k < a.length ∧ a.drop (k + 1) = r := by
  have e : a[k]? = (a.drop k)[0]? := by rw [List.getElem?_drop]; rfl
  refine ⟨by rw [e, h]; rfl, ?_, ?_⟩
  · have := congrArg List.length h
    simp only [List.length_drop, List.length_cons] at this
    omega
  · rw [← List.drop_drop, h]; rfl
theorem tw_take (p : Nat → Bool) : ∀ l : List Nat, l.take (l.takeWhile p).length = l.takeWhile p
  | [] => rfl
  | c :: r => by
    rw [List.takeWhile_cons]
    split
    · rw [List.length_cons, List.take_succ_cons, tw_take p r]
    · rfl
theorem tw_drop (p : Nat → Bool) : ∀ l : List Nat, l.drop (l.takeWhile p).length = l.dropWhile p
  | [] => rfl
  | c :: r => by
    rw [List.takeWhile_cons, List.dropWhile_cons]
    split
    · rw [List.length_cons, List.drop_succ_cons, tw_drop p r]
    · rfl
def okW (w : List Nat) : Bool := decide (w ∈ KW) || (nameB w || numB w)
def tk : Nat → List Nat → Option (List (List Nat))
  | 0, _ => some []
  | _, [] => some []
  | n + 1, c :: r =>
    if aln c = true then (if okW ((c :: r).takeWhile aln) = true then (tk n ((c :: r).dropWhile aln)).map ((c :: r).takeWhile aln :: ·) else none)
    else if c = 32 then tk n r
    else if c ∈ SIG then (if (c :: r).take 2 = [61, 61] then (tk n (r.drop 1)).map ([61, 61] :: ·) else (tk n r).map ([c] :: ·))
    else none
theorem tk_nil : ∀ n, tk n [] = some []
  | 0 => rfl
  | _ + 1 => rfl
def LD : List Nat := [97, 98, 99, 100, 101, 102, 103, 104, 105, 106, 107, 108, 109, 110, 111, 112, 113, 114, 115, 116, 117, 118, 119, 120, 121, 122, 48, 49, 50, 51, 52, 53, 54, 55, 56, 57]
def KEPT : List Nat := [32, 102, 117, 110, 32, 101, 110, 100, 32, 105, 102, 32, 101, 108, 115, 101, 32, 119, 104, 105, 108, 101, 32, 116, 114, 121, 32, 99, 97, 116, 99, 104, 32, 114, 101, 116, 117, 114, 110, 32, 116, 104, 114, 111, 119, 32, 115, 97, 121, 32, 103, 111, 32, 114, 101, 115, 116, 32, 110, 101, 119, 32, 110, 105, 108, 32, 112, 117, 115, 104, 32, 98, 105, 110, 100, 32, 97, 115, 107, 32, 108, 101, 110, 32, 107, 105, 110, 100, 32]
theorem aln_LD (c : Nat) : aln c = decide (c ∈ LD) := by
  have : LD = LET ++ DIG := rfl
  rw [this, Bool.eq_iff_iff]
  unfold aln
  simp only [Bool.or_eq_true, decide_eq_true_eq, List.mem_append]
theorem aln_32 {c : Nat} (h : aln c = true) : c ≠ 32 := by
  rintro rfl
  revert h
  decide
theorem kept_sp : ∀ i, i < 100 → i + 11 ≤ KEPT.length → ∃ t, t < 10 ∧ 1 ≤ t ∧ KEPT[i + t]? = some 32 := by decide +kernel
theorem kept_short {w : List Nat} (hw : w.all aln = true) (h : subS ([32] ++ w ++ [32]) KEPT = true) : w.length ≤ 8 := by
  refine Decidable.byContradiction fun hn => ?_
  have : subS ([32] ++ w ++ [32]) KEPT = false := sub_no fun i hi => by
    have hl : ([32] ++ w ++ [32]).length = w.length + 2 := by simp
    rw [hl] at hi ⊢
    have hK : KEPT.length ≤ 100 := by decide
    obtain ⟨t, ht, h1, e⟩ := kept_sp i (by omega) (by omega)
    refine ⟨t, by omega, ?_⟩
    rw [e]
    obtain ⟨t, rfl⟩ : ∃ u, t = u + 1 := ⟨t - 1, by omega⟩
    have ht' : t < w.length := by omega
    have e2 : ([32] ++ w ++ [32])[t + 1]? = some w[t] := by
      rw [List.append_assoc]
      show (w ++ [32])[t]? = _
      rw [List.getElem?_append_left ht', List.getElem?_eq_getElem ht']
    rw [e2]
    intro z
    exact aln_32 (List.all_eq_true.mp hw _ (List.getElem_mem ht')) (Option.some.inj z).symm
  rw [this] at h
  cases h
theorem kw_len : ∀ w ∈ KW, w.length ≤ 8 := by decide +kernel
theorem kw_hd : ∀ w ∈ KW, ∀ c, w.head? = some c → c ∉ DIG := by
  have : KW.all (fun w => match w.head? with
    | some c => !decide (c ∈ DIG)
    | none => true) = true := by decide +kernel
  intro w hw c hc
  have := List.all_eq_true.mp this w hw
  rw [hc] at this
  simpa using this
theorem let_dig : ∀ c ∈ LET, c ∉ DIG := by decide +kernel
theorem ok_dig {c : Nat} {r : List Nat} (h : c ∈ DIG) : okW (c :: r) = numB (c :: r) := by
  have h1 : ¬ (c :: r ∈ KW) := fun z => kw_hd _ z c rfl h
  have h2 : ¬ (c ∈ LET) := fun z => let_dig c z h
  simp [okW, nameB, h1, h2]
theorem ok_let {c : Nat} {r : List Nat} (h : c ∈ LET) : okW (c :: r) = decide ((c :: r).length ≤ 8) := by
  have h2 : ¬ (c ∈ DIG) := let_dig c h
  have hn : numB (c :: r) = false := by simp [numB, h2]
  rw [okW, hn]
  by_cases k : c :: r ∈ KW
  · rw [decide_eq_true k, decide_eq_true (kw_len _ k), Bool.true_or]
  · simp only [nameB, h, k, decide_true, decide_false, Bool.not_false, Bool.true_and, Bool.and_true, Bool.or_false, Bool.false_or]
theorem tw_get (p : Nat → Bool) : ∀ (l : List Nat) (n : Nat), n < (l.takeWhile p).length → ∃ c, l[n]? = some c ∧ p c = true
  | [], n, h => by simp at h
  | c :: r, n, h => by
    rw [List.takeWhile_cons] at h
    split at h
    · rename_i hc
      cases n with
      | zero => exact ⟨c, rfl, hc⟩
      | succ n =>
        rw [List.length_cons] at h
        obtain ⟨d, e, hd⟩ := tw_get p r n (by omega)
        exact ⟨d, by simpa using e, hd⟩
    · simp at h
theorem tw_end (p : Nat → Bool) : ∀ (l : List Nat), (l.takeWhile p).length = l.length ∨ ∃ c, l[(l.takeWhile p).length]? = some c ∧ p c = false
  | [] => .inl rfl
  | c :: r => by
    rw [List.takeWhile_cons]
    split
    · rcases tw_end p r with h | ⟨d, e, hd⟩
      · left; simp [h]
      · right; exact ⟨d, by simpa using e, hd⟩
    · rename_i hc
      right; exact ⟨c, rfl, by simpa using hc⟩
theorem tw_all (p : Nat → Bool) : ∀ (l : List Nat), (l.takeWhile p).all p = true
  | [] => rfl
  | c :: r => by
    rw [List.takeWhile_cons]
    split
    · rename_i hc
      rw [List.all_cons, hc, tw_all p r]; rfl
    · rfl
end Tk

/-! Programs of the small language: trees, how they stand as tuples, the one form of their texts. -/
namespace Sx
open PySem PX Tk
abbrev Nm := List Nat
inductive KW3 where
  | nil | new | ask
  deriving DecidableEq
inductive KU where
  | len | kind
  deriving DecidableEq
inductive KB where
  | item | add | sub | mul | less | same
  deriving DecidableEq
inductive KC where
  | call | bind
  deriving DecidableEq
inductive Ex where
  | num (n : Nat)
  | var (x : Nm)
  | wd (k : KW3)
  | call (k : KC) (f : Nm) (as : List Ex)
  | list (as : List Ex)
  | un (k : KU) (e : Ex)
  | fld (e : Ex) (x : Nm)
  | app (e : Ex) (as : List Ex)
  | bin (o : KB) (a b : Ex)
  deriving Inhabited
def KW3.w : KW3 → Nm
  | .nil => [110, 105, 108]
  | .new => [110, 101, 119]
  | .ask => [97, 115, 107]
def KU.w : KU → Nm
  | .len => [108, 101, 110]
  | .kind => [107, 105, 110, 100]
def KB.w : KB → Nm
  | .item => [105, 116, 101, 109]
  | .add => [97, 100, 100]
  | .sub => [115, 117, 98]
  | .mul => [109, 117, 108]
  | .less => [108, 101, 115, 115]
  | .same => [115, 97, 109, 101]
def KC.w : KC → Nm
  | .call => [99, 97, 108, 108]
  | .bind => [98, 105, 110, 100]
/-- a word that is a tree's head -/
def Ex.w : Ex → Nm
  | .num _ => [110, 117, 109]
  | .var _ => [118, 97, 114]
  | .wd k => k.w
  | .call k _ _ => k.w
  | .list _ => [108, 105, 115, 116]
  | .un k _ => k.w
  | .fld _ _ => [102, 105, 101, 108, 100]
  | .app _ _ => [97, 112, 112, 108, 121]
  | .bin o _ _ => o.w
mutual
def dE : Ex → D
  | .num n => .tup [.str [110, 117, 109], .int n]
  | .var x => .tup [.str [118, 97, 114], .str x]
  | .wd k => .tup [.str k.w]
  | .call k f as => .tup [.str k.w, .str f, .tup (dEs as)]
  | .list as => .tup [.str [108, 105, 115, 116], .tup (dEs as)]
  | .un k e => .tup [.str k.w, dE e]
  | .fld e x => .tup [.str [102, 105, 101, 108, 100], dE e, .str x]
  | .app e as => .tup [.str [97, 112, 112, 108, 121], dE e, .tup (dEs as)]
  | .bin o a b => .tup [.str o.w, dE a, dE b]
def dEs : List Ex → List D
  | [] => []
  | e :: es => dE e :: dEs es
end
theorem dEs_map : ∀ es : List Ex, dEs es = es.map dE
  | [] => rfl
  | e :: es => by rw [dEs, dEs_map es]; rfl
/-- the level of a word -/
def KB.lv : KB → Nat
  | .item => 4
  | .add => 1
  | .sub => 1
  | .mul => 2
  | .less => 0
  | .same => 0
def Ex.lv : Ex → Nat
  | .un _ _ => 3
  | .bin o _ _ => o.lv
  | _ => 4
def KB.sg : KB → List Nat
  | .item => [91]
  | .add => [32, 43, 32]
  | .sub => [32, 45, 32]
  | .mul => [32, 42, 32]
  | .less => [32, 60, 32]
  | .same => [32, 61, 61, 32]
def par (b : Bool) (t : List Nat) : List Nat := if b = true then [40] ++ t ++ [41] else t
mutual
def tx : Ex → List Nat
  | .num n => strI n
  | .var x => x
  | .wd k => k.w
  | .call k f as => (match k with
    | .call => []
    | .bind => [98, 105, 110, 100, 32]) ++ f ++ [40] ++ joinS [44, 32] (txs as) ++ [41]
  | .list as => [91] ++ joinS [44, 32] (txs as) ++ [93]
  | .un k e => k.w ++ [32] ++ par (decide (e.lv < 3)) (tx e)
  | .fld e x => par (decide (e.lv < 4)) (tx e) ++ [46] ++ x
  | .app e as => par (decide (e.lv < 4)) (tx e) ++ [33, 40] ++ joinS [44, 32] (txs as) ++ [41]
  | .bin o a b => match o with
    | .item => par (decide (a.lv < 4)) (tx a) ++ [91] ++ tx b ++ [93]
    | o => par (decide (a.lv < max o.lv 1)) (tx a) ++ o.sg ++ par (decide (b.lv < o.lv + 1)) (tx b)
def txs : List Ex → List (List Nat)
  | [] => []
  | e :: es => tx e :: txs es
end
theorem txs_map : ∀ es : List Ex, txs es = es.map tx
  | [] => rfl
  | e :: es => by rw [txs, txs_map es]; rfl
/-- .. at a place of a level -/
def tp (p : Nat) (e : Ex) : List Nat := par (decide (e.lv < p)) (tx e)
theorem tp_zero {e : Ex} : tp 0 e = tx e := by
  unfold tp par
  rw [if_neg (by rw [decide_eq_true_eq]; omega)]
/-! sizes -/
mutual
def nd : Ex → Nat
  | .num _ => 1
  | .var _ => 1
  | .wd _ => 1
  | .call _ _ as => 1 + nds as
  | .list as => 1 + nds as
  | .un _ e => 1 + nd e
  | .fld e _ => 1 + nd e
  | .app e as => 1 + nd e + nds as
  | .bin _ a b => 1 + nd a + nd b
def nds : List Ex → Nat
  | [] => 0
  | e :: es => nd e + nds es
end
mutual
def dp : Ex → Nat
  | .num _ => 1
  | .var _ => 1
  | .wd _ => 1
  | .call _ _ as => 1 + dps as
  | .list as => 1 + dps as
  | .un _ e => 1 + dp e
  | .fld e _ => 1 + dp e
  | .app e as => 1 + max (dp e) (dps as)
  | .bin _ a b => 1 + max (dp a) (dp b)
def dps : List Ex → Nat
  | [] => 0
  | e :: es => max (dp e) (dps es)
end
theorem dps_le : ∀ {es : List Ex} {d : Nat}, dps es ≤ d → ∀ e ∈ es, dp e ≤ d
  | a :: r, d, h, e, he => by
    rw [dps] at h
    rcases List.mem_cons.mp he with rfl | he
    · omega
    · exact dps_le (by omega) e he
theorem dps_of : ∀ {es : List Ex} {d : Nat}, (∀ e ∈ es, dp e ≤ d) → dps es ≤ d
  | [], d, _ => Nat.zero_le _
  | a :: r, d, h => by
    rw [dps]
    have := h a (by simp)
    have := dps_of (es := r) fun e he => h e (by simp [he])
    omega
theorem nds_le : ∀ {es : List Ex} {d : Nat}, nds es ≤ d → ∀ e ∈ es, nd e ≤ d
  | a :: r, d, h, e, he => by
    rw [nds] at h
    rcases List.mem_cons.mp he with rfl | he
    · omega
    · exact nds_le (by omega) e he
theorem nd_pos : ∀ e : Ex, 1 ≤ nd e := fun e => by cases e <;> simp only [nd] <;> omega
theorem dp_pos : ∀ e : Ex, 1 ≤ dp e := fun e => by cases e <;> simp only [dp] <;> omega
theorem nds_len : ∀ es : List Ex, es.length ≤ nds es
  | [] => Nat.le_refl _
  | e :: es => by
    rw [nds, List.length_cons]
    have := nd_pos e
    have := nds_len es
    omega
/-- a name -/
def Name (x : Nm) : Prop := ∃ c r, x = c :: r ∧ c ∈ LET ∧ (∀ d ∈ r, aln d = true) ∧ r.length ≤ 7
theorem Name.len {x : Nm} (h : Name x) : x.length ≤ 8 := by
  obtain ⟨c, r, rfl, _, _, h⟩ := h
  rw [List.length_cons]
  omega
theorem Name.aln {x : Nm} (h : Name x) : x.all Tk.aln = true := by
  obtain ⟨c, r, rfl, h1, h2, _⟩ := h
  rw [List.all_cons, Bool.and_eq_true, List.all_eq_true]
  exact ⟨by unfold Tk.aln; simp [h1], h2⟩
theorem Name.ok {x : Nm} (h : Name x) : okW x = true := by
  have hl := h.len
  obtain ⟨c, r, rfl, h1, h2, _⟩ := h
  rw [ok_let h1, decide_eq_true hl]
theorem Name.ne {x : Nm} (h : Name x) : x ≠ [] := by
  obtain ⟨c, r, rfl, _⟩ := h
  exact List.cons_ne_nil _ _
/-! an expression over these variables -/
mutual
def WE (vs : List Nm) : Ex → Prop
  | .num n => n < 1000
  | .var x => x ∈ vs
  | .wd _ => True
  | .call k f as => Name f ∧ as.length ≤ (match k with
    | .call => 3
    | .bind => 2) ∧ WEs vs as
  | .list as => as.length ≤ 8 ∧ WEs vs as
  | .un _ e => WE vs e
  | .fld e x => WE vs e ∧ Name x
  | .app e as => WE vs e ∧ as.length ≤ 3 ∧ WEs vs as
  | .bin _ a b => WE vs a ∧ WE vs b
def WEs (vs : List Nm) : List Ex → Prop
  | [] => True
  | e :: es => WE vs e ∧ WEs vs es
end
theorem WEs_all {vs : List Nm} : ∀ {es : List Ex}, WEs vs es ↔ ∀ e ∈ es, WE vs e
  | [] => ⟨fun _ _ h => absurd h List.not_mem_nil, fun _ => trivial⟩
  | a :: r => by
    rw [WEs, WEs_all (es := r)]
    exact ⟨fun h e he => (List.mem_cons.mp he).elim (fun z => z ▸ h.1) (h.2 e), fun h => ⟨h a (by simp), fun e he => h e (by simp [he])⟩⟩
theorem par_len {b : Bool} {t : List Nat} : (par b t).length ≤ t.length + 2 := by
  unfold par
  split <;> simp <;> omega
theorem num_chk : ∀ n : Nat, n < 1000 → (strI n).length ≤ 3 ∧ (strI n).all aln = true ∧ okW (strI n) = true ∧ strI n ≠ [] := by
  have : (List.range 1000).all (fun n : Nat => decide ((strI n).length ≤ 3) && ((strI n).all aln && (okW (strI n) && !(strI n).isEmpty))) = true := by decide +kernel
  intro n hn
  have := List.all_eq_true.mp this n (List.mem_range.mpr hn)
  simp only [Bool.and_eq_true, decide_eq_true_eq, Bool.not_eq_true', List.isEmpty_eq_false_iff] at this
  exact ⟨this.1, this.2.1, this.2.2.1, this.2.2.2⟩
theorem join_len {sep : List Nat} : ∀ {l : List (List Nat)} {K : Nat}, (l.map List.length).sum + l.length * sep.length ≤ K → (joinS sep l).length ≤ K
  | [], K, _ => Nat.zero_le _
  | [a], K, h => by simp [joinS] at h ⊢; omega
  | a :: b :: r, K, h => by
    have := join_len (sep := sep) (l := b :: r) (K := K - a.length - sep.length) (by
      simp only [List.map_cons, List.sum_cons, List.length_cons, Nat.add_mul, Nat.one_mul] at h ⊢
      omega)
    simp only [joinS, List.length_append]
    simp only [List.map_cons, List.sum_cons, List.length_cons, Nat.add_mul, Nat.one_mul] at h
    omega
mutual
theorem tx_len {vs : List Nm} (hv : ∀ x ∈ vs, Name x) : ∀ e : Ex, WE vs e → (tx e).length + 4 ≤ 24 * nd e
  | .num n, h => by
    have := (num_chk n h).1
    simp only [tx, nd]
    omega
  | .var x, h => by
    have := (hv x h).len
    simp only [tx, nd]
    omega
  | .wd k, h => by cases k <;> decide
  | .call k f as, h => by
    obtain ⟨h1, h2, h3⟩ := h
    have := txs_len hv as h3
    have := h1.len
    have : (joinS [44, 32] (txs as)).length ≤ 24 * nds as := join_len (by simp only [List.length_cons, List.length_nil]; omega)
    cases k <;> simp only [tx, nd, List.length_append, List.length_cons, List.length_nil] <;> omega
  | .list as, h => by
    have := txs_len hv as h.2
    have : (joinS [44, 32] (txs as)).length ≤ 24 * nds as := join_len (by simp only [List.length_cons, List.length_nil]; omega)
    simp only [tx, nd, List.length_append, List.length_cons, List.length_nil]
    omega
  | .un k e, h => by
    have := tx_len hv e h
    have := par_len (b := decide (e.lv < 3)) (t := tx e)
    cases k <;> simp only [tx, nd, KU.w, List.length_append, List.length_cons, List.length_nil] <;> omega
  | .fld e x, h => by
    have := tx_len hv e h.1
    have := h.2.len
    have := par_len (b := decide (e.lv < 4)) (t := tx e)
    simp only [tx, nd, List.length_append, List.length_cons, List.length_nil]
    omega
  | .app e as, h => by
    have := tx_len hv e h.1
    have := par_len (b := decide (e.lv < 4)) (t := tx e)
    have := txs_len hv as h.2.2
    have : (joinS [44, 32] (txs as)).length ≤ 24 * nds as := join_len (by simp only [List.length_cons, List.length_nil]; omega)
    simp only [tx, nd, List.length_append, List.length_cons, List.length_nil]
    omega
  | .bin o a b, h => by
    have := tx_len hv a h.1
    have := tx_len hv b h.2
    have := par_len (b := decide (a.lv < 4)) (t := tx a)
    have := par_len (b := decide (a.lv < max o.lv 1)) (t := tx a)
    have := par_len (b := decide (b.lv < o.lv + 1)) (t := tx b)
    cases o <;> simp only [tx, nd, KB.sg, List.length_append, List.length_cons, List.length_nil] <;> omega
theorem txs_len {vs : List Nm} (hv : ∀ x ∈ vs, Name x) : ∀ es : List Ex, WEs vs es → ((txs es).map List.length).sum + (txs es).length * 2 ≤ 24 * nds es
  | [], _ => by simp [txs, nds]
  | e :: es, h => by
    have := tx_len hv e h.1
    have := txs_len hv es h.2
    simp only [txs, nds, List.map_cons, List.sum_cons, List.length_cons]
    omega
end
/-! tokens -/
inductive Pcs : Bool → List Nat → Prop
  | nil (b : Bool) : Pcs b []
  | word {w r : List Nat} : w.all aln = true → okW w = true → w ≠ [] → Pcs true r → Pcs false (w ++ r)
  | sg {b : Bool} {c : Nat} {r : List Nat} : (c = 32 ∨ c ∈ SIG) → c ≠ 61 → Pcs false r → Pcs b (c :: r)
  | eq {b : Bool} {r : List Nat} : Pcs false r → Pcs b (61 :: 61 :: r)
theorem sig_aln {c : Nat} (h : c = 32 ∨ c ∈ SIG) : aln c = false := by
  rcases h with rfl | h
  · decide
  · have : SIG.all (fun c => !aln c) = true := by decide
    have := List.all_eq_true.mp this c h
    simpa using this
theorem Pcs.hd : ∀ {r : List Nat}, Pcs true r → r = [] ∨ ∃ c t, r = c :: t ∧ aln c = false := fun {r} h => by
  cases h with
  | nil => exact .inl rfl
  | sg h1 _ _ => exact .inr ⟨_, _, rfl, sig_aln h1⟩
  | eq _ => exact .inr ⟨61, _, rfl, by decide⟩
theorem tw_app {p : Nat → Bool} : ∀ {w r : List Nat}, w.all p = true → (r = [] ∨ ∃ c t, r = c :: t ∧ p c = false) → (w ++ r).takeWhile p = w ∧ (w ++ r).dropWhile p = r
  | [], r, _, h => by
    rcases h with rfl | ⟨c, t, rfl, h⟩
    · exact ⟨rfl, rfl⟩
    · rw [List.nil_append, List.takeWhile_cons, List.dropWhile_cons, h]
      exact ⟨rfl, rfl⟩
  | a :: w, r, hw, h => by
    rw [List.all_cons, Bool.and_eq_true] at hw
    have := tw_app hw.2 h
    rw [List.cons_append, List.takeWhile_cons, List.dropWhile_cons, hw.1]
    exact ⟨by rw [if_pos rfl, this.1], by rw [if_pos rfl, this.2]⟩
theorem Pcs.tok {b : Bool} {s : List Nat} (h : Pcs b s) : ∀ n, s.length ≤ n → (Tk.tk n s).isSome = true := by
  induction h with
  | nil b => intro n _; rw [Tk.tk_nil]; rfl
  | @word w r h1 h2 h3 h4 ih =>
    intro n hn
    cases w with
    | nil => exact absurd rfl h3
    | cons c w =>
      cases n with
      | zero => simp at hn
      | succ n =>
        obtain ⟨e1, e2⟩ := tw_app h1 h4.hd
        rw [List.cons_append] at e1 e2 ⊢
        rw [List.all_cons, Bool.and_eq_true] at h1
        rw [Tk.tk, if_pos h1.1, e1, e2, if_pos h2, Option.isSome_map]
        refine ih n ?_
        simp only [List.cons_append, List.length_cons, List.length_append] at hn
        omega
  | @sg b c r h1 h2 h3 ih =>
    intro n hn
    cases n with
    | zero => simp at hn
    | succ n =>
      rw [List.length_cons] at hn
      have := ih n (by omega)
      have ha := sig_aln h1
      rw [Tk.tk, if_neg (by rw [ha]; decide)]
      split
      · exact this
      · rename_i h32
        rw [if_pos (h1.resolve_left h32), if_neg, Option.isSome_map]
        · exact this
        · cases r <;> simp [h2]
  | @eq b r h3 ih =>
    intro n hn
    cases n with
    | zero => simp at hn
    | succ n =>
      simp only [List.length_cons] at hn
      rw [Tk.tk, if_neg (by decide), if_neg (by decide), if_pos (by decide), if_pos (show (61 :: 61 :: r).take 2 = [61, 61] from rfl), Option.isSome_map]
      exact ih n (by omega)
theorem Pcs.weak {s : List Nat} (h : Pcs true s) : Pcs false s := by
  cases h with
  | nil => exact .nil _
  | sg h1 h2 h3 => exact .sg h1 h2 h3
  | eq h => exact .eq h
theorem Pcs.app {b : Bool} {s t : List Nat} (h : Pcs b s) (ht : Pcs true t) : Pcs b (s ++ t) := by
  induction h with
  | nil b => cases b with
    | true => exact ht
    | false => exact ht.weak
  | word h1 h2 h3 h4 ih => rw [List.append_assoc]; exact .word h1 h2 h3 ih
  | sg h1 h2 h3 ih => exact .sg h1 h2 ih
  | eq h3 ih => exact .eq ih
theorem Pcs.wd {w : List Nat} (h1 : w.all aln = true) (h2 : okW w = true) (h3 : w ≠ []) : Pcs false w := by
  have := Pcs.word h1 h2 h3 (.nil true)
  rwa [List.append_nil] at this
theorem Name.pcs {x : Nm} (h : Name x) : Pcs false x := .wd h.aln h.ok h.ne
theorem Pcs.par {b : Bool} {t : List Nat} (h : Pcs false t) : Pcs false (Sx.par b t) := by
  unfold Sx.par
  split
  · exact .sg (.inr (by decide)) (by decide) (h.app (.sg (.inr (by decide)) (by decide) (.nil _)))
  · exact h
theorem Pcs.join : ∀ {l : List (List Nat)}, (∀ t ∈ l, Pcs false t) → Pcs false (joinS [44, 32] l)
  | [], _ => .nil _
  | [a], h => h a (by simp)
  | a :: b :: r, h => by
    rw [joinS, List.append_assoc]
    exact (h a (by simp)).app (.sg (.inr (by decide)) (by decide) (.sg (.inl rfl) (by decide) (Pcs.join fun t ht => h t (by simp [ht]))))
mutual
theorem tx_pcs {vs : List Nm} (hv : ∀ x ∈ vs, Name x) : ∀ e : Ex, WE vs e → Pcs false (tx e)
  | .num n, h => by
    obtain ⟨_, h1, h2, h3⟩ := num_chk n h
    exact .wd h1 h2 h3
  | .var x, h => (hv x h).pcs
  | .wd k, h => by cases k <;> exact .wd (by decide) (by decide) (by decide)
  | .call k f as, h => by
    obtain ⟨h1, h2, h3⟩ := h
    have hj := Pcs.join (txs_pcs hv as h3)
    have : Pcs false (f ++ [40] ++ joinS [44, 32] (txs as) ++ [41]) := by
      rw [List.append_assoc, List.append_assoc]
      exact h1.pcs.app (.sg (.inr (by decide)) (by decide) (hj.app (.sg (.inr (by decide)) (by decide) (.nil _))))
    cases k with
    | call => exact this
    | bind =>
      have h2 := Pcs.word (w := [98, 105, 110, 100]) (by decide) (by decide) (by decide) (.sg (.inl rfl) (by decide) this)
      simpa [tx] using h2
  | .list as, h => by
    have hj := Pcs.join (txs_pcs hv as h.2)
    show Pcs false (91 :: _)
    exact .sg (.inr (by decide)) (by decide) (hj.app (.sg (.inr (by decide)) (by decide) (.nil _)))
  | .un k e, h => by
    have := (tx_pcs hv e h).par (b := decide (e.lv < 3))
    cases k
    · exact Pcs.word (w := [108, 101, 110]) (by decide) (by decide) (by decide) (.sg (.inl rfl) (by decide) this)
    · exact Pcs.word (w := [107, 105, 110, 100]) (by decide) (by decide) (by decide) (.sg (.inl rfl) (by decide) this)
  | .fld e x, h => by
    have := (tx_pcs hv e h.1).par (b := decide (e.lv < 4))
    rw [tx, List.append_assoc]
    exact this.app (.sg (.inr (by decide)) (by decide) h.2.pcs)
  | .app e as, h => by
    have hj := Pcs.join (txs_pcs hv as h.2.2)
    have := (tx_pcs hv e h.1).par (b := decide (e.lv < 4))
    rw [tx, List.append_assoc, List.append_assoc]
    exact this.app (.sg (.inr (by decide)) (by decide) (.sg (.inr (by decide)) (by decide) (hj.app (.sg (.inr (by decide)) (by decide) (.nil _)))))
  | .bin o a b, h => by
    have h1 := tx_pcs hv a h.1
    have h2 := tx_pcs hv b h.2
    cases o with
    | item =>
      rw [tx, List.append_assoc, List.append_assoc]
      exact h1.par.app (.sg (.inr (by decide)) (by decide) (h2.app (.sg (.inr (by decide)) (by decide) (.nil _))))
    | same =>
      simp only [tx]
      rw [List.append_assoc]
      exact h1.par.app (.sg (.inl rfl) (by decide) (.eq (.sg (.inl rfl) (by decide) h2.par)))
    | _ =>
      simp only [tx]
      rw [List.append_assoc]
      exact h1.par.app (.sg (.inl rfl) (by decide) (.sg (.inr (by decide)) (by decide) (.sg (.inl rfl) (by decide) h2.par)))
theorem txs_pcs {vs : List Nm} (hv : ∀ x ∈ vs, Name x) : ∀ es : List Ex, WEs vs es → ∀ t ∈ txs es, Pcs false t
  | [], _, t, h => by cases h
  | e :: es, h, t, ht => by
    rw [txs] at ht
    rcases List.mem_cons.mp ht with rfl | ht
    · exact tx_pcs hv e h.1
    · exact txs_pcs hv es h.2 t ht
end
end Sx

/-! Statements and functions of the small language. -/
namespace Sx
open PySem PX Tk
inductive K1 where
  | ret | throw | say | do_
  deriving DecidableEq
def K1.w : K1 → Nm
  | .ret => [114, 101, 116, 117, 114, 110]
  | .throw => [116, 104, 114, 111, 119]
  | .say => [115, 97, 121]
  | .do_ => [100, 111]
inductive St where
  | rest
  | one (k : K1) (e : Ex)
  | set (x : Nm) (e : Ex)
  | push (a b : Ex)
  | store (a : Ex) (f : Nm) (b : Ex)
  | place (a b c : Ex)
  | go (f : Nm) (as : List Ex)
  | whl (e : Ex) (b : List St)
  | try_ (b : List St) (x : Nm) (c : List St)
  | ite (e : Ex) (b c : List St)
  deriving Inhabited
mutual
def dS : St → D
  | .rest => .tup [.str [114, 101, 115, 116]]
  | .one k e => .tup [.str k.w, dE e]
  | .set x e => .tup [.str [115, 101, 116], .str x, dE e]
  | .push a b => .tup [.str [112, 117, 115, 104], dE a, dE b]
  | .store a f b => .tup [.str [115, 116, 111, 114, 101], dE a, .str f, dE b]
  | .place a b c => .tup [.str [112, 108, 97, 99, 101], dE a, dE b, dE c]
  | .go f as => .tup [.str [103, 111], .str f, .tup (dEs as)]
  | .whl e b => .tup [.str [119, 104, 105, 108, 101], dE e, .tup (dSs b)]
  | .try_ b x c => .tup [.str [116, 114, 121], .tup (dSs b), .str x, .tup (dSs c)]
  | .ite e b c => .tup [.str [105, 102], dE e, .tup (dSs b), .tup (dSs c)]
def dSs : List St → List D
  | [] => []
  | s :: r => dS s :: dSs r
end
theorem dSs_map : ∀ b : List St, dSs b = b.map dS
  | [] => rfl
  | e :: es => by rw [dSs, dSs_map es]; rfl
theorem dSs_len {b : List St} : (dSs b).length = b.length := by rw [dSs_map, List.length_map]
/-- the text of a statement without a block -/
def sl : St → List Nat
  | .rest => [114, 101, 115, 116]
  | .one .do_ e => tx e
  | .one k e => k.w ++ [32] ++ tx e
  | .set x e => x ++ [32, 61, 32] ++ tx e
  | .push a b => [112, 117, 115, 104, 32] ++ tx a ++ [44, 32] ++ tx b
  | .store a f b => tp 4 a ++ [46] ++ f ++ [32, 61, 32] ++ tx b
  | .place a b c => tp 4 a ++ [91] ++ tx b ++ [93, 32, 61, 32] ++ tx c
  | .go f as => [103, 111, 32] ++ f ++ [40] ++ joinS [44, 32] (txs as) ++ [41]
  | _ => []
mutual
def ln : St → List Nat → List (List Nat)
  | .whl e b, pad => [pad ++ [119, 104, 105, 108, 101, 32] ++ tx e] ++ lns b (pad ++ [32, 32]) ++ [pad ++ [101, 110, 100]]
  | .try_ b x c, pad => [pad ++ [116, 114, 121]] ++ lns b (pad ++ [32, 32]) ++ [pad ++ [99, 97, 116, 99, 104, 32] ++ x] ++ lns c (pad ++ [32, 32]) ++ [pad ++ [101, 110, 100]]
  | .ite e b [], pad => [pad ++ [105, 102, 32] ++ tx e] ++ lns b (pad ++ [32, 32]) ++ [pad ++ [101, 110, 100]]
  | .ite e b (c :: cs), pad => [pad ++ [105, 102, 32] ++ tx e] ++ lns b (pad ++ [32, 32]) ++ [pad ++ [101, 108, 115, 101]] ++ (ln c (pad ++ [32, 32]) ++ lns cs (pad ++ [32, 32])) ++ [pad ++ [101, 110, 100]]
  | .rest, pad => [pad ++ sl .rest]
  | .one k e, pad => [pad ++ sl (.one k e)]
  | .set x e, pad => [pad ++ sl (.set x e)]
  | .push a b, pad => [pad ++ sl (.push a b)]
  | .store a f b, pad => [pad ++ sl (.store a f b)]
  | .place a b c, pad => [pad ++ sl (.place a b c)]
  | .go f as, pad => [pad ++ sl (.go f as)]
def lns : List St → List Nat → List (List Nat)
  | [], _ => []
  | s :: r, pad => ln s pad ++ lns r pad
end
theorem lns_app : ∀ (a b : List St) (pad : List Nat), lns (a ++ b) pad = lns a pad ++ lns b pad
  | [], b, pad => rfl
  | s :: r, b, pad => by rw [List.cons_append, lns, lns, lns_app r b pad, List.append_assoc]
/-! how many lines -/
mutual
def ll : St → Nat
  | .whl _ b => 2 + lls b
  | .try_ b _ c => 3 + lls b + lls c
  | .ite _ b [] => 2 + lls b
  | .ite _ b (c :: cs) => 3 + lls b + (ll c + lls cs)
  | .rest => 1
  | .one _ _ => 1
  | .set _ _ => 1
  | .push _ _ => 1
  | .store _ _ _ => 1
  | .place _ _ _ => 1
  | .go _ _ => 1
def lls : List St → Nat
  | [] => 0
  | s :: r => ll s + lls r
end
mutual
theorem ln_len : ∀ (s : St) (pad : List Nat), (ln s pad).length = ll s
  | .whl e b, pad => by simp only [ln, ll, List.length_append, List.length_cons, List.length_nil, lns_len b]; omega
  | .try_ b x c, pad => by simp only [ln, ll, List.length_append, List.length_cons, List.length_nil, lns_len b, lns_len c]; omega
  | .ite e b [], pad => by simp only [ln, ll, List.length_append, List.length_cons, List.length_nil, lns_len b]; omega
  | .ite e b (c :: cs), pad => by simp only [ln, ll, List.length_append, List.length_cons, List.length_nil, lns_len b, ln_len c, lns_len cs]; omega
  | .rest, _ => rfl
  | .one _ _, _ => rfl
  | .set _ _, _ => rfl
  | .push _ _, _ => rfl
  | .store _ _ _, _ => rfl
  | .place _ _ _, _ => rfl
  | .go _ _, _ => rfl
theorem lns_len : ∀ (b : List St) (pad : List Nat), (lns b pad).length = lls b
  | [], _ => rfl
  | s :: r, pad => by rw [lns, lls, List.length_append, ln_len s, lns_len r]
end
theorem lls_app : ∀ (a b : List St), lls (a ++ b) = lls a + lls b
  | [], b => by simp [lls]
  | s :: r, b => by rw [List.cons_append, lls, lls, lls_app r b]; omega
/-! how deep -/
mutual
def bd : St → Nat
  | .whl _ b => 1 + bds b
  | .try_ b _ c => 1 + max (bds b) (bds c)
  | .ite _ b c => 1 + max (bds b) (bds c)
  | _ => 0
def bds : List St → Nat
  | [] => 0
  | s :: r => max (bd s) (bds r)
end
theorem bds_le : ∀ {b : List St} {d : Nat}, bds b ≤ d → ∀ s ∈ b, bd s ≤ d
  | a :: r, d, h, e, he => by
    rw [bds] at h
    rcases List.mem_cons.mp he with rfl | he
    · omega
    · exact bds_le (by omega) e he
theorem bds_of : ∀ {b : List St} {d : Nat}, (∀ s ∈ b, bd s ≤ d) → bds b ≤ d
  | [], d, _ => Nat.zero_le _
  | a :: r, d, h => by
    rw [bds]
    have := h a (by simp)
    have := bds_of (b := r) fun e he => h e (by simp [he])
    omega
theorem lls_le : ∀ {b : List St} {d : Nat}, lls b ≤ d → ∀ s ∈ b, ll s ≤ d
  | a :: r, d, h, e, he => by
    rw [lls] at h
    rcases List.mem_cons.mp he with rfl | he
    · omega
    · exact lls_le (by omega) e he
theorem ll_pos : ∀ s : St, 1 ≤ ll s
  | .whl _ b => by rw [ll]; omega
  | .try_ b _ c => by rw [ll]; omega
  | .ite _ b [] => by rw [ll]; omega
  | .ite _ b (c :: cs) => by rw [ll]; omega
  | .rest => Nat.le_refl _
  | .one _ _ => Nat.le_refl _
  | .set _ _ => Nat.le_refl _
  | .push _ _ => Nat.le_refl _
  | .store _ _ _ => Nat.le_refl _
  | .place _ _ _ => Nat.le_refl _
  | .go _ _ => Nat.le_refl _
theorem lls_len : ∀ b : List St, b.length ≤ lls b
  | [] => Nat.le_refl _
  | s :: r => by
    rw [lls, List.length_cons]
    have := ll_pos s
    have := lls_len r
    omega
/-! over these variables -/
structure EO (vs : List Nm) (e : Ex) : Prop where
  w : WE vs e
  d : dp e ≤ 12
  n : nd e ≤ 61
mutual
def WS (vs : List Nm) : St → Prop
  | .rest => True
  | .one _ e => EO vs e
  | .set x e => x ∈ vs ∧ EO vs e
  | .push a b => EO vs a ∧ EO vs b
  | .store a f b => EO vs a ∧ Name f ∧ EO vs b
  | .place a b c => EO vs a ∧ EO vs b ∧ EO vs c
  | .go f as => Name f ∧ as.length ≤ 3 ∧ ∀ a ∈ as, EO vs a
  | .whl e b => EO vs e ∧ WSs vs b
  | .try_ b x c => WSs vs b ∧ x ∈ vs ∧ WSs vs c
  | .ite e b c => EO vs e ∧ WSs vs b ∧ WSs vs c
def WSs (vs : List Nm) : List St → Prop
  | [] => True
  | s :: r => WS vs s ∧ WSs vs r
end
theorem WSs_all {vs : List Nm} : ∀ {b : List St}, WSs vs b ↔ ∀ s ∈ b, WS vs s
  | [] => ⟨fun _ _ h => absurd h List.not_mem_nil, fun _ => trivial⟩
  | a :: r => by
    rw [WSs, WSs_all (b := r)]
    exact ⟨fun h e he => (List.mem_cons.mp he).elim (fun z => z ▸ h.1) (h.2 e), fun h => ⟨h a (by simp), fun e he => h e (by simp [he])⟩⟩
theorem EO.len {vs : List Nm} (hv : ∀ x ∈ vs, Name x) {e : Ex} (h : EO vs e) : (tx e).length ≤ 1464 := by
  have := tx_len hv e h.w
  have := h.n
  omega
theorem EO.tpl {vs : List Nm} (hv : ∀ x ∈ vs, Name x) {e : Ex} {p : Nat} (h : EO vs e) : (tp p e).length ≤ 1466 := by
  have := h.len hv
  have := par_len (b := decide (e.lv < p)) (t := tx e)
  unfold tp
  omega
/-- three arguments -/
theorem EO.args {vs : List Nm} (hv : ∀ x ∈ vs, Name x) : ∀ {as : List Ex}, (∀ a ∈ as, EO vs a) → WEs vs as ∧ dps as ≤ 12 ∧ nds as ≤ 61 * as.length
  | [], _ => ⟨trivial, Nat.zero_le _, Nat.le_refl _⟩
  | a :: r, h => by
    have h1 := h a (by simp)
    obtain ⟨h2, h3, h4⟩ := EO.args hv (as := r) fun e he => h e (by simp [he])
    have := h1.d
    have := h1.n
    refine ⟨⟨h1.w, h2⟩, ?_, ?_⟩
    · rw [dps]; omega
    · rw [nds, List.length_cons, Nat.mul_add]; omega
theorem sl_len {vs : List Nm} (hv : ∀ x ∈ vs, Name x) {s : St} (h : WS vs s) : (sl s).length ≤ 4500 := by
  cases s with
  | rest => decide
  | one k e =>
    have h : EO vs e := h
    have := h.len hv
    cases k <;> simp only [sl, K1.w, List.length_append, List.length_cons, List.length_nil] <;> omega
  | set x e =>
    obtain ⟨h1, h2⟩ : x ∈ vs ∧ EO vs e := h
    have := h2.len hv
    have := (hv x h1).len
    simp only [sl, List.length_append, List.length_cons, List.length_nil]
    omega
  | push a b =>
    obtain ⟨h1, h2⟩ : EO vs a ∧ EO vs b := h
    have := h1.len hv
    have := h2.len hv
    simp only [sl, List.length_append, List.length_cons, List.length_nil]
    omega
  | store a f b =>
    obtain ⟨h1, h3, h2⟩ : EO vs a ∧ Name f ∧ EO vs b := h
    have := h1.tpl hv (p := 4)
    have := h2.len hv
    have := h3.len
    simp only [sl, List.length_append, List.length_cons, List.length_nil]
    omega
  | place a b c =>
    obtain ⟨h1, h2, h3⟩ : EO vs a ∧ EO vs b ∧ EO vs c := h
    have := h1.tpl hv (p := 4)
    have := h2.len hv
    have := h3.len hv
    simp only [sl, List.length_append, List.length_cons, List.length_nil]
    omega
  | go f as =>
    obtain ⟨h1, h2, h3⟩ : Name f ∧ as.length ≤ 3 ∧ ∀ a ∈ as, EO vs a := h
    obtain ⟨g1, _, g3⟩ := EO.args hv h3
    have := h1.len
    have := txs_len hv as g1
    have : (joinS [44, 32] (txs as)).length ≤ 24 * nds as := join_len (by simp only [List.length_cons, List.length_nil]; omega)
    simp only [sl, List.length_append, List.length_cons, List.length_nil]
    omega
  | _ => exact Nat.zero_le _
/-! no line is long -/
mutual
theorem ln_long {vs : List Nm} (hv : ∀ x ∈ vs, Name x) : ∀ (s : St) (pad : List Nat), WS vs s → ∀ t ∈ ln s pad, t.length ≤ pad.length + 2 * bd s + 4500
  | .whl e b, pad, h, t, ht => by
    have := h.1.len hv
    simp only [ln, List.mem_append, List.mem_singleton] at ht
    simp only [bd]
    rcases ht with (rfl | ht) | rfl
    · simp only [List.length_append, List.length_cons, List.length_nil]; omega
    · have := lns_long hv b _ h.2 t ht
      simp only [List.length_append, List.length_cons, List.length_nil] at this
      omega
    · simp only [List.length_append, List.length_cons, List.length_nil]; omega
  | .try_ b x c, pad, h, t, ht => by
    have := (hv x h.2.1).len
    simp only [ln, List.mem_append, List.mem_singleton] at ht
    simp only [bd]
    rcases ht with (((rfl | ht) | rfl) | ht) | rfl
    · simp only [List.length_append, List.length_cons, List.length_nil]; omega
    · have := lns_long hv b _ h.1 t ht
      simp only [List.length_append, List.length_cons, List.length_nil] at this
      omega
    · simp only [List.length_append, List.length_cons, List.length_nil]; omega
    · have := lns_long hv c _ h.2.2 t ht
      simp only [List.length_append, List.length_cons, List.length_nil] at this
      omega
    · simp only [List.length_append, List.length_cons, List.length_nil]; omega
  | .ite e b [], pad, h, t, ht => by
    have := h.1.len hv
    simp only [ln, List.mem_append, List.mem_singleton] at ht
    simp only [bd]
    rcases ht with (rfl | ht) | rfl
    · simp only [List.length_append, List.length_cons, List.length_nil]; omega
    · have := lns_long hv b _ h.2.1 t ht
      simp only [List.length_append, List.length_cons, List.length_nil] at this
      omega
    · simp only [List.length_append, List.length_cons, List.length_nil]; omega
  | .ite e b (c :: cs), pad, h, t, ht => by
    have := h.1.len hv
    simp only [ln, List.mem_append, List.mem_singleton] at ht
    simp only [bd, bds]
    rcases ht with (((rfl | ht) | rfl) | ht | ht) | rfl
    · simp only [List.length_append, List.length_cons, List.length_nil]; omega
    · have := lns_long hv b _ h.2.1 t ht
      simp only [List.length_append, List.length_cons, List.length_nil] at this
      omega
    · simp only [List.length_append, List.length_cons, List.length_nil]; omega
    · have := ln_long hv c _ h.2.2.1 t ht
      simp only [List.length_append, List.length_cons, List.length_nil] at this
      omega
    · have := lns_long hv cs _ h.2.2.2 t ht
      simp only [List.length_append, List.length_cons, List.length_nil] at this
      omega
    · simp only [List.length_append, List.length_cons, List.length_nil]; omega
  | .rest, pad, h, t, ht => by have := sl_len hv h; rw [List.mem_singleton.mp ht, List.length_append]; omega
  | .one _ _, pad, h, t, ht => by have := sl_len hv h; rw [List.mem_singleton.mp ht, List.length_append]; omega
  | .set _ _, pad, h, t, ht => by have := sl_len hv h; rw [List.mem_singleton.mp ht, List.length_append]; omega
  | .push _ _, pad, h, t, ht => by have := sl_len hv h; rw [List.mem_singleton.mp ht, List.length_append]; omega
  | .store _ _ _, pad, h, t, ht => by have := sl_len hv h; rw [List.mem_singleton.mp ht, List.length_append]; omega
  | .place _ _ _, pad, h, t, ht => by have := sl_len hv h; rw [List.mem_singleton.mp ht, List.length_append]; omega
  | .go _ _, pad, h, t, ht => by have := sl_len hv h; rw [List.mem_singleton.mp ht, List.length_append]; omega
theorem lns_long {vs : List Nm} (hv : ∀ x ∈ vs, Name x) : ∀ (b : List St) (pad : List Nat), WSs vs b → ∀ t ∈ lns b pad, t.length ≤ pad.length + 2 * bds b + 4500
  | [], _, _, t, ht => by cases ht
  | s :: r, pad, h, t, ht => by
    rw [lns] at ht
    rw [bds]
    rcases List.mem_append.mp ht with ht | ht
    · have := ln_long hv s pad h.1 t ht; omega
    · have := lns_long hv r pad h.2 t ht; omega
end
/-! no references, not too deep -/
mutual
theorem res_dE {r : Nat → Option D} : ∀ e : Ex, resW r (dE e) = some (dE e)
  | .num n => rfl
  | .var x => rfl
  | .wd k => rfl
  | .call k f as => by simp only [dE, resW, resWs, res_dEs as, Option.map_some]
  | .list as => by simp only [dE, resW, resWs, res_dEs as, Option.map_some]
  | .un k e => by simp only [dE, resW, resWs, res_dE e, Option.map_some]
  | .fld e x => by simp only [dE, resW, resWs, res_dE e, Option.map_some]
  | .app e as => by simp only [dE, resW, resWs, res_dE e, res_dEs as, Option.map_some]
  | .bin o a b => by simp only [dE, resW, resWs, res_dE a, res_dE b, Option.map_some]
theorem res_dEs {r : Nat → Option D} : ∀ es : List Ex, resWs r (dEs es) = some (dEs es)
  | [] => rfl
  | e :: es => by simp only [dEs, resWs, res_dE e, res_dEs es]
end
mutual
theorem res_dS {r : Nat → Option D} : ∀ s : St, resW r (dS s) = some (dS s)
  | .rest => rfl
  | .one k e => by simp only [dS, resW, resWs, res_dE e, Option.map_some]
  | .set x e => by simp only [dS, resW, resWs, res_dE e, Option.map_some]
  | .push a b => by simp only [dS, resW, resWs, res_dE a, res_dE b, Option.map_some]
  | .store a f b => by simp only [dS, resW, resWs, res_dE a, res_dE b, Option.map_some]
  | .place a b c => by simp only [dS, resW, resWs, res_dE a, res_dE b, res_dE c, Option.map_some]
  | .go f as => by simp only [dS, resW, resWs, res_dEs as, Option.map_some]
  | .whl e b => by simp only [dS, resW, resWs, res_dE e, res_dSs b, Option.map_some]
  | .try_ b x c => by simp only [dS, resW, resWs, res_dSs b, res_dSs c, Option.map_some]
  | .ite e b c => by simp only [dS, resW, resWs, res_dE e, res_dSs b, res_dSs c, Option.map_some]
theorem res_dSs {r : Nat → Option D} : ∀ b : List St, resWs r (dSs b) = some (dSs b)
  | [] => rfl
  | s :: b => by simp only [dSs, resWs, res_dS s, res_dSs b]
end
mutual
theorem nob_dE : ∀ (e : Ex) (k : Nat), 2 * dp e ≤ k → nob k (dE e) = true
  | .num n, k + 1, h => by simp only [dE, nob, nobs, Bool.and_self]
  | .var x, k + 1, h => by simp only [dE, nob, nobs, Bool.and_self]
  | .wd w, k + 1, h => by simp only [dE, nob, nobs, Bool.and_self]
  | .call w f as, k + 2, h => by simp only [dE, nob, nobs, nobs_dE as k (by simp only [dp] at h; omega), Bool.and_self]
  | .list as, k + 2, h => by simp only [dE, nob, nobs, nobs_dE as k (by simp only [dp] at h; omega), Bool.and_self]
  | .un w e, k + 1, h => by simp only [dE, nob, nobs, nob_dE e k (by simp only [dp] at h; omega), Bool.and_self]
  | .fld e x, k + 1, h => by simp only [dE, nob, nobs, nob_dE e k (by simp only [dp] at h; omega), Bool.and_self]
  | .app e as, k + 2, h => by simp only [dE, nob, nobs, nob_dE e (k + 1) (by simp only [dp] at h; omega), nobs_dE as k (by simp only [dp] at h; omega), Bool.and_self]
  | .bin o a b, k + 1, h => by simp only [dE, nob, nobs, nob_dE a k (by simp only [dp] at h; omega), nob_dE b k (by simp only [dp] at h; omega), Bool.and_self]
  | .call _ _ _, 0, h => by simp only [dp] at h; omega
  | .call _ _ _, 1, h => by simp only [dp] at h; omega
  | .list _, 0, h => by simp only [dp] at h; omega
  | .list _, 1, h => by simp only [dp] at h; omega
  | .app _ _, 0, h => by simp only [dp] at h; omega
  | .app _ _, 1, h => by simp only [dp] at h; omega
  | .num _, 0, h => by simp only [dp] at h; omega
  | .var _, 0, h => by simp only [dp] at h; omega
  | .wd _, 0, h => by simp only [dp] at h; omega
  | .un _ _, 0, h => by simp only [dp] at h; omega
  | .fld _ _, 0, h => by simp only [dp] at h; omega
  | .bin _ _ _, 0, h => by simp only [dp] at h; omega
theorem nobs_dE : ∀ (es : List Ex) (k : Nat), 2 * dps es ≤ k → nobs k (dEs es) = true
  | [], k, _ => by simp only [dEs, nobs]
  | e :: es, k, h => by simp only [dEs, nobs, nob_dE e k (by simp only [dps] at h; omega), nobs_dE es k (by simp only [dps] at h; omega), Bool.and_self]
end
mutual
theorem nob_dS {vs : List Nm} : ∀ (s : St) (k : Nat), WS vs s → 2 * bd s + 26 ≤ k → nob k (dS s) = true
  | _, 0, _, h => by omega
  | _, 1, _, h => by omega
  | .rest, k + 2, _, h => by simp only [dS, nob, nobs, Bool.and_self]
  | .one w e, k + 2, hw, h => by simp only [dS, nob, nobs, nob_dE e (k + 1) (by have := EO.d (show EO vs e from hw); omega), Bool.and_self]
  | .set x e, k + 2, hw, h => by simp only [dS, nob, nobs, nob_dE e (k + 1) (by have := hw.2.d; omega), Bool.and_self]
  | .push a b, k + 2, hw, h => by simp only [dS, nob, nobs, nob_dE a (k + 1) (by have := hw.1.d; omega), nob_dE b (k + 1) (by have := hw.2.d; omega), Bool.and_self]
  | .store a f b, k + 2, hw, h => by simp only [dS, nob, nobs, nob_dE a (k + 1) (by have := hw.1.d; omega), nob_dE b (k + 1) (by have := hw.2.2.d; omega), Bool.and_self]
  | .place a b c, k + 2, hw, h => by simp only [dS, nob, nobs, nob_dE a (k + 1) (by have := hw.1.d; omega), nob_dE b (k + 1) (by have := hw.2.1.d; omega), nob_dE c (k + 1) (by have := hw.2.2.d; omega), Bool.and_self]
  | .go f as, k + 2, hw, h => by simp only [dS, nob, nobs, nobs_dE as k (by have := dps_of (es := as) (d := 12) fun a ha => (hw.2.2 a ha).d; omega), Bool.and_self]
  | .whl e b, k + 2, hw, h => by
    simp only [bd] at h
    simp only [dS, nob, nobs, nob_dE e (k + 1) (by have := hw.1.d; omega), nobs_dS b k hw.2 (by omega), Bool.and_self]
  | .try_ b x c, k + 2, hw, h => by
    simp only [bd] at h
    simp only [dS, nob, nobs, nobs_dS b k hw.1 (by omega), nobs_dS c k hw.2.2 (by omega), Bool.and_self]
  | .ite e b c, k + 2, hw, h => by
    simp only [bd] at h
    simp only [dS, nob, nobs, nob_dE e (k + 1) (by have := hw.1.d; omega), nobs_dS b k hw.2.1 (by omega), nobs_dS c k hw.2.2 (by omega), Bool.and_self]
theorem nobs_dS {vs : List Nm} : ∀ (b : List St) (k : Nat), WSs vs b → 2 * bds b + 26 ≤ k → nobs k (dSs b) = true
  | [], k, _, _ => by simp only [dSs, nobs]
  | s :: r, k, hw, h => by
    simp only [bds] at h
    simp only [dSs, nobs, nob_dS s k hw.1 (by omega), nobs_dS r k hw.2 (by omega), Bool.and_self]
end
/-- a tree is compared with the empty tuple -/
theorem ne_unit {s : Sto} {x : D} (h1 : resW (fun n => match s[n]? with
    | some (.lst xs) => (resWs (fun m => res s 2 (.ref m)) xs).map .fl
    | _ => none) x = some x) (h2 : nob 40 x = true) (h3 : ∃ xs, x = .tup xs) : cmpD s .NotEq x (.tup []) = some (!decide (x = .tup [])) := by
  obtain ⟨xs, rfl⟩ := h3
  show (eqD s (.tup xs) (.tup [])).map _ = _
  have e1 : res s 3 (.tup xs) = some (.tup xs) := h1
  have e2 : res s 3 (.tup []) = some (.tup []) := rfl
  have : eqD s (.tup xs) (.tup []) = some (decide (D.tup xs = .tup [])) := by
    show eqDeep s _ _ = _
    unfold eqDeep
    rw [e1, e2]
    have h3 : nob 40 (.tup []) = true := rfl
    dsimp only
    rw [h2, h3]
    rfl
  rw [this]
  rfl
/-- an item of a statement's tuple -/
inductive It where
  | e (e : Ex) | s (x : Nm) | es (as : List Ex) | ss (b : List St)
def dI : It → D
  | .e e => dE e
  | .s x => .str x
  | .es as => .tup (dEs as)
  | .ss b => .tup (dSs b)
def WI (vs : List Nm) : It → Prop
  | .e e => EO vs e
  | .s _ => True
  | .es as => as.length ≤ 3 ∧ ∀ a ∈ as, EO vs a
  | .ss b => WSs vs b ∧ bds b ≤ 5
def itx : It → Option (List Nat)
  | .e e => some (tx e)
  | _ => none
/-- the last sign of a text is none that rstrip takes -/
def NoWs (t : List Nat) : Prop := ∃ a c, t = a ++ [c] ∧ 33 ≤ c ∧ c < 127
/-- a function -/
structure Fu where
  name : Nm
  ps : List Nm
  body : List St
  deriving Inhabited
def dF (f : Fu) : D := .tup [.str [102, 117, 110], .str f.name, .tup (f.ps.map .str), .tup (dSs f.body)]
def tF (f : Fu) : List (List Nat) := [joinS [32] ([[102, 117, 110], f.name] ++ f.ps)] ++ lns f.body [32, 32] ++ [[101, 110, 100]]
/-- its text in the one form -/
def tFn (f : Fu) : List Nat := joinS [10] (tF f) ++ [10]
structure WF (f : Fu) : Prop where
  nm : Name f.name
  vs : ∃ vs, (∀ x ∈ vs, Name x) ∧ WSs vs f.body
  ps : f.ps.length ≤ 5 ∧ ∀ x ∈ f.ps, Name x
  bd : bds f.body ≤ 6
  ll : lls f.body ≤ 38
theorem sum_le {l : List (List Nat)} {K : Nat} (h : ∀ t ∈ l, t.length ≤ K) : (l.map List.length).sum ≤ l.length * K := by
  induction l with
  | nil => simp
  | cons a r ih =>
    have := h a (by simp)
    have := ih fun t ht => h t (by simp [ht])
    simp only [List.map_cons, List.sum_cons, List.length_cons, Nat.add_mul, Nat.one_mul]
    omega
theorem WF.heading {f : Fu} (w : WF f) : ((([[102, 117, 110], f.name] ++ f.ps).map List.length).sum ≤ 51) ∧ (joinS [32] ([[102, 117, 110], f.name] ++ f.ps)).length ≤ 70 := by
  have h1 := w.nm.len
  have h2 := sum_le (l := f.ps) (K := 8) fun x hx => (w.ps.2 x hx).len
  have h3 := w.ps.1
  have : (([[102, 117, 110], f.name] ++ f.ps).map List.length).sum ≤ 51 := by
    simp only [List.cons_append, List.nil_append, List.map_cons, List.sum_cons, List.length_cons, List.length_nil]
    omega
  refine ⟨this, join_len ?_⟩
  simp only [List.length_append, List.length_cons, List.length_nil]
  simp only [List.cons_append, List.nil_append] at this ⊢
  omega
theorem WF.lines {f : Fu} (w : WF f) : (tF f).length ≤ 40 ∧ ∀ t ∈ tF f, t.length ≤ 4600 := by
  obtain ⟨vs, h1, h2⟩ := w.vs
  have h3 := w.ll
  have h4 := w.bd
  unfold tF
  refine ⟨by simp only [List.length_append, List.length_singleton, lns_len]; omega, fun t ht => ?_⟩
  simp only [List.mem_append, List.mem_singleton] at ht
  rcases ht with (rfl | ht) | rfl
  · have := w.heading.2; omega
  · have := lns_long h1 f.body [32, 32] h2 t ht
    simp only [List.length_cons, List.length_nil] at this
    omega
  · simp
theorem WF.sum {f : Fu} (w : WF f) : ((tF f).map List.length).sum + (tF f).length * 1 ≤ 190000 := by
  obtain ⟨h1, h2⟩ := w.lines
  have h3 := sum_le h2
  have : (tF f).length * 4600 ≤ 40 * 4600 := Nat.mul_le_mul_right _ h1
  omega
theorem WF.len {f : Fu} (w : WF f) : (tFn f).length ≤ 190001 := by
  have : (joinS [10] (tF f)).length ≤ 190000 := join_len (by have := w.sum; simp only [List.length_singleton]; exact this)
  unfold tFn
  rw [List.length_append, List.length_singleton]
  omega
end Sx

namespace K01
open PySem PySem.Spec PyProof.Rows L2 PX
def topS (i : Nat) : Stmt := PySem.Challenge.pw_warmmill_k01_one_form_shown.main.body.getD i (.Pass ⟨0, 0, 0, 0⟩)
def c_SIGNS : D := .fd [.str [97, 100, 100], .str [115, 117, 98], .str [109, 117, 108], .str [108, 101, 115, 115], .str [115, 97, 109, 101]] [.str [43], .str [45], .str [42], .str [60], .str [61, 61]]
def c_LEVELS : D := .fd [.str [108, 101, 115, 115], .str [115, 97, 109, 101], .str [97, 100, 100], .str [115, 117, 98], .str [109, 117, 108], .str [108, 101, 110], .str [107, 105, 110, 100]] [.int 0, .int 0, .int 1, .int 1, .int 2, .int 3, .int 3]
def c_HIGHEST_LEVEL : D := .int 4
def c_OPERAND_LEVELS : D := .fd [.str [108, 101, 115, 115], .str [115, 97, 109, 101], .str [97, 100, 100], .str [115, 117, 98], .str [109, 117, 108]] [.tup [.int 1, .int 1], .tup [.int 1, .int 1], .tup [.int 1, .int 2], .tup [.int 1, .int 2], .tup [.int 2, .int 3]]
def c_PREFIX_LEVEL : D := .int 3
def c_SUFFIX_LEVEL : D := .int 4
def c_INDENT : D := .str [32, 32]
def b_expression_text_1_2 : List ST := [.ret (.var 2)]
def b_expression_text_2 : List ST := [.ret (.bin .Add (.bin .Add (.lit (.str [40])) (.var 2)) (.lit (.str [41])))]
def b_expression_text_1_1 : List ST := .ite (.cmp .Lt (.meth .get2 (.lit (K01.c_LEVELS)) [(.ix (.var 0) (.lit (.int 0))), (.lit (K01.c_HIGHEST_LEVEL))]) (.var 1)) b_expression_text_2 [] :: b_expression_text_1_2
def b_expression_text_1 : List ST := .asg (.nm 2) (.call 2 [(.var 0)]) :: b_expression_text_1_1
def d_expression_text : DefT := ⟨"expression_text", "expression_text", topS 8, ["tree", "level", "text"], ["tree", "level"], [], ⟨2, 3, b_expression_text_1⟩⟩
def l_arguments_text_1 : EX := (.call 0 [(.var 1), (.lit (.int 0))])
def i_arguments_text_1 : List EX := []
def b_arguments_text_1 : List ST := [.ret (.meth .join (.lit (.str [44, 32])) [(.lc [1] (.nm 1) .seq [(.var 0)] i_arguments_text_1 l_arguments_text_1)])]
def d_arguments_text : DefT := ⟨"arguments_text", "arguments_text", topS 9, ["trees", "tree"], ["trees"], [], ⟨1, 2, b_arguments_text_1⟩⟩
def b_bare_text_1_10 : List ST := [.ret (.var 1)]
def b_bare_text_2 : List ST := [.asg (.tp [(.nm 2), (.nm 3)]) (.ix (.lit (K01.c_OPERAND_LEVELS)) (.var 1)),
  .asg (.nm 4) (.bin .Add (.bin .Add (.lit (.str [32])) (.ix (.lit (K01.c_SIGNS)) (.var 1))) (.lit (.str [32]))),
  .ret (.bin .Add (.bin .Add (.call 0 [(.ix (.var 0) (.lit (.int 1))), (.var 2)]) (.var 4)) (.call 0 [(.ix (.var 0) (.lit (.int 2))), (.var 3)]))]
def b_bare_text_1_9 : List ST := .ite (.cmp .In (.var 1) (.lit (K01.c_SIGNS))) b_bare_text_2 [] :: b_bare_text_1_10
def b_bare_text_3 : List ST := [.ret (.bin .Add (.bin .Add (.bin .Add (.call 0 [(.ix (.var 0) (.lit (.int 1))), (.lit (K01.c_SUFFIX_LEVEL))]) (.lit (.str [33, 40]))) (.call 1 [(.ix (.var 0) (.lit (.int 2)))])) (.lit (.str [41])))]
def b_bare_text_1_8 : List ST := .ite (.cmp .Eq (.var 1) (.lit (.str [97, 112, 112, 108, 121]))) b_bare_text_3 [] :: b_bare_text_1_9
def b_bare_text_4 : List ST := [.ret (.bin .Add (.bin .Add (.bin .Add (.call 0 [(.ix (.var 0) (.lit (.int 1))), (.lit (K01.c_SUFFIX_LEVEL))]) (.lit (.str [91]))) (.call 0 [(.ix (.var 0) (.lit (.int 2))), (.lit (.int 0))])) (.lit (.str [93])))]
def b_bare_text_1_7 : List ST := .ite (.cmp .Eq (.var 1) (.lit (.str [105, 116, 101, 109]))) b_bare_text_4 [] :: b_bare_text_1_8
def b_bare_text_5 : List ST := [.ret (.bin .Add (.bin .Add (.call 0 [(.ix (.var 0) (.lit (.int 1))), (.lit (K01.c_SUFFIX_LEVEL))]) (.lit (.str [46]))) (.ix (.var 0) (.lit (.int 2))))]
def b_bare_text_1_6 : List ST := .ite (.cmp .Eq (.var 1) (.lit (.str [102, 105, 101, 108, 100]))) b_bare_text_5 [] :: b_bare_text_1_7
def b_bare_text_6 : List ST := [.ret (.bin .Add (.bin .Add (.var 1) (.lit (.str [32]))) (.call 0 [(.ix (.var 0) (.lit (.int 1))), (.lit (K01.c_PREFIX_LEVEL))]))]
def b_bare_text_1_5 : List ST := .ite (.cmp .In (.var 1) (.tup [(.lit (.str [108, 101, 110])), (.lit (.str [107, 105, 110, 100]))])) b_bare_text_6 [] :: b_bare_text_1_6
def b_bare_text_7 : List ST := [.ret (.bin .Add (.bin .Add (.lit (.str [91])) (.call 1 [(.ix (.var 0) (.lit (.int 1)))])) (.lit (.str [93])))]
def b_bare_text_1_4 : List ST := .ite (.cmp .Eq (.var 1) (.lit (.str [108, 105, 115, 116]))) b_bare_text_7 [] :: b_bare_text_1_5
def b_bare_text_8 : List ST := [.ret (.bin .Add (.bin .Add (.bin .Add (.bin .Add (.lit (.str [98, 105, 110, 100, 32])) (.ix (.var 0) (.lit (.int 1)))) (.lit (.str [40]))) (.call 1 [(.ix (.var 0) (.lit (.int 2)))])) (.lit (.str [41])))]
def b_bare_text_1_3 : List ST := .ite (.cmp .Eq (.var 1) (.lit (.str [98, 105, 110, 100]))) b_bare_text_8 [] :: b_bare_text_1_4
def b_bare_text_9 : List ST := [.ret (.bin .Add (.bin .Add (.bin .Add (.ix (.var 0) (.lit (.int 1))) (.lit (.str [40]))) (.call 1 [(.ix (.var 0) (.lit (.int 2)))])) (.lit (.str [41])))]
def b_bare_text_1_2 : List ST := .ite (.cmp .Eq (.var 1) (.lit (.str [99, 97, 108, 108]))) b_bare_text_9 [] :: b_bare_text_1_3
def b_bare_text_10 : List ST := [.ret (.ix (.var 0) (.lit (.int 1)))]
def b_bare_text_1_1 : List ST := .ite (.cmp .Eq (.var 1) (.lit (.str [118, 97, 114]))) b_bare_text_10 [] :: b_bare_text_1_2
def b_bare_text_11 : List ST := [.ret (.blt .str [(.ix (.var 0) (.lit (.int 1)))])]
def b_bare_text_1 : List ST := .asg (.nm 1) (.ix (.var 0) (.lit (.int 0))) ::
  .ite (.cmp .Eq (.var 1) (.lit (.str [110, 117, 109]))) b_bare_text_11 [] :: b_bare_text_1_1
def d_bare_text : DefT := ⟨"bare_text", "bare_text", topS 10, ["tree", "word", "left", "right", "sign"], ["tree"], [], ⟨1, 5, b_bare_text_1⟩⟩
def b_statement_text_1_7 : List ST := [.ret (.var 1)]
def b_statement_text_2 : List ST := [.ret (.call 0 [(.ix (.var 0) (.lit (.int 1))), (.lit (.int 0))])]
def b_statement_text_1_6 : List ST := .ite (.cmp .Eq (.var 1) (.lit (.str [100, 111]))) b_statement_text_2 [] :: b_statement_text_1_7
def b_statement_text_3_1 : List ST := [.ret (.bin .Add (.bin .Add (.var 2) (.lit (.str [32, 61, 32]))) (.call 0 [(.ix (.var 0) (.lit (.int 3))), (.lit (.int 0))]))]
def b_statement_text_3 : List ST := .asg (.nm 2) (.bin .Add (.bin .Add (.bin .Add (.call 0 [(.ix (.var 0) (.lit (.int 1))), (.lit (K01.c_SUFFIX_LEVEL))]) (.lit (.str [91]))) (.call 0 [(.ix (.var 0) (.lit (.int 2))), (.lit (.int 0))])) (.lit (.str [93]))) :: b_statement_text_3_1
def b_statement_text_1_5 : List ST := .ite (.cmp .Eq (.var 1) (.lit (.str [112, 108, 97, 99, 101]))) b_statement_text_3 [] :: b_statement_text_1_6
def b_statement_text_4_1 : List ST := [.ret (.bin .Add (.bin .Add (.var 2) (.lit (.str [32, 61, 32]))) (.call 0 [(.ix (.var 0) (.lit (.int 3))), (.lit (.int 0))]))]
def b_statement_text_4 : List ST := .asg (.nm 2) (.bin .Add (.bin .Add (.call 0 [(.ix (.var 0) (.lit (.int 1))), (.lit (K01.c_SUFFIX_LEVEL))]) (.lit (.str [46]))) (.ix (.var 0) (.lit (.int 2)))) :: b_statement_text_4_1
def b_statement_text_1_4 : List ST := .ite (.cmp .Eq (.var 1) (.lit (.str [115, 116, 111, 114, 101]))) b_statement_text_4 [] :: b_statement_text_1_5
def b_statement_text_5 : List ST := [.ret (.bin .Add (.bin .Add (.ix (.var 0) (.lit (.int 1))) (.lit (.str [32, 61, 32]))) (.call 0 [(.ix (.var 0) (.lit (.int 2))), (.lit (.int 0))]))]
def b_statement_text_1_3 : List ST := .ite (.cmp .Eq (.var 1) (.lit (.str [115, 101, 116]))) b_statement_text_5 [] :: b_statement_text_1_4
def b_statement_text_6 : List ST := [.ret (.bin .Add (.bin .Add (.bin .Add (.lit (.str [112, 117, 115, 104, 32])) (.call 0 [(.ix (.var 0) (.lit (.int 1))), (.lit (.int 0))])) (.lit (.str [44, 32]))) (.call 0 [(.ix (.var 0) (.lit (.int 2))), (.lit (.int 0))]))]
def b_statement_text_1_2 : List ST := .ite (.cmp .Eq (.var 1) (.lit (.str [112, 117, 115, 104]))) b_statement_text_6 [] :: b_statement_text_1_3
def b_statement_text_7 : List ST := [.ret (.bin .Add (.bin .Add (.bin .Add (.bin .Add (.lit (.str [103, 111, 32])) (.ix (.var 0) (.lit (.int 1)))) (.lit (.str [40]))) (.call 1 [(.ix (.var 0) (.lit (.int 2)))])) (.lit (.str [41])))]
def b_statement_text_1_1 : List ST := .ite (.cmp .Eq (.var 1) (.lit (.str [103, 111]))) b_statement_text_7 [] :: b_statement_text_1_2
def b_statement_text_8 : List ST := [.ret (.bin .Add (.bin .Add (.var 1) (.lit (.str [32]))) (.call 0 [(.ix (.var 0) (.lit (.int 1))), (.lit (.int 0))]))]
def b_statement_text_1 : List ST := .asg (.nm 1) (.ix (.var 0) (.lit (.int 0))) ::
  .ite (.cmp .In (.var 1) (.tup [(.lit (.str [114, 101, 116, 117, 114, 110])), (.lit (.str [116, 104, 114, 111, 119])), (.lit (.str [115, 97, 121]))])) b_statement_text_8 [] :: b_statement_text_1_1
def d_statement_text : DefT := ⟨"statement_text", "statement_text", topS 11, ["tree", "word", "target"], ["tree"], [], ⟨1, 3, b_statement_text_1⟩⟩
def b_block_lines_1_1 : List ST := [.ret (.var 2)]
def b_block_lines_3_3 : List ST := [.expr (.meth .append (.var 2) [(.bin .Add (.var 1) (.lit (.str [101, 110, 100])))])]
def b_block_lines_4 : List ST := [.expr (.meth .append (.var 2) [(.bin .Add (.var 1) (.lit (.str [101, 108, 115, 101])))]),
  .expr (.meth .extend (.var 2) [(.call 4 [(.ix (.var 3) (.lit (.int 3))), (.bin .Add (.var 1) (.lit (K01.c_INDENT)))])])]
def b_block_lines_3_2 : List ST := .ite (.and (.cmp .Eq (.var 4) (.lit (.str [105, 102]))) (.cmp .NotEq (.ix (.var 3) (.lit (.int 3))) (.tup []))) b_block_lines_4 [] :: b_block_lines_3_3
def b_block_lines_3_1 : List ST := .expr (.meth .extend (.var 2) [(.call 4 [(.ix (.var 3) (.lit (.int 2))), (.bin .Add (.var 1) (.lit (K01.c_INDENT)))])]) :: b_block_lines_3_2
def b_block_lines_3 : List ST := .expr (.meth .append (.var 2) [(.bin .Add (.bin .Add (.bin .Add (.var 1) (.var 4)) (.lit (.str [32]))) (.call 0 [(.ix (.var 3) (.lit (.int 1))), (.lit (.int 0))]))]) :: b_block_lines_3_1
def b_block_lines_6_2 : List ST := [.expr (.meth .append (.var 2) [(.bin .Add (.var 1) (.lit (.str [101, 110, 100])))])]
def b_block_lines_6_1 : List ST := .expr (.meth .append (.var 2) [(.bin .Add (.bin .Add (.var 1) (.lit (.str [99, 97, 116, 99, 104, 32]))) (.ix (.var 3) (.lit (.int 2))))]) ::
  .expr (.meth .extend (.var 2) [(.call 4 [(.ix (.var 3) (.lit (.int 3))), (.bin .Add (.var 1) (.lit (K01.c_INDENT)))])]) :: b_block_lines_6_2
def b_block_lines_6 : List ST := .expr (.meth .append (.var 2) [(.bin .Add (.var 1) (.lit (.str [116, 114, 121])))]) ::
  .expr (.meth .extend (.var 2) [(.call 4 [(.ix (.var 3) (.lit (.int 1))), (.bin .Add (.var 1) (.lit (K01.c_INDENT)))])]) :: b_block_lines_6_1
def b_block_lines_7 : List ST := [.expr (.meth .append (.var 2) [(.bin .Add (.var 1) (.call 3 [(.var 3)]))])]
def b_block_lines_5 : List ST := [.ite (.cmp .Eq (.var 4) (.lit (.str [116, 114, 121]))) b_block_lines_6 b_block_lines_7]
def b_block_lines_2 : List ST := [.asg (.nm 4) (.ix (.var 3) (.lit (.int 0))),
  .ite (.cmp .In (.var 4) (.tup [(.lit (.str [105, 102])), (.lit (.str [119, 104, 105, 108, 101]))])) b_block_lines_3 b_block_lines_5]
def b_block_lines_1 : List ST := .asg (.nm 2) (.lst []) ::
  .for_ (.nm 3) .seq [(.var 0)] b_block_lines_2 :: b_block_lines_1_1
def d_block_lines : DefT := ⟨"block_lines", "block_lines", topS 12, ["block", "indent", "lines", "tree", "word"], ["block", "indent"], [], ⟨2, 5, b_block_lines_1⟩⟩
def b_show_function_1_1 : List ST := [.ret (.bin .Add (.meth .join (.lit (.str [10])) [(.var 2)]) (.lit (.str [10])))]
def b_show_function_1 : List ST := .asg (.nm 1) (.meth .join (.lit (.str [32])) [(.bin .Add (.tup [(.lit (.str [102, 117, 110])), (.ix (.var 0) (.lit (.int 1)))]) (.ix (.var 0) (.lit (.int 2))))]) ::
  .asg (.nm 2) (.bin .Add (.bin .Add (.lst [(.var 1)]) (.call 4 [(.ix (.var 0) (.lit (.int 3))), (.lit (K01.c_INDENT))])) (.lst [(.lit (.str [101, 110, 100]))])) :: b_show_function_1_1
def d_show_function : DefT := ⟨"show_function", "show_function", topS 13, ["function", "heading", "lines"], ["function"], [], ⟨1, 3, b_show_function_1⟩⟩
def l_show_1 : EX := (.call 5 [(.var 1)])
def i_show_1 : List EX := []
def b_show_1 : List ST := [.ret (.meth .join (.lit (.str [])) [(.lc [1] (.nm 1) .seq [(.var 0)] i_show_1 l_show_1)])]
def d_show : DefT := ⟨"show", "show", topS 14, ["program", "function"], ["program"], [], ⟨1, 2, b_show_1⟩⟩
def b_law_cell_1_1 : List ST := [.ret (.lit (.int 0))]
def b_law_cell_2 : List ST := [.ret (.blt .abs [(.blt .int [(.ix (.var 0) (.var 1))])])]
def b_law_cell_1 : List ST := .ite (.cmp .Lt (.var 1) (.blt .len [(.var 0)])) b_law_cell_2 [] :: b_law_cell_1_1
def d_law_cell : DefT := ⟨"_law_cell", "_law_cell", topS 16, ["script", "k"], ["script", "k"], [], ⟨2, 2, b_law_cell_1⟩⟩
def b_law_src_1_2 : List ST := [.ret (.lst [(.lit (.int 0)), (.bin .Add (.var 2) (.bin .Mult (.lit (.int 1000)) (.var 1))), (.lit (.int 0))])]
def b_law_src_2 : List ST := [.ret (.lst [(.lit (.int 1)), (.bin .Sub (.var 2) (.bin .Pow (.lit (.int 10)) (.lit (.int 18)))), (.lit (.int 0))])]
def b_law_src_1_1 : List ST := .ite (.cmp .GtE (.var 2) (.bin .Pow (.lit (.int 10)) (.lit (.int 18)))) b_law_src_2 [] :: b_law_src_1_2
def b_law_src_1 : List ST := .asg (.nm 2) (.call 7 [(.var 0), (.var 1)]) :: b_law_src_1_1
def d_law_src : DefT := ⟨"_law_src", "_law_src", topS 17, ["script", "k", "cell"], ["script", "k"], [], ⟨2, 3, b_law_src_1⟩⟩
def b_law_draw_1_1 : List ST := [.aset (.var 0) (.lit (.int 2)) (.bin .Add (.ix (.var 0) (.lit (.int 2))) (.lit (.int 1))),
  .asg (.nm 3) (.bin .Mod (.blt .int [(.bin .Add (.bin .Add (.bin .Mult (.ix (.var 0) (.lit (.int 1))) (.lit (.int 48271))) (.bin .Mult (.ix (.var 0) (.lit (.int 2))) (.lit (.int 69621)))) (.lit (.int 11)))]) (.lit (.int 2147483647))),
  .asg (.nm 4) (.bin .Mod (.blt .int [(.bin .Add (.bin .Add (.bin .Mult (.var 3) (.var 3)) (.ix (.var 0) (.lit (.int 1)))) (.bin .Mult (.ix (.var 0) (.lit (.int 2))) (.lit (.int 40692))))]) (.lit (.int 2147483563))),
  .ret (.bin .Mod (.blt .int [(.bin .Add (.bin .FloorDiv (.bin .Mult (.var 4) (.var 4)) (.lit (.int 64))) (.var 3))]) (.var 1))]
def b_law_draw_2 : List ST := [.asg (.nm 2) (.bin .Mod (.blt .int [(.ix (.var 0) (.lit (.int 1)))]) (.var 1)),
  .aset (.var 0) (.lit (.int 1)) (.bin .FloorDiv (.ix (.var 0) (.lit (.int 1))) (.var 1)),
  .ret (.var 2)]
def b_law_draw_1 : List ST := .ite (.cmp .Eq (.ix (.var 0) (.lit (.int 0))) (.lit (.int 1))) b_law_draw_2 [] :: b_law_draw_1_1
def d_law_draw : DefT := ⟨"_law_draw", "_law_draw", topS 18, ["src", "m", "got", "a", "b"], ["src", "m"], [], ⟨2, 5, b_law_draw_1⟩⟩
def b_law_word_1_2 : List ST := [.ret (.ix (.lst [(.lit (.str [])), (.lit (.str [110, 97, 109, 101]))]) (.blt .int [(.cmp .LtE (.blt .len [(.var 0)]) (.lit (.int 8)))]))]
def b_law_word_2 : List ST := [.ret (.lit (.str [107, 101, 112, 116]))]
def b_law_word_1_1 : List ST := .ite (.cmp .In (.bin .Add (.bin .Add (.lit (.str [32])) (.var 0)) (.lit (.str [32]))) (.var 1)) b_law_word_2 [] :: b_law_word_1_2
def b_law_word_3_1 : List ST := [.ret (.lit (.str [110, 117, 109, 98, 101, 114]))]
def l_law_word_1 : EX := (.var 2)
def i_law_word_1 : List EX := [(.cmp .NotIn (.var 2) (.lit (.str [48, 49, 50, 51, 52, 53, 54, 55, 56, 57])))]
def b_law_word_4 : List ST := [.ret (.lit (.str []))]
def b_law_word_3 : List ST := .ite (.or (.cmp .Gt (.blt .len [(.var 0)]) (.lit (.int 3))) (.or (.and (.cmp .Eq (.ix (.var 0) (.lit (.int 0))) (.lit (.str [48]))) (.cmp .NotEq (.var 0) (.lit (.str [48])))) (.cmp .NotEq (.lc [2] (.nm 2) .seq [(.var 0)] i_law_word_1 l_law_word_1) (.lst [])))) b_law_word_4 [] :: b_law_word_3_1
def b_law_word_1 : List ST := .asg (.nm 1) (.lit (.str [32, 102, 117, 110, 32, 101, 110, 100, 32, 105, 102, 32, 101, 108, 115, 101, 32, 119, 104, 105, 108, 101, 32, 116, 114, 121, 32, 99, 97, 116, 99, 104, 32, 114, 101, 116, 117, 114, 110, 32, 116, 104, 114, 111, 119, 32, 115, 97, 121, 32, 103, 111, 32, 114, 101, 115, 116, 32, 110, 101, 119, 32, 110, 105, 108, 32, 112, 117, 115, 104, 32, 98, 105, 110, 100, 32, 97, 115, 107, 32, 108, 101, 110, 32, 107, 105, 110, 100, 32])) ::
  .ite (.cmp .In (.ix (.var 0) (.lit (.int 0))) (.lit (.str [48, 49, 50, 51, 52, 53, 54, 55, 56, 57]))) b_law_word_3 [] :: b_law_word_1_1
def d_law_word : DefT := ⟨"_law_word", "_law_word", topS 19, ["word", "kept", "c"], ["word"], [], ⟨1, 3, b_law_word_1⟩⟩
def b_law_tokens_1_1 : List ST := [.ret (.var 2)]
def b_law_tokens_2_2 : List ST := [.asg (.nm 3) (.bin .Add (.var 3) (.var 4))]
def b_law_tokens_3 : List ST := [.expr (.meth .append (.var 2) [(.sl (.var 0) (.var 3) (.bin .Add (.var 3) (.var 4)))])]
def b_law_tokens_2_1 : List ST := .ite (.cmp .NotEq (.ix (.var 0) (.var 3)) (.lit (.str [32]))) b_law_tokens_3 [] :: b_law_tokens_2_2
def b_law_tokens_5 : List ST := [.ret (.lit (.non))]
def b_law_tokens_4_1 : List ST := [.ite (.cmp .Eq (.call 10 [(.sl (.var 0) (.var 3) (.bin .Add (.var 3) (.var 4)))]) (.lit (.str []))) b_law_tokens_5 []]
def b_law_tokens_6 : List ST := [.asg (.nm 4) (.bin .Add (.var 4) (.lit (.int 1)))]
def b_law_tokens_4 : List ST := .whl (.and (.cmp .Lt (.bin .Add (.var 3) (.var 4)) (.blt .len [(.var 0)])) (.cmp .In (.ix (.var 0) (.bin .Add (.var 3) (.var 4))) (.var 1))) b_law_tokens_6 :: b_law_tokens_4_1
def b_law_tokens_8 : List ST := [.asg (.nm 4) (.lit (.int 2))]
def b_law_tokens_10 : List ST := [.ret (.lit (.non))]
def b_law_tokens_9 : List ST := [.ite (.cmp .NotIn (.ix (.var 0) (.var 3)) (.lit (.str [32, 40, 41, 91, 93, 46, 44, 43, 45, 42, 60, 61, 33]))) b_law_tokens_10 []]
def b_law_tokens_7 : List ST := [.ite (.cmp .Eq (.sl (.var 0) (.var 3) (.bin .Add (.var 3) (.lit (.int 2)))) (.lit (.str [61, 61]))) b_law_tokens_8 b_law_tokens_9]
def b_law_tokens_2 : List ST := .asg (.nm 4) (.lit (.int 1)) ::
  .ite (.cmp .In (.ix (.var 0) (.var 3)) (.var 1)) b_law_tokens_4 b_law_tokens_7 :: b_law_tokens_2_1
def b_law_tokens_1 : List ST := .asg (.nm 1) (.lit (.str [97, 98, 99, 100, 101, 102, 103, 104, 105, 106, 107, 108, 109, 110, 111, 112, 113, 114, 115, 116, 117, 118, 119, 120, 121, 122, 48, 49, 50, 51, 52, 53, 54, 55, 56, 57])) ::
  .asg (.nm 2) (.lst []) ::
  .asg (.nm 3) (.lit (.int 0)) ::
  .whl (.cmp .Lt (.var 3) (.blt .len [(.var 0)])) b_law_tokens_2 :: b_law_tokens_1_1
def d_law_tokens : DefT := ⟨"_law_tokens", "_law_tokens", topS 20, ["line", "letters", "got", "k", "n"], ["line"], [], ⟨1, 5, b_law_tokens_1⟩⟩
def b_law_text_e_1_2 : List ST := [.ret (.var 5)]
def b_law_text_e_2 : List ST := [.asg (.nm 5) (.bin .Add (.bin .Add (.lit (.str [40])) (.var 5)) (.lit (.str [41])))]
def b_law_text_e_1_1 : List ST := .ite (.or (.cmp .Lt (.var 4) (.var 1)) (.and (.cmp .NotEq (.var 2) (.lst [])) (.cmp .Eq (.call 9 [(.var 2), (.lit (.int 6))]) (.lit (.int 5))))) b_law_text_e_2 [] :: b_law_text_e_1_2
def b_law_text_e_3 : List ST := [.asg (.nm 5) (.blt .str [(.ix (.var 0) (.lit (.int 1)))])]
def b_law_text_e_5 : List ST := [.asg (.nm 5) (.var 3)]
def b_law_text_e_7 : List ST := [.asg (.nm 5) (.ix (.var 0) (.lit (.int 1)))]
def b_law_text_e_9_1 : List ST := [.asg (.nm 5) (.bin .Add (.bin .Add (.bin .Add (.bin .Add (.ix (.lst [(.lit (.str [])), (.lit (.str [98, 105, 110, 100, 32]))]) (.blt .int [(.cmp .Eq (.var 3) (.lit (.str [98, 105, 110, 100])))])) (.ix (.var 0) (.lit (.int 1)))) (.lit (.str [40]))) (.var 6)) (.lit (.str [41])))]
def l_law_text_e_1 : EX := (.call 12 [(.var 7), (.lit (.int 0)), (.var 2)])
def i_law_text_e_1 : List EX := []
def b_law_text_e_9 : List ST := .asg (.nm 6) (.meth .join (.lit (.str [44, 32])) [(.lc [7] (.nm 7) .seq [(.ix (.var 0) (.lit (.int 2)))] i_law_text_e_1 l_law_text_e_1)]) :: b_law_text_e_9_1
def l_law_text_e_2 : EX := (.call 12 [(.var 7), (.lit (.int 0)), (.var 2)])
def i_law_text_e_2 : List EX := []
def b_law_text_e_11 : List ST := [.asg (.nm 5) (.bin .Add (.bin .Add (.lit (.str [91])) (.meth .join (.lit (.str [44, 32])) [(.lc [7] (.nm 7) .seq [(.ix (.var 0) (.lit (.int 1)))] i_law_text_e_2 l_law_text_e_2)])) (.lit (.str [93])))]
def b_law_text_e_13 : List ST := [.asg (.nm 5) (.bin .Add (.bin .Add (.var 3) (.lit (.str [32]))) (.call 12 [(.ix (.var 0) (.lit (.int 1))), (.lit (.int 3)), (.var 2)]))]
def b_law_text_e_15 : List ST := [.asg (.nm 5) (.bin .Add (.bin .Add (.call 12 [(.ix (.var 0) (.lit (.int 1))), (.lit (.int 4)), (.var 2)]) (.lit (.str [46]))) (.ix (.var 0) (.lit (.int 2))))]
def b_law_text_e_17 : List ST := [.asg (.nm 5) (.bin .Add (.bin .Add (.bin .Add (.call 12 [(.ix (.var 0) (.lit (.int 1))), (.lit (.int 4)), (.var 2)]) (.lit (.str [91]))) (.call 12 [(.ix (.var 0) (.lit (.int 2))), (.lit (.int 0)), (.var 2)])) (.lit (.str [93])))]
def l_law_text_e_3 : EX := (.call 12 [(.var 7), (.lit (.int 0)), (.var 2)])
def i_law_text_e_3 : List EX := []
def b_law_text_e_19 : List ST := [.asg (.nm 5) (.bin .Add (.bin .Add (.bin .Add (.call 12 [(.ix (.var 0) (.lit (.int 1))), (.lit (.int 4)), (.var 2)]) (.lit (.str [33, 40]))) (.meth .join (.lit (.str [44, 32])) [(.lc [7] (.nm 7) .seq [(.ix (.var 0) (.lit (.int 2)))] i_law_text_e_3 l_law_text_e_3)])) (.lit (.str [41])))]
def b_law_text_e_20 : List ST := [.asg (.nm 8) (.ix (.dct [(.lit (.str [108, 101, 115, 115])), (.lit (.str [32, 60, 32])), (.lit (.str [115, 97, 109, 101])), (.lit (.str [32, 61, 61, 32])), (.lit (.str [97, 100, 100])), (.lit (.str [32, 43, 32])), (.lit (.str [115, 117, 98])), (.lit (.str [32, 45, 32])), (.lit (.str [109, 117, 108])), (.lit (.str [32, 42, 32]))]) (.var 3)),
  .asg (.nm 9) (.blt .max2 [(.var 4), (.lit (.int 1))]),
  .asg (.nm 5) (.bin .Add (.bin .Add (.call 12 [(.ix (.var 0) (.lit (.int 1))), (.var 9), (.var 2)]) (.var 8)) (.call 12 [(.ix (.var 0) (.lit (.int 2))), (.bin .Add (.var 4) (.lit (.int 1))), (.var 2)]))]
def b_law_text_e_18 : List ST := [.ite (.cmp .Eq (.var 3) (.lit (.str [97, 112, 112, 108, 121]))) b_law_text_e_19 b_law_text_e_20]
def b_law_text_e_16 : List ST := [.ite (.cmp .Eq (.var 3) (.lit (.str [105, 116, 101, 109]))) b_law_text_e_17 b_law_text_e_18]
def b_law_text_e_14 : List ST := [.ite (.cmp .Eq (.var 3) (.lit (.str [102, 105, 101, 108, 100]))) b_law_text_e_15 b_law_text_e_16]
def b_law_text_e_12 : List ST := [.ite (.cmp .In (.var 3) (.tup [(.lit (.str [108, 101, 110])), (.lit (.str [107, 105, 110, 100]))])) b_law_text_e_13 b_law_text_e_14]
def b_law_text_e_10 : List ST := [.ite (.cmp .Eq (.var 3) (.lit (.str [108, 105, 115, 116]))) b_law_text_e_11 b_law_text_e_12]
def b_law_text_e_8 : List ST := [.ite (.cmp .In (.var 3) (.tup [(.lit (.str [99, 97, 108, 108])), (.lit (.str [98, 105, 110, 100]))])) b_law_text_e_9 b_law_text_e_10]
def b_law_text_e_6 : List ST := [.ite (.cmp .Eq (.var 3) (.lit (.str [118, 97, 114]))) b_law_text_e_7 b_law_text_e_8]
def b_law_text_e_4 : List ST := [.ite (.cmp .In (.var 3) (.tup [(.lit (.str [110, 105, 108])), (.lit (.str [110, 101, 119])), (.lit (.str [97, 115, 107]))])) b_law_text_e_5 b_law_text_e_6]
def b_law_text_e_1 : List ST := .asg (.nm 3) (.ix (.var 0) (.lit (.int 0))) ::
  .asg (.nm 4) (.meth .get2 (.dct [(.lit (.str [108, 101, 115, 115])), (.lit (.int 0)), (.lit (.str [115, 97, 109, 101])), (.lit (.int 0)), (.lit (.str [97, 100, 100])), (.lit (.int 1)), (.lit (.str [115, 117, 98])), (.lit (.int 1)), (.lit (.str [109, 117, 108])), (.lit (.int 2)), (.lit (.str [108, 101, 110])), (.lit (.int 3)), (.lit (.str [107, 105, 110, 100])), (.lit (.int 3))]) [(.var 3), (.lit (.int 4))]) ::
  .ite (.cmp .Eq (.var 3) (.lit (.str [110, 117, 109]))) b_law_text_e_3 b_law_text_e_4 :: b_law_text_e_1_1
def d_law_text_e : DefT := ⟨"_law_text_e", "_law_text_e", topS 21, ["e", "place", "src", "k", "level", "text", "given", "x", "sign", "low"], ["e", "place", "src"], [], ⟨3, 10, b_law_text_e_1⟩⟩
def b_law_lines_1_1 : List ST := [.ret (.var 3)]
def b_law_lines_3_2 : List ST := [.expr (.meth .append (.var 3) [(.bin .Add (.var 1) (.lit (.str [101, 110, 100])))])]
def b_law_lines_4 : List ST := [.expr (.meth .extend (.var 3) [(.bin .Add (.lst [(.bin .Add (.var 1) (.lit (.str [101, 108, 115, 101])))]) (.call 13 [(.ix (.var 4) (.lit (.int 3))), (.bin .Add (.var 1) (.lit (.str [32, 32]))), (.var 2)]))])]
def b_law_lines_3_1 : List ST := .ite (.or (.cmp .NotEq (.ix (.var 4) (.lit (.int 3))) (.tup [])) (.and (.cmp .NotEq (.var 2) (.lst [])) (.cmp .Eq (.call 9 [(.var 2), (.lit (.int 4))]) (.lit (.int 3))))) b_law_lines_4 [] :: b_law_lines_3_2
def b_law_lines_3 : List ST := .expr (.meth .extend (.var 3) [(.bin .Add (.lst [(.bin .Add (.bin .Add (.var 1) (.lit (.str [105, 102, 32]))) (.ix (.var 6) (.lit (.int 0))))]) (.call 13 [(.ix (.var 4) (.lit (.int 2))), (.bin .Add (.var 1) (.lit (.str [32, 32]))), (.var 2)]))]) :: b_law_lines_3_1
def b_law_lines_6 : List ST := [.expr (.meth .extend (.var 3) [(.bin .Add (.bin .Add (.lst [(.bin .Add (.bin .Add (.var 1) (.lit (.str [119, 104, 105, 108, 101, 32]))) (.ix (.var 6) (.lit (.int 0))))]) (.call 13 [(.ix (.var 4) (.lit (.int 2))), (.bin .Add (.var 1) (.lit (.str [32, 32]))), (.var 2)])) (.lst [(.bin .Add (.var 1) (.lit (.str [101, 110, 100])))]))])]
def b_law_lines_8_1 : List ST := [.expr (.meth .extend (.var 3) [(.bin .Add (.call 13 [(.ix (.var 4) (.lit (.int 3))), (.bin .Add (.var 1) (.lit (.str [32, 32]))), (.var 2)]) (.lst [(.bin .Add (.var 1) (.lit (.str [101, 110, 100])))]))])]
def b_law_lines_8 : List ST := .expr (.meth .extend (.var 3) [(.bin .Add (.bin .Add (.lst [(.bin .Add (.var 1) (.lit (.str [116, 114, 121])))]) (.call 13 [(.ix (.var 4) (.lit (.int 1))), (.bin .Add (.var 1) (.lit (.str [32, 32]))), (.var 2)])) (.lst [(.bin .Add (.bin .Add (.var 1) (.lit (.str [99, 97, 116, 99, 104, 32]))) (.ix (.var 4) (.lit (.int 2))))]))]) :: b_law_lines_8_1
def b_law_lines_10 : List ST := [.expr (.meth .append (.var 3) [(.bin .Add (.bin .Add (.bin .Add (.var 1) (.ix (.var 4) (.lit (.int 1)))) (.lit (.str [32, 61, 32]))) (.ix (.var 6) (.lit (.int 0))))])]
def b_law_lines_12 : List ST := [.expr (.meth .append (.var 3) [(.bin .Add (.bin .Add (.bin .Add (.bin .Add (.bin .Add (.var 1) (.call 12 [(.ix (.var 4) (.lit (.int 1))), (.lit (.int 4)), (.var 2)])) (.lit (.str [46]))) (.ix (.var 4) (.lit (.int 2)))) (.lit (.str [32, 61, 32]))) (.call 12 [(.ix (.var 4) (.lit (.int 3))), (.lit (.int 0)), (.var 2)]))])]
def b_law_lines_14 : List ST := [.expr (.meth .append (.var 3) [(.bin .Add (.bin .Add (.bin .Add (.bin .Add (.bin .Add (.var 1) (.call 12 [(.ix (.var 4) (.lit (.int 1))), (.lit (.int 4)), (.var 2)])) (.lit (.str [91]))) (.ix (.var 6) (.lit (.int 1)))) (.lit (.str [93, 32, 61, 32]))) (.ix (.var 6) (.lit (.int 2))))])]
def l_law_lines_1 : EX := (.call 12 [(.var 7), (.lit (.int 0)), (.var 2)])
def i_law_lines_1 : List EX := []
def b_law_lines_16 : List ST := [.expr (.meth .append (.var 3) [(.bin .Add (.bin .Add (.bin .Add (.bin .Add (.bin .Add (.var 1) (.lit (.str [103, 111, 32]))) (.ix (.var 4) (.lit (.int 1)))) (.lit (.str [40]))) (.meth .join (.lit (.str [44, 32])) [(.lc [7] (.nm 7) .seq [(.ix (.var 4) (.lit (.int 2)))] i_law_lines_1 l_law_lines_1)])) (.lit (.str [41])))])]
def b_law_lines_18 : List ST := [.expr (.meth .append (.var 3) [(.bin .Add (.var 1) (.ix (.var 6) (.lit (.int 0))))])]
def b_law_lines_19 : List ST := [.expr (.meth .append (.var 3) [(.bin .Add (.var 1) (.meth .rstrip (.bin .Add (.bin .Add (.var 5) (.lit (.str [32]))) (.meth .join (.lit (.str [44, 32])) [(.var 6)])) []))])]
def b_law_lines_17 : List ST := [.ite (.cmp .Eq (.var 5) (.lit (.str [100, 111]))) b_law_lines_18 b_law_lines_19]
def b_law_lines_15 : List ST := [.ite (.cmp .Eq (.var 5) (.lit (.str [103, 111]))) b_law_lines_16 b_law_lines_17]
def b_law_lines_13 : List ST := [.ite (.cmp .Eq (.var 5) (.lit (.str [112, 108, 97, 99, 101]))) b_law_lines_14 b_law_lines_15]
def b_law_lines_11 : List ST := [.ite (.cmp .Eq (.var 5) (.lit (.str [115, 116, 111, 114, 101]))) b_law_lines_12 b_law_lines_13]
def b_law_lines_9 : List ST := [.ite (.cmp .Eq (.var 5) (.lit (.str [115, 101, 116]))) b_law_lines_10 b_law_lines_11]
def b_law_lines_7 : List ST := [.ite (.cmp .Eq (.var 5) (.lit (.str [116, 114, 121]))) b_law_lines_8 b_law_lines_9]
def b_law_lines_5 : List ST := [.ite (.cmp .Eq (.var 5) (.lit (.str [119, 104, 105, 108, 101]))) b_law_lines_6 b_law_lines_7]
def b_law_lines_2_1 : List ST := [.ite (.cmp .Eq (.var 5) (.lit (.str [105, 102]))) b_law_lines_3 b_law_lines_5]
def l_law_lines_2 : EX := (.call 12 [(.var 7), (.lit (.int 0)), (.var 2)])
def i_law_lines_2 : List EX := [(.and (.blt (.isi 3) [(.var 7)]) (.and (.cmp .NotEq (.var 7) (.tup [])) (.blt (.isi 2) [(.ix (.var 7) (.lit (.int 0)))])))]
def b_law_lines_2 : List ST := .asg (.nm 5) (.ix (.var 4) (.lit (.int 0))) ::
  .asg (.nm 6) (.lc [7] (.nm 7) .seq [(.sl (.var 4) (.lit (.int 1)) (.lit (.kd 0)))] i_law_lines_2 l_law_lines_2) :: b_law_lines_2_1
def b_law_lines_1 : List ST := .asg (.nm 3) (.lst []) ::
  .for_ (.nm 4) .seq [(.var 0)] b_law_lines_2 :: b_law_lines_1_1
def d_law_lines : DefT := ⟨"_law_lines", "_law_lines", topS 22, ["block", "pad", "src", "got", "s", "k", "es", "x"], ["block", "pad", "src"], [], ⟨3, 8, b_law_lines_1⟩⟩
def b_law_text_1_1 : List ST := [.ret (.var 2)]
def b_law_text_2 : List ST := [.expr (.meth .extend (.var 2) [(.bin .Add (.bin .Add (.lst [(.meth .join (.lit (.str [32])) [(.bin .Add (.tup [(.lit (.str [102, 117, 110])), (.ix (.var 3) (.lit (.int 1)))]) (.ix (.var 3) (.lit (.int 2))))])]) (.call 13 [(.ix (.var 3) (.lit (.int 3))), (.lit (.str [32, 32])), (.var 1)])) (.lst [(.lit (.str [101, 110, 100]))]))])]
def b_law_text_1 : List ST := .asg (.nm 2) (.lst []) ::
  .for_ (.nm 3) .seq [(.var 0)] b_law_text_2 :: b_law_text_1_1
def d_law_text : DefT := ⟨"_law_text", "_law_text", topS 23, ["prog", "src", "got", "f"], ["prog", "src"], [], ⟨2, 4, b_law_text_1⟩⟩
def b_law_name_1_3 : List ST := [.ret (.var 3)]
def b_law_name_2 : List ST := [.ret (.bin .Add (.var 3) (.lit (.str [48])))]
def b_law_name_1_2 : List ST := .ite (.cmp .In (.bin .Add (.bin .Add (.lit (.str [32])) (.var 3)) (.lit (.str [32]))) (.var 2)) b_law_name_2 [] :: b_law_name_1_3
def b_law_name_3 : List ST := [.asg (.nm 3) (.bin .Add (.var 3) (.ix (.var 1) (.call 9 [(.var 0), (.lit (.int 36))])))]
def b_law_name_1_1 : List ST := .for_ (.nm 4) .rng1 [(.ix (.lst [(.lit (.int 0)), (.lit (.int 0)), (.lit (.int 1)), (.call 9 [(.var 0), (.lit (.int 8))])]) (.call 9 [(.var 0), (.lit (.int 4))]))] b_law_name_3 :: b_law_name_1_2
def b_law_name_1 : List ST := .asg (.nm 1) (.lit (.str [97, 98, 99, 100, 101, 102, 103, 104, 105, 106, 107, 108, 109, 110, 111, 112, 113, 114, 115, 116, 117, 118, 119, 120, 121, 122, 48, 49, 50, 51, 52, 53, 54, 55, 56, 57])) ::
  .asg (.nm 2) (.lit (.str [32, 102, 117, 110, 32, 101, 110, 100, 32, 105, 102, 32, 101, 108, 115, 101, 32, 119, 104, 105, 108, 101, 32, 116, 114, 121, 32, 99, 97, 116, 99, 104, 32, 114, 101, 116, 117, 114, 110, 32, 116, 104, 114, 111, 119, 32, 115, 97, 121, 32, 103, 111, 32, 114, 101, 115, 116, 32, 110, 101, 119, 32, 110, 105, 108, 32, 112, 117, 115, 104, 32, 98, 105, 110, 100, 32, 97, 115, 107, 32, 108, 101, 110, 32, 107, 105, 110, 100, 32])) ::
  .asg (.nm 3) (.ix (.var 1) (.call 9 [(.var 0), (.lit (.int 26))])) :: b_law_name_1_1
def d_law_name : DefT := ⟨"_law_name", "_law_name", topS 24, ["src", "letters", "kept", "name", "k"], ["src"], [], ⟨1, 5, b_law_name_1⟩⟩
def b_law_pick_1_1 : List ST := [.ret (.ix (.var 1) (.call 9 [(.var 0), (.blt .len [(.var 1)])]))]
def b_law_pick_2 : List ST := [.ret (.call 15 [(.var 0)])]
def b_law_pick_1 : List ST := .ite (.cmp .Eq (.call 9 [(.var 0), (.lit (.int 4))]) (.lit (.int 3))) b_law_pick_2 [] :: b_law_pick_1_1
def d_law_pick : DefT := ⟨"_law_pick", "_law_pick", topS 25, ["src", "names"], ["src", "names"], [], ⟨2, 2, b_law_pick_1⟩⟩
def b_law_e_1_13 : List ST := [.ret (.tup [(.ix (.lst [(.lit (.str [105, 116, 101, 109])), (.lit (.str [97, 100, 100])), (.lit (.str [115, 117, 98])), (.lit (.str [109, 117, 108])), (.lit (.str [108, 101, 115, 115])), (.lit (.str [115, 97, 109, 101]))]) (.bin .Sub (.var 6) (.lit (.int 12)))), (.var 10), (.ix (.var 11) (.lit (.int 0)))])]
def b_law_e_2 : List ST := [.ret (.tup [(.lit (.str [97, 112, 112, 108, 121])), (.var 10), (.var 11)])]
def b_law_e_1_12 : List ST := .ite (.cmp .Eq (.var 6) (.lit (.int 11))) b_law_e_2 [] :: b_law_e_1_13
def b_law_e_3 : List ST := [.ret (.tup [(.lit (.str [102, 105, 101, 108, 100])), (.var 10), (.call 16 [(.var 0), (.var 4)])])]
def b_law_e_1_11 : List ST := .ite (.cmp .Eq (.var 6) (.lit (.int 10))) b_law_e_3 [] :: b_law_e_1_12
def b_law_e_4 : List ST := [.ret (.tup [(.ix (.lst [(.lit (.str [108, 101, 110])), (.lit (.str [107, 105, 110, 100]))]) (.bin .Sub (.var 6) (.lit (.int 8)))), (.var 10)])]
def b_law_e_1_10 : List ST := .ite (.cmp .Lt (.var 6) (.lit (.int 10))) b_law_e_4 [] :: b_law_e_1_11
def l_law_e_1 : EX := (.call 17 [(.var 0), (.var 1), (.bin .Sub (.bin .Sub (.bin .Add (.var 2) (.var 7)) (.lit (.int 1))) (.var 9)), (.bin .Sub (.var 3) (.lit (.int 1))), (.var 4)])
def i_law_e_1 : List EX := []
def b_law_e_1_9 : List ST := .asg (.nm 11) (.blt .tuple [(.lc [9] (.nm 9) .rng1 [(.var 7)] i_law_e_1 l_law_e_1)]) :: b_law_e_1_10
def b_law_e_1_8 : List ST := .asg (.nm 10) (.call 17 [(.var 0), (.var 1), (.bin .Add (.var 2) (.var 7)), (.bin .Sub (.var 3) (.lit (.int 1))), (.var 4)]) :: b_law_e_1_9
def b_law_e_5 : List ST := [.asg (.nm 7) (.blt .min2 [(.bin .Sub (.var 5) (.lit (.int 1))), (.call 9 [(.var 0), (.lit (.int 4))])])]
def b_law_e_1_7 : List ST := .asg (.nm 7) (.blt .int [(.cmp .Gt (.var 6) (.lit (.int 11)))]) ::
  .ite (.cmp .Eq (.var 6) (.lit (.int 11))) b_law_e_5 [] :: b_law_e_1_8
def b_law_e_6_3 : List ST := [.ret (.tup [(.ix (.lst [(.lit (.str [99, 97, 108, 108])), (.lit (.str [98, 105, 110, 100]))]) (.bin .Sub (.var 6) (.lit (.int 5)))), (.call 16 [(.var 0), (.var 4)]), (.var 8)])]
def b_law_e_7 : List ST := [.ret (.tup [(.lit (.str [108, 105, 115, 116])), (.var 8)])]
def b_law_e_6_2 : List ST := .ite (.cmp .Eq (.var 6) (.lit (.int 7))) b_law_e_7 [] :: b_law_e_6_3
def l_law_e_2 : EX := (.call 17 [(.var 0), (.var 1), (.bin .Sub (.bin .Sub (.bin .Add (.var 2) (.var 7)) (.lit (.int 1))) (.var 9)), (.bin .Sub (.var 3) (.lit (.int 1))), (.var 4)])
def i_law_e_2 : List EX := []
def b_law_e_6_1 : List ST := .asg (.nm 8) (.blt .tuple [(.lc [9] (.nm 9) .rng1 [(.var 7)] i_law_e_2 l_law_e_2)]) :: b_law_e_6_2
def b_law_e_6 : List ST := .asg (.nm 7) (.blt .min2 [(.var 5), (.call 9 [(.var 0), (.ix (.lst [(.lit (.int 4)), (.lit (.int 3)), (.lit (.int 9))]) (.bin .Sub (.var 6) (.lit (.int 5))))])]) :: b_law_e_6_1
def b_law_e_1_6 : List ST := .ite (.cmp .Lt (.var 6) (.lit (.int 8))) b_law_e_6 [] :: b_law_e_1_7
def b_law_e_8 : List ST := [.ret (.tup [(.ix (.lst [(.lit (.str [110, 105, 108])), (.lit (.str [110, 101, 119])), (.lit (.str [97, 115, 107]))]) (.bin .Sub (.var 6) (.lit (.int 2))))])]
def b_law_e_1_5 : List ST := .ite (.cmp .Lt (.var 6) (.lit (.int 5))) b_law_e_8 [] :: b_law_e_1_6
def b_law_e_9 : List ST := [.ret (.tup [(.lit (.str [118, 97, 114])), (.ix (.var 4) (.call 9 [(.var 0), (.blt .len [(.var 4)])]))])]
def b_law_e_1_4 : List ST := .ite (.cmp .Eq (.var 6) (.lit (.int 1))) b_law_e_9 [] :: b_law_e_1_5
def b_law_e_10 : List ST := [.ret (.tup [(.lit (.str [110, 117, 109])), (.ix (.lst [(.call 9 [(.var 0), (.lit (.int 12))]), (.call 9 [(.var 0), (.lit (.int 1000))])]) (.call 9 [(.var 0), (.lit (.int 2))]))])]
def b_law_e_1_3 : List ST := .ite (.cmp .Eq (.var 6) (.lit (.int 0))) b_law_e_10 [] :: b_law_e_1_4
def b_law_e_11 : List ST := [.asg (.nm 6) (.bin .Mod (.blt .int [(.var 6)]) (.lit (.int 8)))]
def b_law_e_1_2 : List ST := .ite (.or (.and (.cmp .Gt (.var 6) (.lit (.int 11))) (.cmp .Lt (.var 5) (.lit (.int 2)))) (.and (.cmp .Gt (.var 6) (.lit (.int 7))) (.cmp .Lt (.var 5) (.lit (.int 1))))) b_law_e_11 [] :: b_law_e_1_3
def b_law_e_1_1 : List ST := .asg (.nm 6) (.call 9 [(.var 0), (.lit (.int 18))]) :: b_law_e_1_2
def b_law_e_12 : List ST := [.asg (.nm 5) (.lit (.int 0))]
def b_law_e_1 : List ST := .aset (.var 1) (.lit (.int 0)) (.bin .Sub (.ix (.var 1) (.lit (.int 0))) (.lit (.int 1))) ::
  .asg (.nm 5) (.bin .Sub (.ix (.var 1) (.lit (.int 0))) (.var 2)) ::
  .ite (.cmp .Lt (.var 3) (.lit (.int 2))) b_law_e_12 [] :: b_law_e_1_1
def d_law_e : DefT := ⟨"_law_e", "_law_e", topS 26, ["src", "left", "hold", "deep", "names", "room", "pick", "count", "given", "k", "one", "two"], ["src", "left", "hold", "deep", "names"], [], ⟨5, 12, b_law_e_1⟩⟩
def b_law_es_1_4 : List ST := [.aset (.var 1) (.lit (.int 0)) (.bin .Add (.bin .Sub (.ix (.var 1) (.lit (.int 0))) (.var 7)) (.ix (.var 8) (.lit (.int 0)))),
  .ret (.var 9)]
def l_law_es_1 : EX := (.tup [(.lit (.str [110, 105, 108]))])
def i_law_es_1 : List EX := []
def b_law_es_2 : List ST := [.asg (.nm 8) (.lst [(.bin .Sub (.var 7) (.var 2))]),
  .asg (.nm 9) (.lc [12] (.nm 12) .seq [(.var 9)] i_law_es_1 l_law_es_1)]
def b_law_es_1_3 : List ST := .ite (.cmp .Gt (.var 11) (.lit (.int 60))) b_law_es_2 [] :: b_law_es_1_4
def b_law_es_3 : List ST := [.asg (.nm 11) (.bin .Add (.var 11) (.blt .len [(.call 11 [(.call 12 [(.ix (.var 9) (.var 10)), (.bin .Mult (.var 3) (.blt .int [(.cmp .Eq (.var 10) (.lit (.int 0)))])), (.lst [])])])]))]
def b_law_es_1_2 : List ST := .asg (.nm 11) (.var 4) ::
  .for_ (.nm 10) .rng1 [(.var 2)] b_law_es_3 :: b_law_es_1_3
def l_law_es_2 : EX := (.call 17 [(.var 0), (.var 8), (.bin .Sub (.bin .Sub (.var 2) (.lit (.int 1))) (.var 10)), (.lit (.int 12)), (.var 5)])
def i_law_es_2 : List EX := []
def b_law_es_1_1 : List ST := .asg (.nm 7) (.blt .max2 [(.var 2), (.blt .min2 [(.ix (.var 1) (.lit (.int 0))), (.var 6)])]) ::
  .asg (.nm 8) (.lst [(.var 7)]) ::
  .asg (.nm 9) (.lc [10] (.nm 10) .rng1 [(.var 2)] i_law_es_2 l_law_es_2) :: b_law_es_1_2
def b_law_es_1 : List ST := .asg (.nm 6) (.ix (.lst [(.lit (.int 1)), (.lit (.int 1)), (.lit (.int 2)), (.lit (.int 2)), (.lit (.int 3)), (.lit (.int 3)), (.lit (.int 4)), (.lit (.int 5)), (.lit (.int 6)), (.lit (.int 8)), (.lit (.int 11)), (.bin .Add (.lit (.int 1)) (.call 9 [(.var 0), (.lit (.int 60))]))]) (.call 9 [(.var 0), (.lit (.int 12))])) :: b_law_es_1_1
def d_law_es : DefT := ⟨"_law_es", "_law_es", topS 27, ["src", "left", "many", "place", "over", "names", "size", "some", "box", "es", "k", "count", "e"], ["src", "left", "many", "place", "over", "names"], [], ⟨6, 13, b_law_es_1⟩⟩
def b_law_whole_1_10 : List ST := [.ret (.tup [(.lit (.str [105, 102])), (.ix (.var 5) (.lit (.int 0))), (.var 6), (.var 7)])]
def b_law_whole_2_1 : List ST := [.aset (.var 1) (.lit (.int 1)) (.bin .Add (.ix (.var 1) (.lit (.int 1))) (.blt .int [(.cmp .Eq (.var 7) (.tup []))]))]
def b_law_whole_2 : List ST := .aset (.var 1) (.lit (.int 1)) (.bin .Sub (.ix (.var 1) (.lit (.int 1))) (.lit (.int 1))) ::
  .asg (.nm 7) (.call 20 [(.var 0), (.var 1), (.bin .Sub (.var 2) (.lit (.int 1))), (.var 3)]) :: b_law_whole_2_1
def b_law_whole_1_9 : List ST := .asg (.nm 7) (.tup []) ::
  .ite (.cmp .Gt (.ix (.var 1) (.lit (.int 1))) (.lit (.int 1))) b_law_whole_2 [] :: b_law_whole_1_10
def b_law_whole_3 : List ST := [.ret (.tup [(.lit (.str [116, 114, 121])), (.var 6), (.ix (.var 3) (.call 9 [(.var 0), (.blt .len [(.var 3)])])), (.call 20 [(.var 0), (.var 1), (.bin .Sub (.var 2) (.lit (.int 1))), (.var 3)])])]
def b_law_whole_1_8 : List ST := .ite (.cmp .Eq (.var 4) (.lit (.int 12))) b_law_whole_3 [] :: b_law_whole_1_9
def b_law_whole_4 : List ST := [.ret (.tup [(.lit (.str [119, 104, 105, 108, 101])), (.ix (.var 5) (.lit (.int 0))), (.var 6)])]
def b_law_whole_1_7 : List ST := .ite (.cmp .Eq (.var 4) (.lit (.int 11))) b_law_whole_4 [] :: b_law_whole_1_8
def b_law_whole_1_6 : List ST := .asg (.nm 6) (.call 20 [(.var 0), (.var 1), (.bin .Sub (.var 2) (.lit (.int 1))), (.var 3)]) :: b_law_whole_1_7
def b_law_whole_5 : List ST := [.ret (.tup [(.lit (.str [103, 111])), (.call 16 [(.var 0), (.var 3)]), (.blt .tuple [(.var 5)])])]
def b_law_whole_1_5 : List ST := .ite (.cmp .Eq (.var 4) (.lit (.int 9))) b_law_whole_5 [] :: b_law_whole_1_6
def b_law_whole_6 : List ST := [.ret (.tup [(.lit (.str [112, 108, 97, 99, 101])), (.ix (.var 5) (.lit (.int 0))), (.ix (.var 5) (.lit (.int 1))), (.ix (.var 5) (.lit (.int 2)))])]
def b_law_whole_1_4 : List ST := .ite (.cmp .Eq (.var 4) (.lit (.int 8))) b_law_whole_6 [] :: b_law_whole_1_5
def b_law_whole_7 : List ST := [.ret (.tup [(.lit (.str [115, 116, 111, 114, 101])), (.ix (.var 5) (.lit (.int 0))), (.call 16 [(.var 0), (.var 3)]), (.ix (.var 5) (.lit (.int 1)))])]
def b_law_whole_1_3 : List ST := .ite (.cmp .Eq (.var 4) (.lit (.int 7))) b_law_whole_7 [] :: b_law_whole_1_4
def b_law_whole_8 : List ST := [.ret (.tup [(.lit (.str [112, 117, 115, 104])), (.ix (.var 5) (.lit (.int 0))), (.ix (.var 5) (.lit (.int 1)))])]
def b_law_whole_1_2 : List ST := .ite (.cmp .Eq (.var 4) (.lit (.int 6))) b_law_whole_8 [] :: b_law_whole_1_3
def b_law_whole_9 : List ST := [.ret (.tup [(.lit (.str [115, 101, 116])), (.ix (.var 3) (.call 9 [(.var 0), (.blt .len [(.var 3)])])), (.ix (.var 5) (.lit (.int 0)))])]
def b_law_whole_1_1 : List ST := .ite (.cmp .Eq (.var 4) (.lit (.int 5))) b_law_whole_9 [] :: b_law_whole_1_2
def b_law_whole_10 : List ST := [.ret (.bin .Add (.tup [(.ix (.lst [(.lit (.str [114, 101, 115, 116])), (.lit (.str [114, 101, 116, 117, 114, 110])), (.lit (.str [116, 104, 114, 111, 119])), (.lit (.str [115, 97, 121])), (.lit (.str [100, 111]))]) (.var 4))]) (.blt .tuple [(.var 5)]))]
def b_law_whole_1 : List ST := .ite (.cmp .Lt (.var 4) (.lit (.int 5))) b_law_whole_10 [] :: b_law_whole_1_1
def d_law_whole : DefT := ⟨"_law_whole", "_law_whole", topS 28, ["src", "left", "deep", "names", "pick", "es", "one", "two"], ["src", "left", "deep", "names", "pick", "es"], [], ⟨6, 8, b_law_whole_1⟩⟩
def b_law_block_1_1 : List ST := [.ret (.blt .tuple [(.var 4)])]
def b_law_block_3_1 : List ST := [.expr (.meth .append (.var 4) [(.call 19 [(.var 0), (.var 1), (.var 2), (.var 3), (.var 6), (.var 10)])])]
def b_law_block_3 : List ST := .aset (.var 1) (.lit (.int 0)) (.bin .Sub (.ix (.var 1) (.lit (.int 0))) (.ix (.var 8) (.lit (.int 0)))) ::
  .aset (.var 1) (.lit (.int 1)) (.bin .Sub (.ix (.var 1) (.lit (.int 1))) (.ix (.var 8) (.lit (.int 1)))) ::
  .asg (.nm 9) (.ix (.lst [(.lit (.int 1)), (.lit (.int 1)), (.lit (.int 1)), (.lit (.int 1)), (.lit (.int 0)), (.lit (.int 2)), (.lit (.int 2)), (.lit (.int 3)), (.lit (.int 3)), (.bin .Add (.lit (.int 3)) (.blt .max2 [(.lit (.int 1)), (.var 7)])), (.lit (.int 1)), (.lit (.int 1)), (.lit (.int 1))]) (.var 6)) ::
  .asg (.nm 10) (.call 18 [(.var 0), (.var 1), (.var 7), (.bin .Mult (.lit (.int 4)) (.blt .int [(.cmp .In (.var 6) (.tup [(.lit (.int 7)), (.lit (.int 8))]))])), (.var 9), (.var 3)]) :: b_law_block_3_1
def b_law_block_2_3 : List ST := [.ite (.and (.cmp .Gt (.ix (.var 1) (.lit (.int 0))) (.lit (.int 0))) (.cmp .Gt (.ix (.var 1) (.lit (.int 1))) (.lit (.int 0)))) b_law_block_3 []]
def b_law_block_4 : List ST := [.asg (.nm 6) (.lit (.int 0)),
  .asg (.nm 7) (.lit (.int 0)),
  .asg (.nm 8) (.lst [(.lit (.int 1)), (.lit (.int 1))])]
def b_law_block_2_2 : List ST := .asg (.nm 8) (.lst [(.bin .Add (.lit (.int 1)) (.blt .int [(.cmp .In (.var 6) (.tup [(.lit (.int 10)), (.lit (.int 11))]))])), (.ix (.lst [(.lit (.int 1)), (.lit (.int 2)), (.lit (.int 3))]) (.bin .Add (.blt .int [(.cmp .Gt (.var 6) (.lit (.int 9)))]) (.blt .int [(.cmp .Gt (.var 6) (.lit (.int 11)))])))]) ::
  .ite (.or (.cmp .Lt (.ix (.var 1) (.lit (.int 0))) (.bin .Add (.ix (.var 8) (.lit (.int 0))) (.var 7))) (.or (.cmp .Lt (.ix (.var 1) (.lit (.int 1))) (.ix (.var 8) (.lit (.int 1)))) (.and (.cmp .Gt (.var 6) (.lit (.int 9))) (.cmp .Lt (.var 2) (.lit (.int 1)))))) b_law_block_4 [] :: b_law_block_2_3
def b_law_block_5 : List ST := [.asg (.nm 7) (.call 9 [(.var 0), (.lit (.int 4))])]
def b_law_block_2_1 : List ST := .asg (.nm 7) (.ix (.lst [(.lit (.int 0)), (.lit (.int 1)), (.lit (.int 1)), (.lit (.int 1)), (.lit (.int 1)), (.lit (.int 1)), (.lit (.int 2)), (.lit (.int 2)), (.lit (.int 3)), (.lit (.int 0)), (.lit (.int 1)), (.lit (.int 1)), (.lit (.int 0))]) (.var 6)) ::
  .ite (.cmp .Eq (.var 6) (.lit (.int 9))) b_law_block_5 [] :: b_law_block_2_2
def b_law_block_2 : List ST := .asg (.nm 6) (.call 9 [(.var 0), (.lit (.int 13))]) :: b_law_block_2_1
def b_law_block_1 : List ST := .asg (.nm 4) (.lst []) ::
  .for_ (.nm 5) .rng1 [(.call 9 [(.var 0), (.ix (.lst [(.lit (.int 3)), (.lit (.int 4)), (.lit (.int 6)), (.lit (.int 39))]) (.call 9 [(.var 0), (.lit (.int 4))]))])] b_law_block_2 :: b_law_block_1_1
def d_law_block : DefT := ⟨"_law_block", "_law_block", topS 29, ["src", "left", "deep", "names", "got", "n", "pick", "many", "need", "over", "es"], ["src", "left", "deep", "names"], [], ⟨4, 11, b_law_block_1⟩⟩
def b_law_fun_1_5 : List ST := [.aset (.var 2) (.lit (.int 0)) (.bin .Add (.ix (.var 2) (.lit (.int 0))) (.ix (.var 7) (.lit (.int 1)))),
  .ret (.tup [(.lit (.str [102, 117, 110])), (.var 1), (.var 6), (.var 8)])]
def b_law_fun_1_4 : List ST := .aset (.var 2) (.lit (.int 0)) (.bin .Sub (.ix (.var 2) (.lit (.int 0))) (.ix (.var 7) (.lit (.int 1)))) ::
  .asg (.nm 8) (.call 20 [(.var 0), (.var 7), (.lit (.int 5)), (.var 3)]) :: b_law_fun_1_5
def b_law_fun_1_3 : List ST := .asg (.nm 7) (.lst [(.lit (.int 158)), (.blt .min2 [(.ix (.var 2) (.lit (.int 0))), (.ix (.lst [(.lit (.int 1)), (.lit (.int 1)), (.lit (.int 2)), (.lit (.int 2)), (.lit (.int 3)), (.lit (.int 3)), (.lit (.int 4)), (.lit (.int 4)), (.lit (.int 6)), (.lit (.int 6)), (.lit (.int 8)), (.lit (.int 38))]) (.call 9 [(.var 0), (.lit (.int 12))]))])]) :: b_law_fun_1_4
def b_law_fun_1_2 : List ST := .asg (.nm 6) (.blt .tuple [(.sl (.var 3) (.lit (.kd 0)) (.call 9 [(.var 0), (.bin .Add (.blt .min2 [(.lit (.int 5)), (.blt .len [(.var 3)])]) (.lit (.int 1)))]))]) :: b_law_fun_1_3
def b_law_fun_3 : List ST := [.expr (.meth .append (.var 3) [(.var 5)])]
def b_law_fun_2_1 : List ST := [.ite (.cmp .NotIn (.var 5) (.var 3)) b_law_fun_3 []]
def b_law_fun_2 : List ST := .asg (.nm 5) (.call 15 [(.var 0)]) :: b_law_fun_2_1
def b_law_fun_1_1 : List ST := .for_ (.nm 4) .rng1 [(.ix (.lst [(.lit (.int 0)), (.lit (.int 1)), (.lit (.int 2)), (.lit (.int 3)), (.lit (.int 4)), (.call 9 [(.var 0), (.lit (.int 8))])]) (.call 9 [(.var 0), (.lit (.int 6))]))] b_law_fun_2 :: b_law_fun_1_2
def b_law_fun_1 : List ST := .asg (.nm 3) (.lst [(.call 15 [(.var 0)])]) :: b_law_fun_1_1
def d_law_fun : DefT := ⟨"_law_fun", "_law_fun", topS 30, ["src", "name", "lines", "names", "k", "more", "given", "left", "body"], ["src", "name", "lines"], [], ⟨3, 9, b_law_fun_1⟩⟩
def l_law_prog_1 : EX := (.call 21 [(.var 0), (.var 3), (.var 4)])
def i_law_prog_1 : List EX := []
def b_law_prog_1_2 : List ST := [.asg (.nm 4) (.lst [(.bin .Sub (.lit (.int 200)) (.bin .Mult (.lit (.int 2)) (.blt .len [(.var 1)])))]),
  .ret (.blt .tuple [(.lc [3] (.nm 3) .seq [(.var 1)] i_law_prog_1 l_law_prog_1)])]
def b_law_prog_1_1 : List ST := .expr (.meth .insert (.var 1) [(.call 9 [(.var 0), (.bin .Add (.blt .len [(.var 1)]) (.lit (.int 1)))]), (.lit (.str [109, 97, 105, 110]))]) :: b_law_prog_1_2
def b_law_prog_3 : List ST := [.expr (.meth .append (.var 1) [(.var 3)])]
def b_law_prog_2_1 : List ST := [.ite (.and (.cmp .NotIn (.var 3) (.var 1)) (.cmp .NotEq (.var 3) (.lit (.str [109, 97, 105, 110])))) b_law_prog_3 []]
def b_law_prog_2 : List ST := .asg (.nm 3) (.call 15 [(.var 0)]) :: b_law_prog_2_1
def b_law_prog_1 : List ST := .asg (.nm 1) (.lst []) ::
  .for_ (.nm 2) .rng1 [(.ix (.lst [(.lit (.int 0)), (.lit (.int 0)), (.lit (.int 0)), (.lit (.int 0)), (.lit (.int 0)), (.lit (.int 1)), (.lit (.int 1)), (.lit (.int 1)), (.lit (.int 2)), (.lit (.int 2)), (.lit (.int 3)), (.call 9 [(.var 0), (.lit (.int 12))])]) (.call 9 [(.var 0), (.lit (.int 12))]))] b_law_prog_2 :: b_law_prog_1_1
def d_law_prog : DefT := ⟨"_law_prog", "_law_prog", topS 31, ["src", "names", "k", "name", "lines"], ["src"], [], ⟨1, 5, b_law_prog_1⟩⟩
def b_law_1_4 : List ST := [.ret (.and (.blt (.isi 2) [(.var 5)]) (.cmp .Eq (.var 5) (.ix (.var 2) (.neg (.lit (.int 1))))))]
def b_law_1_3 : List ST := .asg (.nm 5) (.call 6 [(.tup [(.ix (.var 1) (.neg (.lit (.int 1))))])]) :: b_law_1_4
def b_law_4 : List ST := [.ret (.lit (.bl false))]
def b_law_3_1 : List ST := [.ite (.or (.not (.blt (.isi 2) [(.var 5)])) (.cmp .NotEq (.var 5) (.ix (.var 2) (.var 6)))) b_law_4 []]
def b_law_3 : List ST := .asg (.nm 5) (.call 5 [(.ix (.var 1) (.var 6))]) :: b_law_3_1
def b_law_2_2 : List ST := [.for_ (.nm 6) .rng1 [(.blt .len [(.var 1)])] b_law_3]
def b_law_5 : List ST := [.ret (.lit (.bl false))]
def b_law_2_1 : List ST := .ite (.or (.not (.blt (.isi 2) [(.var 5)])) (.cmp .NotEq (.var 5) (.meth .join (.lit (.str [])) [(.var 2)]))) b_law_5 [] :: b_law_2_2
def b_law_2 : List ST := .asg (.nm 5) (.call 6 [(.var 1)]) :: b_law_2_1
def b_law_1_2 : List ST := .for_ (.nm 4) .rng1 [(.lit (.int 2))] b_law_2 :: b_law_1_3
def l_law_1 : EX := (.bin .Add (.meth .join (.lit (.str [10])) [(.call 14 [(.tup [(.var 3)]), (.lst [])])]) (.lit (.str [10])))
def i_law_1 : List EX := []
def b_law_1_1 : List ST := .asg (.nm 2) (.lc [3] (.nm 3) .seq [(.var 1)] i_law_1 l_law_1) :: b_law_1_2
def b_law_1 : List ST := .asg (.nm 1) (.call 22 [(.call 8 [(.var 0), (.lit (.int 0))])]) :: b_law_1_1
def d_law : DefT := ⟨"law", "law", topS 32, ["script", "prog", "due", "f", "again", "told", "k"], ["script"], [], ⟨1, 7, b_law_1⟩⟩
abbrev i_expression_text : Nat := 0
abbrev i_arguments_text : Nat := 1
abbrev i_bare_text : Nat := 2
abbrev i_statement_text : Nat := 3
abbrev i_block_lines : Nat := 4
abbrev i_show_function : Nat := 5
abbrev i_show : Nat := 6
abbrev i_law_cell : Nat := 7
abbrev i_law_src : Nat := 8
abbrev i_law_draw : Nat := 9
abbrev i_law_word : Nat := 10
abbrev i_law_tokens : Nat := 11
abbrev i_law_text_e : Nat := 12
abbrev i_law_lines : Nat := 13
abbrev i_law_text : Nat := 14
abbrev i_law_name : Nat := 15
abbrev i_law_pick : Nat := 16
abbrev i_law_e : Nat := 17
abbrev i_law_es : Nat := 18
abbrev i_law_whole : Nat := 19
abbrev i_law_block : Nat := 20
abbrev i_law_fun : Nat := 21
abbrev i_law_prog : Nat := 22
abbrev i_law : Nat := 23
def tbl : List DefT := [d_expression_text, d_arguments_text, d_bare_text, d_statement_text, d_block_lines, d_show_function, d_show, d_law_cell, d_law_src, d_law_draw, d_law_word, d_law_tokens, d_law_text_e, d_law_lines, d_law_text, d_law_name, d_law_pick, d_law_e, d_law_es, d_law_whole, d_law_block, d_law_fun, d_law_prog, d_law]
def mts : List MetT := []
def cts : List ClsT := []
def TT : Nat → Option Fn := Tof tbl mts cts
def gl : List (Str × GE) := ("expression_text", .fn 0 2) :: ("arguments_text", .fn 1 1) :: ("bare_text", .fn 2 1) :: ("statement_text", .fn 3 1) :: ("block_lines", .fn 4 2) :: ("show_function", .fn 5 1) :: ("show", .fn 6 1) :: ("_law_cell", .fn 7 2) :: ("_law_src", .fn 8 2) :: ("_law_draw", .fn 9 2) :: ("_law_word", .fn 10 1) :: ("_law_tokens", .fn 11 1) :: ("_law_text_e", .fn 12 3) :: ("_law_lines", .fn 13 3) :: ("_law_text", .fn 14 2) :: ("_law_name", .fn 15 1) :: ("_law_pick", .fn 16 2) :: ("_law_e", .fn 17 5) :: ("_law_es", .fn 18 6) :: ("_law_whole", .fn 19 6) :: ("_law_block", .fn 20 4) :: ("_law_fun", .fn 21 3) :: ("_law_prog", .fn 22 1) :: ("law", .fn 23 1) :: ("SIGNS", .cst c_SIGNS) :: ("LEVELS", .cst c_LEVELS) :: ("HIGHEST_LEVEL", .cst c_HIGHEST_LEVEL) :: ("OPERAND_LEVELS", .cst c_OPERAND_LEVELS) :: ("PREFIX_LEVEL", .cst c_PREFIX_LEVEL) :: ("SUFFIX_LEVEL", .cst c_SUFFIX_LEVEL) :: ("INDENT", .cst c_INDENT) :: ("abs", .blt) :: ("int", .blt) :: ("isinstance", .blt) :: ("len", .blt) :: ("max", .blt) :: ("min", .blt) :: ("range", .blt) :: ("str", .blt) :: ("tuple", .blt) :: []
def ly : Ly := ⟨gl, [], 0, []⟩
theorem o_expression_text : DefOk ly d_expression_text := ⟨⟨rfl, rfl, rfl, by decide +kernel, rfl, by decide +kernel, by decide +kernel⟩, by kernel_rfl, rfl, rfl, fun _ _ _ _ _ _ us hl => match us, hl with | [_, _], _ => rfl⟩
theorem o_arguments_text : DefOk ly d_arguments_text := ⟨⟨rfl, rfl, rfl, by decide +kernel, rfl, by decide +kernel, by decide +kernel⟩, by kernel_rfl, rfl, rfl, fun _ _ _ _ _ _ us hl => match us, hl with | [_], _ => rfl⟩
theorem o_bare_text : DefOk ly d_bare_text := ⟨⟨rfl, rfl, rfl, by decide +kernel, rfl, by decide +kernel, by decide +kernel⟩, by kernel_rfl, rfl, rfl, fun _ _ _ _ _ _ us hl => match us, hl with | [_], _ => rfl⟩
theorem o_statement_text : DefOk ly d_statement_text := ⟨⟨rfl, rfl, rfl, by decide +kernel, rfl, by decide +kernel, by decide +kernel⟩, by kernel_rfl, rfl, rfl, fun _ _ _ _ _ _ us hl => match us, hl with | [_], _ => rfl⟩
theorem o_block_lines : DefOk ly d_block_lines := ⟨⟨rfl, rfl, rfl, by decide +kernel, rfl, by decide +kernel, by decide +kernel⟩, by kernel_rfl, rfl, rfl, fun _ _ _ _ _ _ us hl => match us, hl with | [_, _], _ => rfl⟩
theorem o_show_function : DefOk ly d_show_function := ⟨⟨rfl, rfl, rfl, by decide +kernel, rfl, by decide +kernel, by decide +kernel⟩, by kernel_rfl, rfl, rfl, fun _ _ _ _ _ _ us hl => match us, hl with | [_], _ => rfl⟩
theorem o_show : DefOk ly d_show := ⟨⟨rfl, rfl, rfl, by decide +kernel, rfl, by decide +kernel, by decide +kernel⟩, by kernel_rfl, rfl, rfl, fun _ _ _ _ _ _ us hl => match us, hl with | [_], _ => rfl⟩
theorem o_law_cell : DefOk ly d_law_cell := ⟨⟨rfl, rfl, rfl, by decide +kernel, rfl, by decide +kernel, by decide +kernel⟩, by kernel_rfl, rfl, rfl, fun _ _ _ _ _ _ us hl => match us, hl with | [_, _], _ => rfl⟩
theorem o_law_src : DefOk ly d_law_src := ⟨⟨rfl, rfl, rfl, by decide +kernel, rfl, by decide +kernel, by decide +kernel⟩, by kernel_rfl, rfl, rfl, fun _ _ _ _ _ _ us hl => match us, hl with | [_, _], _ => rfl⟩
theorem o_law_draw : DefOk ly d_law_draw := ⟨⟨rfl, rfl, rfl, by decide +kernel, rfl, by decide +kernel, by decide +kernel⟩, by kernel_rfl, rfl, rfl, fun _ _ _ _ _ _ us hl => match us, hl with | [_, _], _ => rfl⟩
theorem o_law_word : DefOk ly d_law_word := ⟨⟨rfl, rfl, rfl, by decide +kernel, rfl, by decide +kernel, by decide +kernel⟩, by kernel_rfl, rfl, rfl, fun _ _ _ _ _ _ us hl => match us, hl with | [_], _ => rfl⟩
theorem o_law_tokens : DefOk ly d_law_tokens := ⟨⟨rfl, rfl, rfl, by decide +kernel, rfl, by decide +kernel, by decide +kernel⟩, by kernel_rfl, rfl, rfl, fun _ _ _ _ _ _ us hl => match us, hl with | [_], _ => rfl⟩
theorem o_law_text_e : DefOk ly d_law_text_e := ⟨⟨rfl, rfl, rfl, by decide +kernel, rfl, by decide +kernel, by decide +kernel⟩, by kernel_rfl, rfl, rfl, fun _ _ _ _ _ _ us hl => match us, hl with | [_, _, _], _ => rfl⟩
theorem o_law_lines : DefOk ly d_law_lines := ⟨⟨rfl, rfl, rfl, by decide +kernel, rfl, by decide +kernel, by decide +kernel⟩, by kernel_rfl, rfl, rfl, fun _ _ _ _ _ _ us hl => match us, hl with | [_, _, _], _ => rfl⟩
theorem o_law_text : DefOk ly d_law_text := ⟨⟨rfl, rfl, rfl, by decide +kernel, rfl, by decide +kernel, by decide +kernel⟩, by kernel_rfl, rfl, rfl, fun _ _ _ _ _ _ us hl => match us, hl with | [_, _], _ => rfl⟩
theorem o_law_name : DefOk ly d_law_name := ⟨⟨rfl, rfl, rfl, by decide +kernel, rfl, by decide +kernel, by decide +kernel⟩, by kernel_rfl, rfl, rfl, fun _ _ _ _ _ _ us hl => match us, hl with | [_], _ => rfl⟩
theorem o_law_pick : DefOk ly d_law_pick := ⟨⟨rfl, rfl, rfl, by decide +kernel, rfl, by decide +kernel, by decide +kernel⟩, by kernel_rfl, rfl, rfl, fun _ _ _ _ _ _ us hl => match us, hl with | [_, _], _ => rfl⟩
theorem o_law_e : DefOk ly d_law_e := ⟨⟨rfl, rfl, rfl, by decide +kernel, rfl, by decide +kernel, by decide +kernel⟩, by kernel_rfl, rfl, rfl, fun _ _ _ _ _ _ us hl => match us, hl with | [_, _, _, _, _], _ => rfl⟩
theorem o_law_es : DefOk ly d_law_es := ⟨⟨rfl, rfl, rfl, by decide +kernel, rfl, by decide +kernel, by decide +kernel⟩, by kernel_rfl, rfl, rfl, fun _ _ _ _ _ _ us hl => match us, hl with | [_, _, _, _, _, _], _ => rfl⟩
theorem o_law_whole : DefOk ly d_law_whole := ⟨⟨rfl, rfl, rfl, by decide +kernel, rfl, by decide +kernel, by decide +kernel⟩, by kernel_rfl, rfl, rfl, fun _ _ _ _ _ _ us hl => match us, hl with | [_, _, _, _, _, _], _ => rfl⟩
theorem o_law_block : DefOk ly d_law_block := ⟨⟨rfl, rfl, rfl, by decide +kernel, rfl, by decide +kernel, by decide +kernel⟩, by kernel_rfl, rfl, rfl, fun _ _ _ _ _ _ us hl => match us, hl with | [_, _, _, _], _ => rfl⟩
theorem o_law_fun : DefOk ly d_law_fun := ⟨⟨rfl, rfl, rfl, by decide +kernel, rfl, by decide +kernel, by decide +kernel⟩, by kernel_rfl, rfl, rfl, fun _ _ _ _ _ _ us hl => match us, hl with | [_, _, _], _ => rfl⟩
theorem o_law_prog : DefOk ly d_law_prog := ⟨⟨rfl, rfl, rfl, by decide +kernel, rfl, by decide +kernel, by decide +kernel⟩, by kernel_rfl, rfl, rfl, fun _ _ _ _ _ _ us hl => match us, hl with | [_], _ => rfl⟩
theorem o_law : DefOk ly d_law := ⟨⟨rfl, rfl, rfl, by decide +kernel, rfl, by decide +kernel, by decide +kernel⟩, by kernel_rfl, rfl, rfl, fun _ _ _ _ _ _ us hl => match us, hl with | [_], _ => rfl⟩
end K01

namespace K01
open PySem PX Tk
section
variable {j : Nat} {E : XQ}
theorem lcw {w : List Nat} (hl : w.length ≤ 100000) {s : Sto} {x0 x1 x2 : Option D} {K : Sto → Prop} (h : ∀ s', s'[s.length]? = some (.lst ((w.filter (fun c => !decide (c ∈ DIG))).map (fun c => .str [c]))) → Kp (fun n => n = s.length) s s' → K s') :
    lcGo (TG.nm 2) .free (w.map (fun c => .str [c])) s.length (fun σ' s' K => xIf (Lv (TT) j) i_law_word_1 σ' s' K) (fun σ' s' K => xE (Lv (TT) j) l_law_word_1 σ' s' K fun x x_1 x_2 => False) [2] [x0, x1, x2] (w.map (fun c => .str [c])) (s ++ [.lst []]) K := by
  refine lc_ind (I := fun items s' => ∃ p q, w = p ++ q ∧ items = q.map (fun c => .str [c]) ∧ s'[s.length]? = some (.lst ((p.filter (fun c => !decide (c ∈ DIG))).map (fun c => .str [c]))) ∧ Kp (fun n => n = s.length) s s') ?_ ?_ _ _ ⟨[], w, rfl, rfl, get_new, Kp.push⟩
  · rintro x q s' ⟨p, q0, e, e2, hg, kp⟩
    cases q0 with
    | nil => cases e2
    | cons d q0 =>
      cases e2
      have e3 := congrArg List.length e
      simp only [List.length_cons, List.length_append] at e3
      refine ⟨trivial, ?_⟩
      unfold wipeS wipeS i_law_word_1 l_law_word_1
      walk_at "run"
      rw [sub_one]
      refine br_ndec (fun hm => ?_) (fun hm => ?_)
      · try rw [if_pos rfl]
        have hm : ¬ d ∈ DIG := hm
        refine ⟨_, hg, ?_, p ++ [d], q0, by simp [e], rfl, ?_, kp.trans (Kp.set rfl)⟩
        · rw [List.length_map]
          exact Nat.lt_of_le_of_lt (List.length_filter_le _ _) (show _ < 2 ^ 24 by omega)
        · rw [get_set hg, List.filter_append, List.map_append]
          simp [hm]
      · rw [if_neg (by decide)]
        have hm : d ∈ DIG := hm
        refine ⟨p ++ [d], q0, by simp [e], rfl, ?_, kp⟩
        rw [hg, List.filter_append]
        simp [hm]
  · rintro s' ⟨p, q0, e, e2, hg, kp⟩
    have : q0 = [] := by
      cases q0 with
      | nil => rfl
      | cons c r => cases e2
    subst this
    rw [List.append_nil] at e
    subst e
    exact ⟨trivial, h s' hg kp⟩
theorem cmw {w : List Nat} {s s' : Sto} (hg : s'[s.length]? = some (.lst ((w.filter (fun c => !decide (c ∈ DIG))).map (fun c => .str [c])))) : cmpD (s' ++ [Ob.lst []]) CmpOp.NotEq (D.ref s.length) (D.ref s'.length) = some (!w.all (fun c => decide (c ∈ DIG))) := by
  show (eqD _ _ _).map _ = _
  rw [eq_refs (get_old hg) get_new (fun x hx => by
    obtain ⟨a, _, rfl⟩ := List.mem_map.mp hx
    rfl) (fun x hx => by cases hx)]
  show some (!decide _) = some (!_)
  congr 2
  rw [Bool.eq_iff_iff, decide_eq_true_eq, List.map_eq_nil_iff, List.filter_eq_nil_iff, List.all_eq_true]
  simp
theorem word_ok {w : List Nat} (hw : w.all aln = true) (h0 : w ≠ []) (hl : w.length ≤ 100000) {s : Sto} {Q : QE} (h : ∀ v s', Kp (fun _ => False) s s' → (v = [] ↔ okW w = false) → Q (.str v) s') : Lv (TT) (j + 1) i_law_word [.str w] s Q E := by
  refine lv_in (fn := d_law_word.fn) rfl rfl ?_
  dsimp only [d_law_word, b_law_word_1]
  walk_at "run"
  cases w with
  | nil => exact absurd rfl h0
  | cons c r =>
  refine ix_str atI_z ?_
  walk_at "run"
  rw [sub_one]
  refine br_dec (fun hd => ?_) (fun hd => ?_)
  · have hd : c ∈ DIG := hd
    have ho := ok_dig (r := r) hd
    unfold b_law_word_3
    refine ss_ite (fun b s1 => Kp (fun _ => False) s s1 ∧ b = !numB (c :: r)) ?_ (fun s1 h1 => ?_) (fun s1 h1 => ?_)
    · walk_at "run"
      refine br_dec (fun h3 => br_yes h3 ⟨Kp.refl _ _, ?_⟩) (fun h3 => ?_)
      · have : ¬ (c :: r).length ≤ 3 := by simp only [List.length_cons]; omega
        have e0 : (c :: r) ≠ [48] := by rintro z; cases z; simp at h3
        have : numB (c :: r) = false := by unfold numB; rw [decide_eq_false e0, decide_eq_false this]; simp
        rw [this]; rfl
      · have h3 : (c :: r).length ≤ 3 := by simp only [List.length_cons]; omega
        refine ix_str atI_z ?_
        walk_at "run"
        have rest : (c = 48 → c :: r = [48]) → numB (c :: r) = (c :: r).all (fun c => decide (c ∈ DIG)) := fun hz => by
          unfold numB
          by_cases z : c = 48
          · rw [decide_eq_true (hz z), Bool.true_or, Bool.and_true]
          · have : ¬ (c :: r).head? = some 48 := fun y => z (Option.some.inj y)
            rw [decide_eq_true h3, decide_eq_true (show 1 ≤ (c :: r).length by simp), decide_eq_false this]
            simp
        have tail : (c = 48 → c :: r = [48]) → lcGo (TG.nm 2) .free (D.str [c] :: List.map (fun c => D.str [c]) r) (List.length s)
            (fun σ' s' K => xIf (Lv (TT) j) i_law_word_1 σ' s' K)
            (fun σ' s' K => xE (Lv (TT) j) l_law_word_1 σ' s' K fun x x_1 x_2 => False) [2]
            [some (D.str (c :: r)), some (D.str KEPT), none]
            (D.str [c] :: List.map (fun c => D.str [c]) r) (s ++ [Ob.lst []]) (fun s' =>
            0 ≤ sizeLine ∧
              obl (cmpD (s' ++ [Ob.lst []]) CmpOp.NotEq (D.ref (List.length s)) (D.ref (List.length s'))) fun c_2 =>
                br (some c_2) (Kp (fun x => False) s (s' ++ [Ob.lst []]) ∧ true = !numB (c :: r))
                  (Kp (fun x => False) s (s' ++ [Ob.lst []]) ∧ false = !numB (c :: r))) := fun hz =>
          lcw (w := c :: r) hl fun s' hg kp => by
            refine ⟨by decide, ?_⟩
            rw [cmw hg, rest hz]
            have kk : Kp (fun _ => False) s (s' ++ [Ob.lst []]) := (kp.trans Kp.push).mono fun n hn z => by omega
            refine br_nb (fun e => ⟨kk, by rw [e]; rfl⟩) (fun e => ⟨kk, by rw [e]; rfl⟩)
        refine br_dec (fun z => ?_) (fun z => br_no z (tail fun y => absurd (by rw [y]) z))
        refine br_ndec (fun z2 => ?_) (fun z2 => tail fun _ => z2)
        refine br_t (by rw [decide_eq_false z2]; rfl) ⟨Kp.refl _ _, ?_⟩
        have z : c = 48 := by simpa using z
        have z3 : (c :: r).head? = some 48 := by rw [z]; rfl
        have : numB (c :: r) = false := by unfold numB; rw [decide_eq_false z2, decide_eq_true z3]; simp
        rw [this]; rfl
    · unfold b_law_word_4
      walk_at "run"
      exact h _ _ h1.1 (by rw [ho]; have := h1.2; simp at this; simp [this])
    · unfold b_law_word_3_1
      walk_at "run"
      exact h _ _ h1.1 (by rw [ho]; have := h1.2; simp at this; simp [this])
  · have hd : ¬ c ∈ DIG := hd
    have hc := (List.all_eq_true.mp hw) c (by simp)
    have hL : c ∈ LET := by simpa [aln, hd] using hc
    have ho := ok_let (r := r) hL
    unfold b_law_word_1_1
    walk_at "run"
    have hs : (2 : Nat) ^ 24 = sizeLine := rfl
    simp only [List.length_cons] at hl
    refine ⟨by omega, by omega, br_b (fun hk => ?_) (fun hk => ?_)⟩
    · unfold b_law_word_2
      walk_at "run"
      exact h _ _ (Kp.refl _ _) (by rw [ho, decide_eq_true (kept_short hw hk)]; simp)
    · unfold b_law_word_1_2
      walk_at "run"
      refine ⟨by decide, ?_⟩
      by_cases h8 : (c :: r).length ≤ 8
      · have h8' : ((r.length + 1 : Nat) : Int) ≤ 8 := by simp only [List.length_cons] at h8; omega
        rw [decide_eq_true h8']
        refine ix_ref get_new atI_o (h _ _ Kp.push (by rw [ho, decide_eq_true h8]; simp))
      · have h8' : ¬ ((r.length + 1 : Nat) : Int) ≤ 8 := by simp only [List.length_cons] at h8; omega
        rw [decide_eq_false h8']
        refine ix_ref get_new atI_z (h _ _ Kp.push (by rw [ho, decide_eq_false h8]; simp))
end
end K01

namespace K01
open PySem PX Tk
def LI (a : List Nat) (s : Sto) (m : Nat) (σ : Sl) (s' : Sto) : Prop := ∃ i : Nat, i ≤ a.length ∧ m = a.length - i ∧ ∃ x4 got n, σ = [some (.str a), some (.str LD), some (.ref s.length), some (.int i), x4] ∧ s'[s.length]? = some (.lst (got.map .str)) ∧ got.length ≤ i ∧ Kp (fun n => n = s.length) s s' ∧ a.length - i ≤ n ∧ tk a.length a = (tk n (a.drop i)).map (got ++ ·)
def WI (a : List Nat) (i L : Nat) (σ0 : Sl) (s0 : Sto) (m : Nat) (σ : Sl) (s' : Sto) : Prop := s' = s0 ∧ ∃ n : Nat, 1 ≤ n ∧ n ≤ L ∧ m = L - n ∧ σ = σ0.set 4 (some (.int n))
section
variable {j : Nat} {E : XQ}
theorem ltok_ok {a : List Nat} (hl : a.length ≤ 100000) {s : Sto} {Q : QE} (h : ∀ v s', Kp (fun _ => False) s s' → (match tk a.length a with
    | none => v = D.non
    | some l => ∃ n, v = .ref n ∧ s'[n]? = some (.lst (l.map .str))) → Q v s') : Lv (TT) (j + 2) i_law_tokens [.str a] s Q E := by
  refine lv_in (fn := d_law_tokens.fn) rfl rfl ?_
  dsimp only [d_law_tokens, b_law_tokens_1]
  walk_at "run"
  refine ⟨by decide, ?_⟩
  refine whl_of (LI a s) _ ⟨0, by omega, rfl, none, [], a.length, rfl, get_new, by simp, Kp.push, by omega, by simp⟩ ?_
  rintro m σ s' N ⟨i, hi, rfl, x4, got, n, rfl, hg, hgl, kp, hn, ht⟩ hN
  have done : ∀ s'', Kp (fun n => n = s.length) s' s'' → tk a.length a = none → Q .non s'' := fun s'' k2 e => h .non s'' ((kp.trans k2).mono fun n hn e => by omega) (by rw [e])
  unfold b_law_tokens_2 b_law_tokens_1_1
  walk_at "run"
  refine br_dec (fun hlt => ?_) (fun hge => ?_)
  case refine_2 =>
    have : a.length ≤ i := by omega
    rw [List.drop_of_length_le this, tk_nil] at ht
    refine h _ s' (kp.mono fun n hn e => by omega) ?_
    rw [ht]
    exact ⟨_, rfl, by simpa using hg⟩
  have hlt' : i < a.length := by omega
  obtain ⟨c, r, hd⟩ : ∃ c r, a.drop i = c :: r := by
    cases hd : a.drop i with
    | nil =>
      have := congrArg List.length hd
      simp only [List.length_drop, List.length_nil] at this
      omega
    | cons c r => exact ⟨c, r, rfl⟩
  obtain ⟨g1, g2, g3⟩ := drop_get hd
  obtain ⟨n, rfl⟩ : ∃ n', n = n' + 1 := ⟨n - 1, by omega⟩
  rw [hd] at ht
  have hlen := congrArg List.length hd
  simp only [List.length_drop, List.length_cons] at hlen
  refine ix_str (c := c) (by rw [atI_k, g1]) ?_
  walk_at "run"
  have tail : ∀ (L : Nat) (s'' : Sto), 1 ≤ L → i + L ≤ a.length → s''[s.length]? = some (.lst (got.map .str)) → Kp (fun n => n = s.length) s' s'' →
      (if c = 32 then tk a.length a = (tk n (a.drop (i + L))).map (got ++ ·) else tk a.length a = (tk n (a.drop (i + L))).map ((got ++ [(c :: r).take L]) ++ ·)) →
      xSs (Lv (TT) (j + 1)) b_law_tokens_2_1 [some (.str a), some (.str LD), some (.ref s.length), some (.int i), some (.int L)] s'' N := fun L s'' h1 h2 hg' k2 he => by
    unfold b_law_tokens_2_1
    walk_at "run"
    refine ix_str (c := c) (by rw [atI_k, g1]) ?_
    walk_at "run"
    have e32 : ([c] = [32]) ↔ c = 32 := by simp
    refine br_ndec (fun hc => ?_) (fun hc => ?_)
    · rw [if_neg (fun z => hc (e32.mpr z))] at he
      unfold b_law_tokens_3 b_law_tokens_2_2
      walk_at "run"
      have e1 : ((i : Int) + L).toNat - (i : Int).toNat = L := by omega
      refine ⟨mty_ref hg' (by decide), rfl, rfl, ?_⟩
      rw [cut_nn (by omega) (by omega), e1, Int.toNat_natCast, hd]
      refine app_ref hg' (by rw [List.length_map]; show _ < 2 ^ 24; omega) ?_
      refine hN.nx _ _ ⟨_, ?_, i + L, by omega, rfl, _, got ++ [(c :: r).take L], n, rfl, ?_, ?_, ?_, by omega, he⟩
      · omega
      · rw [get_set hg', List.map_append]; rfl
      · simp only [List.length_append, List.length_cons, List.length_nil]; omega
      · exact (kp.trans k2).trans (Kp.set rfl)
    · rw [if_pos (e32.mp hc)] at he
      unfold b_law_tokens_2_2
      walk_at "run"
      refine hN.nx _ _ ⟨_, ?_, i + L, by omega, rfl, _, got, n, rfl, hg', by omega, kp.trans k2, by omega, he⟩
      omega
  show br (some (subS [c] LD)) _ _
  rw [sub_one, ← aln_LD]
  refine br_b (fun hc => ?_) (fun hc => ?_)
  · unfold b_law_tokens_4
    walk_at "run"
    have hL0 : 0 < ((c :: r).takeWhile aln).length := by rw [List.takeWhile_cons, if_pos hc]; simp
    have hle : ((c :: r).takeWhile aln).length ≤ (c :: r).length := (List.takeWhile_sublist _).length_le
    rw [List.length_cons] at hle
    refine whl_of (WI a i ((c :: r).takeWhile aln).length [some (.str a), some (.str LD), some (.ref s.length), some (.int i), some (.int 1)] s') _ ⟨rfl, 1, Nat.le_refl _, hL0, rfl, rfl⟩ ?_
    rintro m σ s2 N2 ⟨rfl, k, hk1, hkL, rfl, rfl⟩ hN2
    unfold b_law_tokens_6
    walk_at "run"
    have gk : a[i + k]? = (c :: r)[k]? := by rw [← hd, List.getElem?_drop]
    have e1 : ((i : Int) + k) = ((i + k : Nat) : Int) := by omega
    rw [e1]
    by_cases hk : k < ((c :: r).takeWhile aln).length
    · obtain ⟨d, e, hd'⟩ := tw_get aln (c :: r) k hk
      refine br_yes (by omega) ?_
      refine ix_str (c := d) (by rw [atI_k, gk, e]) ?_
      walk_at "run"
      show br (some (subS [d] LD)) _ _
      rw [sub_one, ← aln_LD]
      refine br_t hd' (hN2.nx _ _ ⟨_, ?_, rfl, k + 1, by omega, by omega, rfl, rfl⟩)
      omega
    · have hkk : k = ((c :: r).takeWhile aln).length := by omega
      have out : xSs (Lv (TT) (j + 1)) b_law_tokens_4_1 [some (.str a), some (.str LD), some (.ref s.length), some (.int i), some (.int k)] s2
          { nx := fun σ s => xSs (Lv (TT) (j + 1)) b_law_tokens_2_1 σ s N, rt := N.rt, bk := N.bk, ct := N.ct, ex := N.ex } := by
        unfold b_law_tokens_4_1 b_law_tokens_5
        walk_at "run"
        refine ⟨rfl, rfl, ?_⟩
        have e2 : ((i : Int) + k).toNat - (i : Int).toNat = k := by omega
        rw [cut_nn (by omega) (by omega), e2, Int.toNat_natCast, hd, hkk, tw_take]
        refine word_ok (tw_all aln _) (fun z => by rw [z] at hL0; cases hL0) (by omega) fun v s3 k3 hv => ?_
        walk_at "run"
        have h3 := k3.get _ _ (fun z => z) hg
        simp only [tk, if_pos hc] at ht
        refine br_dec (fun z => ?_) (fun z => ?_)
        · rw [if_neg (by rw [hv.mp z]; decide)] at ht
          exact hN.rt _ _ (done s3 k3.none ht)
        · have ok : okW ((c :: r).takeWhile aln) = true := by
            cases hok : okW ((c :: r).takeWhile aln) with
            | true => rfl
            | false => exact absurd (hv.mpr hok) z
          rw [if_pos ok] at ht
          refine tail _ s3 hL0 (by omega) h3 k3.none ?_
          rw [if_neg (aln_32 hc), tw_take, ht, ← List.drop_drop, hd, tw_drop]
          cases tk n ((c :: r).dropWhile aln) <;> simp
      rcases tw_end aln (c :: r) with he | ⟨d, e, hd'⟩
      · rw [List.length_cons] at he
        exact br_no (by omega) (br_no (by omega) out)
      · rw [← hkk] at e
        have : k < (c :: r).length := (List.getElem?_eq_some_iff.mp e).1
        rw [List.length_cons] at this
        refine br_yes (by omega) ?_
        refine ix_str (c := d) (by rw [atI_k, gk, e]) ?_
        walk_at "run"
        show br (some (subS [d] LD)) _ _
        rw [sub_one, ← aln_LD]
        exact br_f hd' out
  · simp only [tk, if_neg (show ¬ aln c = true by rw [hc]; decide)] at ht
    unfold b_law_tokens_7
    walk_at "run"
    refine ⟨rfl, rfl, ?_⟩
    have e2 : ((i : Int) + 2).toNat - (i : Int).toNat = 2 := by omega
    rw [cut_nn (by omega) (by omega), e2, Int.toNat_natCast, hd]
    refine br_dec (fun heq => ?_) (fun heq => ?_)
    · unfold b_law_tokens_8
      walk_at "run"
      have hc61 : c = 61 := by
        have := congrArg List.head? heq
        simpa using this
      have hr : 0 < r.length := by
        cases r with
        | nil => simp at heq
        | cons _ _ => simp
      subst hc61
      rw [if_neg (by decide), if_pos (by decide), if_pos heq] at ht
      refine tail 2 s' (by omega) (by omega) hg (Kp.refl _ _) ?_
      have : a.drop (i + 2) = r.drop 1 := by rw [← List.drop_drop, hd]; rfl
      rw [if_neg (by decide), heq, this, ht]
      cases tk n (r.drop 1) <;> simp
    · unfold b_law_tokens_9
      walk_at "run"
      refine ix_str (c := c) (by rw [atI_k, g1]) ?_
      walk_at "run"
      rw [sub_one]
      refine br_ndec (fun hs => ?_) (fun hs => ?_)
      · have hs : ¬ c ∈ 32 :: SIG := hs
        rw [List.mem_cons, not_or] at hs
        rw [if_neg hs.1, if_neg hs.2] at ht
        unfold b_law_tokens_10
        walk_at "run"
        exact hN.rt _ _ (done s' (Kp.refl _ _) ht)
      · have hs : c ∈ 32 :: SIG := hs
        refine tail 1 s' (by omega) (by omega) hg (Kp.refl _ _) ?_
        rw [g3]
        by_cases h32 : c = 32
        · rw [if_pos h32] at ht ⊢
          exact ht
        · rw [if_neg h32] at ht ⊢
          rw [if_pos ((List.mem_cons.mp hs).resolve_left h32), if_neg heq] at ht
          rw [ht]
          cases tk n r <;> simp
end
end K01

namespace K01
open PySem PX Tk Sx
theorem br_at {o : Option Bool} {A B : Prop} (h : o = some true) (k : A) : br o A B := by subst h; exact k
theorem br_af {o : Option Bool} {A B : Prop} (h : o = some false) (k : B) : br o A B := by subst h; exact k
theorem ob_at {o : Option Bool} {K : Bool → Prop} (h : o = some true) (k : K true) : obl o K := by subst h; exact k
theorem ob_af {o : Option Bool} {K : Bool → Prop} (h : o = some false) (k : K false) : obl o K := by subst h; exact k
def LVK : List (D × D) := [(.str [108, 101, 115, 115], .int 0), (.str [115, 97, 109, 101], .int 0), (.str [97, 100, 100], .int 1), (.str [115, 117, 98], .int 1), (.str [109, 117, 108], .int 2), (.str [108, 101, 110], .int 3), (.str [107, 105, 110, 100], .int 3)]
theorem lvl_up : pairUp [.str [108, 101, 115, 115], .int 0, .str [115, 97, 109, 101], .int 0, .str [97, 100, 100], .int 1, .str [115, 117, 98], .int 1, .str [109, 117, 108], .int 2, .str [108, 101, 110], .int 3, .str [107, 105, 110, 100], .int 3] = some LVK := rfl
def SGK : List (D × D) := [(.str [108, 101, 115, 115], .str [32, 60, 32]), (.str [115, 97, 109, 101], .str [32, 61, 61, 32]), (.str [97, 100, 100], .str [32, 43, 32]), (.str [115, 117, 98], .str [32, 45, 32]), (.str [109, 117, 108], .str [32, 42, 32])]
theorem sgn_up : pairUp [.str [108, 101, 115, 115], .str [32, 60, 32], .str [115, 97, 109, 101], .str [32, 61, 61, 32], .str [97, 100, 100], .str [32, 43, 32], .str [115, 117, 98], .str [32, 45, 32], .str [109, 117, 108], .str [32, 42, 32]] = some SGK := rfl
theorem get2_ref {s : Sto} {n : Nat} {kvs : List (D × D)} {k d : D} {Q : QE} (hs : s[n]? = some (.dic kvs)) (hk : keyOk k = true) (h : Q ((dGet kvs k).getD d) s) : xMeth .get2 (.ref n) [k, d] s Q := by
  simp only [xMeth, dicOf, hs]
  refine ⟨?_, h⟩
  cases k <;> first | exact hk | cases hk
theorem lvl_ok {s : Sto} {k : List Nat} {v : Int} {Q : QE} (hv : (dGet LVK (.str k)).getD (.int 4) = .int v) (h : ∀ s', Kp (fun _ => False) s s' → Q (.int v) s') : (s ++ [Ob.dic []])[s.length]? = some (Ob.dic []) ∧ LVK.length ≤ 15 ∧ mTy .get2 (.ref s.length) (List.set (s ++ [.dic []]) s.length (.dic (List.foldl (fun acc p => dPut acc p.1 p.2) [] LVK))) ∧ xMeth .get2 (.ref s.length) [.str k, .int 4] (List.set (s ++ [.dic []]) s.length (.dic (List.foldl (fun acc p => dPut acc p.1 p.2) [] LVK))) Q := by
  have e : List.foldl (fun acc (p : D × D) => dPut acc p.1 p.2) [] LVK = LVK := by decide
  rw [e, set_new]
  refine ⟨get_new, by decide, ?_, get2_ref get_new rfl ?_⟩
  · simp only [mTy, dicOf, get_new, Option.isSome]
  · rw [hv]
    exact h _ Kp.push
theorem sgn_ok {s : Sto} {k t : List Nat} {Q : QE} (hv : dGet SGK (.str k) = some (.str t)) (h : ∀ s', Kp (fun _ => False) s s' → Q (.str t) s') : (s ++ [Ob.dic []])[s.length]? = some (Ob.dic []) ∧ SGK.length ≤ 15 ∧ xIx (.ref s.length) (.str k) (List.set (s ++ [.dic []]) s.length (.dic (List.foldl (fun acc p => dPut acc p.1 p.2) [] SGK))) Q := by
  have e : List.foldl (fun acc (p : D × D) => dPut acc p.1 p.2) [] SGK = SGK := by decide
  rw [e, set_new]
  exact ⟨get_new, by decide, ix_dic (dic_ref get_new) rfl hv (h _ Kp.push)⟩
/-- texts of a list's items -/
theorem lc_strs {T : Nat → Option Fn} {k : Nat} {tg : TG} {o : WK} {xs : List D} {elt : EX} {own : List Nat} {σ : Sl} {s : Sto} {K : Sto → Prop} (ts : List (List Nat)) (hlen : xs.length = ts.length) (hl : xs.length < sizeLine) (ho : ∀ s', Kp (fun p => p = s.length) s s' → chk o xs s')
    (step : ∀ (i : Nat) (x : D) (t : List Nat) (s1 : Sto) (Q : QE), xs[i]? = some x → ts[i]? = some t → Kp (fun p => p = s.length) s s1 → (∀ s2, Kp (fun _ => False) s1 s2 → Q (.str t) s2) → xTg tg x (wipeS σ own) fun σ' => xE (Lv T k) elt σ' s1 Q (fun _ _ _ => False))
    (fin : ∀ s', Kp (fun p => p = s.length) s s' → s'[s.length]? = some (.lst (ts.map .str)) → K s') : lcGo tg o xs s.length (fun σ' s' K => xIf (Lv T k) [] σ' s' K) (fun σ' s' K => xE (Lv T k) elt σ' s' K (fun _ _ _ => False)) own σ xs (s ++ [.lst []]) K := by
  refine lc_map (f := fun i _ => .str (ts.getD i [])) hl ho ?_ ?_
  · intro i x s1 Q hx k1 hq
    have hi := (List.getElem?_eq_some_iff.mp hx).1
    have ht : ts[i]? = some (ts.getD i []) := by rw [List.getD_eq_getElem?_getD, List.getElem?_eq_getElem (by omega)]; rfl
    exact step i x _ s1 Q hx ht k1 hq
  · intro s' k' hg
    refine fin s' k' ?_
    rw [hg]
    congr 2
    apply List.ext_getElem?
    intro i
    rw [List.getElem?_mapIdx, List.getElem?_map]
    by_cases c : i < ts.length
    · rw [List.getElem?_eq_getElem (by omega), List.getElem?_eq_getElem c, List.getD_eq_getElem?_getD, List.getElem?_eq_getElem c]
      rfl
    · rw [List.getElem?_eq_none (by omega), List.getElem?_eq_none (by omega)]
      rfl
theorem dEs_get {as : List Ex} {i : Nat} {x : D} {t : List Nat} (hx : (dEs as)[i]? = some x) (ht : (txs as)[i]? = some t) : ∃ a, a ∈ as ∧ x = dE a ∧ t = tx a := by
  rw [dEs_map, List.getElem?_map] at hx
  rw [txs_map, List.getElem?_map] at ht
  cases e : as[i]? with
  | none => rw [e] at hx; cases hx
  | some a =>
    rw [e] at hx ht
    exact ⟨a, List.mem_of_getElem? e, (Option.some.inj hx).symm, (Option.some.inj ht).symm⟩
theorem dEs_len {as : List Ex} : (dEs as).length = as.length := by rw [dEs_map, List.length_map]
theorem txs_lenE {as : List Ex} : (txs as).length = as.length := by rw [txs_map, List.length_map]
section
variable {j : Nat} {E : XQ}
theorem text_fin {k : Nat} {x0 x3 x6 x7 x8 x9 : Option D} {p l r : Nat} {t : List Nat} {s : Sto} {N : En} (hr : s[r]? = some (.lst [])) (hl : t.length ≤ 100000) (h : ∀ s', Kp (fun _ => False) s s' → N.rt (.str (par (decide (l < p)) t)) s') : xSs (Lv TT k) b_law_text_e_1_1 [x0, some (.int p), some (.ref r), x3, some (.int l), some (.str t), x6, x7, x8, x9] s N := by
  have e24 := size24
  unfold b_law_text_e_1_1
  walk_at "run"
  refine br_dec (fun hlt => br_yes hlt ?_) (fun hlt => ?_)
  · unfold b_law_text_e_2 b_law_text_e_1_2
    walk_at "run"
    refine ⟨by omega, by omega, ?_⟩
    have := h s (Kp.refl _ _)
    rw [decide_eq_true (show l < p by omega)] at this
    exact this
  · refine ⟨by decide, ?_⟩
    rw [ne_nil hr]
    walk_at "run"
    unfold b_law_text_e_1_2
    walk_at "run"
    have := h _ (Kp.push (t := [Ob.lst []]))
    rw [decide_eq_false (show ¬ l < p by omega)] at this
    exact this
set_option maxHeartbeats 0 in
theorem text_e_ok {vs : List Nm} (hv : ∀ x ∈ vs, Name x) : ∀ (d : Nat) (e : Ex) (p r : Nat) (s : Sto) (Q : QE) (E : XQ), dp e ≤ d → WE vs e → nd e ≤ 1000 → s[r]? = some (.lst []) → (∀ s', Kp (fun _ => False) s s' → Q (.str (tp p e)) s') → Lv TT (j + d) i_law_text_e [dE e, .int p, .ref r] s Q E := by
  intro d
  induction d with
  | zero => intro e p r s Q E h; have := dp_pos e; omega
  | succ d ih =>
    intro e p r s Q E hd hw hn hr h
    show Lv TT (j + d + 1) _ _ _ _ _
    refine lv_in (fn := d_law_text_e.fn) rfl rfl ?_
    dsimp only [d_law_text_e, b_law_text_e_1]
    have e24 := size24
    have tl := tx_len hv e hw
    have hrl := lt_of_get hr
    have fin : ∀ {x0 x3 x6 x7 x8 x9 : Option D} {l : Nat} {t : List Nat} {s1 : Sto} {N : En}, e.lv = l → tx e = t → Kp (fun _ => False) s s1 → N.rt = Q → xSs (Lv TT (j + d)) b_law_text_e_1_1 [x0, some (.int p), some (.ref r), x3, some (.int l), some (.str t), x6, x7, x8, x9] s1 N := fun {x0 x3 x6 x7 x8 x9 l t s1 N} e1 e2 k1 hN => by
      refine text_fin (k1.get _ _ id hr) (by rw [← e2]; omega) fun s' k' => ?_
      rw [hN, ← e1, ← e2]
      exact h s' (k1.trans k')
    -- the arguments
    have args : ∀ {as : List Ex} {s1 : Sto} {σ : Sl} {elt : EX} {K : Sto → Prop}, dps as ≤ d → WEs vs as → nds as ≤ 1000 → Kp (fun _ => False) s s1 → (∀ (a : Ex) (s2 : Sto) (Q : QE), (∀ E : XQ, Lv TT (j + d) i_law_text_e [dE a, .int 0, .ref r] s2 Q E) → xE (Lv TT (j + d)) elt ((wipeS σ [7]).set 7 (some (dE a))) s2 Q (fun _ _ _ => False)) → (∀ s2, Kp (fun _ => False) s s2 → s1.length < s2.length → s2[s1.length]? = some (.lst ((txs as).map .str)) → K s2) →
        lcGo (.nm 7) .free (dEs as) s1.length (fun σ' s' K => xIf (Lv TT (j + d)) [] σ' s' K) (fun σ' s' K => xE (Lv TT (j + d)) elt σ' s' K (fun _ _ _ => False)) [7] σ (dEs as) (s1 ++ [.lst []]) K := fun {as s1 σ elt K} h1 h2 h3 k1 he hK => by
      have hal := nds_len as
      have hl1 := k1.len
      refine lc_strs (txs as) (by rw [dEs_len, txs_lenE]) (by rw [dEs_len]; omega) (fun _ _ => trivial) (fun i x t s2 Q hx ht k2 hq => ?_) fun s2 k2 hg => hK s2 (((k1.mono (r' := fun p => p = s1.length) fun _ _ z => z.elim).trans k2).mono fun p hp z => by omega) (lt_of_get hg) hg
      obtain ⟨a, ha, rfl, rfl⟩ := dEs_get hx ht
      refine he a s2 Q fun E' => ?_
      refine ih a 0 r s2 Q E' (dps_le h1 a ha) (WEs_all.mp h2 a ha) (nds_le h3 a ha) (k2.get _ _ (by omega) (k1.get _ _ id hr)) fun s3 k3 => ?_
      rw [tp_zero]
      exact hq s3 k3
    have jn : ∀ {as : List Ex}, WEs vs as → nds as ≤ 1000 → ((txs as).map List.length).sum + (txs as).length * 2 ≤ 16777216 ∧ (joinS [44, 32] (txs as)).length ≤ 24 * nds as := fun {as} h1 h2 => by
      have := txs_len hv as h1
      exact ⟨by omega, join_len (by simp only [List.length_cons, List.length_nil]; omega)⟩
    have tpl : ∀ {a : Ex} {p : Nat}, WE vs a → (tp p a).length + 2 ≤ 24 * nd a := fun {a p} ha => by
      have := tx_len hv a ha
      have := par_len (b := decide (a.lv < p)) (t := tx a)
      unfold tp
      omega
    cases e with
    | num n =>
      rw [dE]
      walk_at "run"
      rw [PX.x0]
      walk_at "run"
      rw [lvl_up]
      dsimp only
      refine lvl_ok (v := 4) rfl fun s1 k1 => ?_
      first | refine br_at rfl ?_ | refine br_af rfl ?_ | refine ob_at rfl ?_ | refine ob_af rfl ?_
      unfold b_law_text_e_3
      walk_at "run"
      rw [PX.x1]
      walk_at "run"
      have hn1 : n < 1000 := hw
      refine ⟨⟨by omega, by omega⟩, ?_⟩
      exact fin rfl rfl k1 rfl
    | wd k =>
      cases k <;> (
        rw [dE]
        walk_at "run"
        rw [PX.x0]
        walk_at "run"
        rw [lvl_up]
        dsimp only
        refine lvl_ok (v := 4) rfl fun s1 k1 => ?_
        first | refine br_at rfl ?_ | refine br_af rfl ?_ | refine ob_at rfl ?_ | refine ob_af rfl ?_
        unfold b_law_text_e_4
        walk_at "run"
        refine ⟨by decide, ?_⟩
        first | refine br_at rfl ?_ | refine br_af rfl ?_ | refine ob_at rfl ?_ | refine ob_af rfl ?_
        walk_at "run"
        unfold b_law_text_e_5
        walk_at "run"
        exact fin rfl rfl k1 rfl)
    | var x =>
      rw [dE]
      walk_at "run"
      rw [PX.x0]
      walk_at "run"
      rw [lvl_up]
      dsimp only
      refine lvl_ok (v := 4) rfl fun s1 k1 => ?_
      first | refine br_at rfl ?_ | refine br_af rfl ?_ | refine ob_at rfl ?_ | refine ob_af rfl ?_
      unfold b_law_text_e_4
      walk_at "run"
      refine ⟨by decide, ?_⟩
      first | refine br_at rfl ?_ | refine br_af rfl ?_ | refine ob_at rfl ?_ | refine ob_af rfl ?_
      walk_at "run"
      unfold b_law_text_e_6
      walk_at "run"
      first | refine br_at rfl ?_ | refine br_af rfl ?_ | refine ob_at rfl ?_ | refine ob_af rfl ?_
      unfold b_law_text_e_7
      walk_at "run"
      rw [PX.x1]
      walk_at "run"
      exact fin rfl rfl k1 rfl
    | call k f as =>
      obtain ⟨w1, w2, w3⟩ := hw
      have h1 : dps as ≤ d := by simp only [dp] at hd; omega
      have h2 : nds as ≤ 1000 := by simp only [nd] at hn; omega
      have h3 := jn w3 h2
      have h4 := w1.len
      cases k with
      | call =>
        rw [dE]
        walk_at "run"
        rw [PX.x0]
        walk_at "run"
        rw [lvl_up]
        dsimp only
        refine lvl_ok (v := 4) rfl fun s1 k1 => ?_
        first | refine br_at rfl ?_ | refine br_af rfl ?_ | refine ob_at rfl ?_ | refine ob_af rfl ?_
        unfold b_law_text_e_4
        walk_at "run"
        refine ⟨by decide, ?_⟩
        first | refine br_at rfl ?_ | refine br_af rfl ?_ | refine ob_at rfl ?_ | refine ob_af rfl ?_
        walk_at "run"
        unfold b_law_text_e_6
        walk_at "run"
        first | refine br_at rfl ?_ | refine br_af rfl ?_ | refine ob_at rfl ?_ | refine ob_af rfl ?_
        unfold b_law_text_e_8
        walk_at "run"
        refine ⟨by decide, ?_⟩
        first | refine br_at rfl ?_ | refine br_af rfl ?_ | refine ob_at rfl ?_ | refine ob_af rfl ?_
        walk_at "run"
        unfold b_law_text_e_9
        walk_at "run"
        rw [PX.x2]
        walk_at "run"
        unfold i_law_text_e_1
        refine ⟨trivial, args h1 w3 h2 k1 (fun a s2 Q hL => ?_) fun s2 k2 hl2 hg => ?_⟩
        · unfold l_law_text_e_1
          simp only [wipeS]
          walk_at "run"
          exact hL _
        refine join_ref hg h3.1 ?_
        walk_at "run"
        unfold b_law_text_e_9_1
        walk_at "run"
        refine ⟨by decide, ?_⟩
        refine ix_ref get_new atI_z ?_
        walk_at "run"
        rw [PX.x1]
        walk_at "run"
        refine ⟨by first | omega | (simp only [KU.w, KC.w, KB.w, KB.sg, List.length_append, List.length_cons, List.length_nil]; omega) | (simp [KU.w, KC.w, KB.w, KB.sg]; omega), by first | omega | (simp only [KU.w, KC.w, KB.w, KB.sg, List.length_append, List.length_cons, List.length_nil]; omega) | (simp [KU.w, KC.w, KB.w, KB.sg]; omega), by first | omega | (simp only [KU.w, KC.w, KB.w, KB.sg, List.length_append, List.length_cons, List.length_nil]; omega) | (simp [KU.w, KC.w, KB.w, KB.sg]; omega), by first | omega | (simp only [KU.w, KC.w, KB.w, KB.sg, List.length_append, List.length_cons, List.length_nil]; omega) | (simp [KU.w, KC.w, KB.w, KB.sg]; omega), ?_⟩
        exact fin rfl rfl (k2.trans Kp.push) rfl
      | bind =>
        rw [dE]
        walk_at "run"
        rw [PX.x0]
        walk_at "run"
        rw [lvl_up]
        dsimp only
        refine lvl_ok (v := 4) rfl fun s1 k1 => ?_
        first | refine br_at rfl ?_ | refine br_af rfl ?_ | refine ob_at rfl ?_ | refine ob_af rfl ?_
        unfold b_law_text_e_4
        walk_at "run"
        refine ⟨by decide, ?_⟩
        first | refine br_at rfl ?_ | refine br_af rfl ?_ | refine ob_at rfl ?_ | refine ob_af rfl ?_
        walk_at "run"
        unfold b_law_text_e_6
        walk_at "run"
        first | refine br_at rfl ?_ | refine br_af rfl ?_ | refine ob_at rfl ?_ | refine ob_af rfl ?_
        unfold b_law_text_e_8
        walk_at "run"
        refine ⟨by decide, ?_⟩
        first | refine br_at rfl ?_ | refine br_af rfl ?_ | refine ob_at rfl ?_ | refine ob_af rfl ?_
        walk_at "run"
        unfold b_law_text_e_9
        walk_at "run"
        rw [PX.x2]
        walk_at "run"
        unfold i_law_text_e_1
        refine ⟨trivial, args h1 w3 h2 k1 (fun a s2 Q hL => ?_) fun s2 k2 hl2 hg => ?_⟩
        · unfold l_law_text_e_1
          simp only [wipeS]
          walk_at "run"
          exact hL _
        refine join_ref hg h3.1 ?_
        walk_at "run"
        unfold b_law_text_e_9_1
        walk_at "run"
        refine ⟨by decide, ?_⟩
        refine ix_ref get_new atI_o ?_
        walk_at "run"
        rw [PX.x1]
        walk_at "run"
        refine ⟨by first | omega | (simp only [KU.w, KC.w, KB.w, KB.sg, List.length_append, List.length_cons, List.length_nil]; omega) | (simp [KU.w, KC.w, KB.w, KB.sg]; omega), by first | omega | (simp only [KU.w, KC.w, KB.w, KB.sg, List.length_append, List.length_cons, List.length_nil]; omega) | (simp [KU.w, KC.w, KB.w, KB.sg]; omega), by first | omega | (simp only [KU.w, KC.w, KB.w, KB.sg, List.length_append, List.length_cons, List.length_nil]; omega) | (simp [KU.w, KC.w, KB.w, KB.sg]; omega), by first | omega | (simp only [KU.w, KC.w, KB.w, KB.sg, List.length_append, List.length_cons, List.length_nil]; omega) | (simp [KU.w, KC.w, KB.w, KB.sg]; omega), ?_⟩
        exact fin rfl rfl (k2.trans Kp.push) rfl
    | list as =>
      obtain ⟨w2, w3⟩ := hw
      have h1 : dps as ≤ d := by simp only [dp] at hd; omega
      have h2 : nds as ≤ 1000 := by simp only [nd] at hn; omega
      have h3 := jn w3 h2
      rw [dE]
      walk_at "run"
      rw [PX.x0]
      walk_at "run"
      rw [lvl_up]
      dsimp only
      refine lvl_ok (v := 4) rfl fun s1 k1 => ?_
      first | refine br_at rfl ?_ | refine br_af rfl ?_ | refine ob_at rfl ?_ | refine ob_af rfl ?_
      unfold b_law_text_e_4
      walk_at "run"
      refine ⟨by decide, ?_⟩
      first | refine br_at rfl ?_ | refine br_af rfl ?_ | refine ob_at rfl ?_ | refine ob_af rfl ?_
      walk_at "run"
      unfold b_law_text_e_6
      walk_at "run"
      first | refine br_at rfl ?_ | refine br_af rfl ?_ | refine ob_at rfl ?_ | refine ob_af rfl ?_
      unfold b_law_text_e_8
      walk_at "run"
      refine ⟨by decide, ?_⟩
      first | refine br_at rfl ?_ | refine br_af rfl ?_ | refine ob_at rfl ?_ | refine ob_af rfl ?_
      walk_at "run"
      unfold b_law_text_e_10
      walk_at "run"
      first | refine br_at rfl ?_ | refine br_af rfl ?_ | refine ob_at rfl ?_ | refine ob_af rfl ?_
      unfold b_law_text_e_11
      walk_at "run"
      rw [PX.x1]
      walk_at "run"
      unfold i_law_text_e_2
      refine ⟨trivial, args h1 w3 h2 k1 (fun a s2 Q hL => ?_) fun s2 k2 hl2 hg => ?_⟩
      · unfold l_law_text_e_2
        simp only [wipeS]
        walk_at "run"
        exact hL _
      refine join_ref hg h3.1 ?_
      walk_at "run"
      refine ⟨by first | omega | (simp only [KU.w, KC.w, KB.w, KB.sg, List.length_append, List.length_cons, List.length_nil]; omega) | (simp [KU.w, KC.w, KB.w, KB.sg]; omega), by first | omega | (simp only [KU.w, KC.w, KB.w, KB.sg, List.length_append, List.length_cons, List.length_nil]; omega) | (simp [KU.w, KC.w, KB.w, KB.sg]; omega), ?_⟩
      exact fin rfl rfl k2 rfl
    | un k e =>
      have h1 : dp e ≤ d := by simp only [dp] at hd; omega
      have h2 : nd e ≤ 1000 := by simp only [nd] at hn; omega
      have h3 := tpl (p := 3) (show WE vs e from hw)
      cases k with
      | len =>
        rw [dE]
        walk_at "run"
        rw [PX.x0]
        walk_at "run"
        rw [lvl_up]
        dsimp only
        refine lvl_ok (v := 3) rfl fun s1 k1 => ?_
        first | refine br_at rfl ?_ | refine br_af rfl ?_ | refine ob_at rfl ?_ | refine ob_af rfl ?_
        unfold b_law_text_e_4
        walk_at "run"
        refine ⟨by decide, ?_⟩
        first | refine br_at rfl ?_ | refine br_af rfl ?_ | refine ob_at rfl ?_ | refine ob_af rfl ?_
        walk_at "run"
        unfold b_law_text_e_6
        walk_at "run"
        first | refine br_at rfl ?_ | refine br_af rfl ?_ | refine ob_at rfl ?_ | refine ob_af rfl ?_
        unfold b_law_text_e_8
        walk_at "run"
        refine ⟨by decide, ?_⟩
        first | refine br_at rfl ?_ | refine br_af rfl ?_ | refine ob_at rfl ?_ | refine ob_af rfl ?_
        walk_at "run"
        unfold b_law_text_e_10
        walk_at "run"
        first | refine br_at rfl ?_ | refine br_af rfl ?_ | refine ob_at rfl ?_ | refine ob_af rfl ?_
        unfold b_law_text_e_12
        walk_at "run"
        refine ⟨by decide, ?_⟩
        first | refine br_at rfl ?_ | refine br_af rfl ?_ | refine ob_at rfl ?_ | refine ob_af rfl ?_
        walk_at "run"
        unfold b_law_text_e_13
        walk_at "run"
        refine ⟨by first | omega | (simp only [KU.w, KC.w, KB.w, KB.sg, List.length_append, List.length_cons, List.length_nil]; omega) | (simp [KU.w, KC.w, KB.w, KB.sg]; omega), ?_⟩
        rw [PX.x1]
        refine ih e 3 r s1 _ _ h1 hw h2 (k1.get _ _ id hr) fun s2 k2 => ?_
        walk_at "run"
        refine ⟨by first | omega | (simp only [KU.w, KC.w, KB.w, KB.sg, List.length_append, List.length_cons, List.length_nil]; omega) | (simp [KU.w, KC.w, KB.w, KB.sg]; omega), ?_⟩
        exact fin rfl rfl (k1.trans k2) rfl
      | kind =>
        rw [dE]
        walk_at "run"
        rw [PX.x0]
        walk_at "run"
        rw [lvl_up]
        dsimp only
        refine lvl_ok (v := 3) rfl fun s1 k1 => ?_
        first | refine br_at rfl ?_ | refine br_af rfl ?_ | refine ob_at rfl ?_ | refine ob_af rfl ?_
        unfold b_law_text_e_4
        walk_at "run"
        refine ⟨by decide, ?_⟩
        first | refine br_at rfl ?_ | refine br_af rfl ?_ | refine ob_at rfl ?_ | refine ob_af rfl ?_
        walk_at "run"
        unfold b_law_text_e_6
        walk_at "run"
        first | refine br_at rfl ?_ | refine br_af rfl ?_ | refine ob_at rfl ?_ | refine ob_af rfl ?_
        unfold b_law_text_e_8
        walk_at "run"
        refine ⟨by decide, ?_⟩
        first | refine br_at rfl ?_ | refine br_af rfl ?_ | refine ob_at rfl ?_ | refine ob_af rfl ?_
        walk_at "run"
        unfold b_law_text_e_10
        walk_at "run"
        first | refine br_at rfl ?_ | refine br_af rfl ?_ | refine ob_at rfl ?_ | refine ob_af rfl ?_
        unfold b_law_text_e_12
        walk_at "run"
        refine ⟨by decide, ?_⟩
        first | refine br_at rfl ?_ | refine br_af rfl ?_ | refine ob_at rfl ?_ | refine ob_af rfl ?_
        walk_at "run"
        unfold b_law_text_e_13
        walk_at "run"
        refine ⟨by first | omega | (simp only [KU.w, KC.w, KB.w, KB.sg, List.length_append, List.length_cons, List.length_nil]; omega) | (simp [KU.w, KC.w, KB.w, KB.sg]; omega), ?_⟩
        rw [PX.x1]
        refine ih e 3 r s1 _ _ h1 hw h2 (k1.get _ _ id hr) fun s2 k2 => ?_
        walk_at "run"
        refine ⟨by first | omega | (simp only [KU.w, KC.w, KB.w, KB.sg, List.length_append, List.length_cons, List.length_nil]; omega) | (simp [KU.w, KC.w, KB.w, KB.sg]; omega), ?_⟩
        exact fin rfl rfl (k1.trans k2) rfl
    | fld e x =>
      have h1 : dp e ≤ d := by simp only [dp] at hd; omega
      have h2 : nd e ≤ 1000 := by simp only [nd] at hn; omega
      obtain ⟨w1, w2⟩ := hw
      have h3 := tpl (p := 4) w1
      have h4 := w2.len
      rw [dE]
      walk_at "run"
      rw [PX.x0]
      walk_at "run"
      rw [lvl_up]
      dsimp only
      refine lvl_ok (v := 4) rfl fun s1 k1 => ?_
      first | refine br_at rfl ?_ | refine br_af rfl ?_ | refine ob_at rfl ?_ | refine ob_af rfl ?_
      unfold b_law_text_e_4
      walk_at "run"
      refine ⟨by decide, ?_⟩
      first | refine br_at rfl ?_ | refine br_af rfl ?_ | refine ob_at rfl ?_ | refine ob_af rfl ?_
      walk_at "run"
      unfold b_law_text_e_6
      walk_at "run"
      first | refine br_at rfl ?_ | refine br_af rfl ?_ | refine ob_at rfl ?_ | refine ob_af rfl ?_
      unfold b_law_text_e_8
      walk_at "run"
      refine ⟨by decide, ?_⟩
      first | refine br_at rfl ?_ | refine br_af rfl ?_ | refine ob_at rfl ?_ | refine ob_af rfl ?_
      walk_at "run"
      unfold b_law_text_e_10
      walk_at "run"
      first | refine br_at rfl ?_ | refine br_af rfl ?_ | refine ob_at rfl ?_ | refine ob_af rfl ?_
      unfold b_law_text_e_12
      walk_at "run"
      refine ⟨by decide, ?_⟩
      first | refine br_at rfl ?_ | refine br_af rfl ?_ | refine ob_at rfl ?_ | refine ob_af rfl ?_
      walk_at "run"
      unfold b_law_text_e_14
      walk_at "run"
      first | refine br_at rfl ?_ | refine br_af rfl ?_ | refine ob_at rfl ?_ | refine ob_af rfl ?_
      unfold b_law_text_e_15
      walk_at "run"
      rw [PX.x1]
      refine ih e 4 r s1 _ _ h1 w1 h2 (k1.get _ _ id hr) fun s2 k2 => ?_
      walk_at "run"
      refine ⟨by first | omega | (simp only [KU.w, KC.w, KB.w, KB.sg, List.length_append, List.length_cons, List.length_nil]; omega) | (simp [KU.w, KC.w, KB.w, KB.sg]; omega), ?_⟩
      rw [PX.x2]
      walk_at "run"
      refine ⟨by first | omega | (simp only [KU.w, KC.w, KB.w, KB.sg, List.length_append, List.length_cons, List.length_nil]; omega) | (simp [KU.w, KC.w, KB.w, KB.sg]; omega), ?_⟩
      exact fin rfl rfl (k1.trans k2) rfl
    | app e as =>
      have h1 : dp e ≤ d := by simp only [dp] at hd; omega
      have h1' : dps as ≤ d := by simp only [dp] at hd; omega
      have h2 : nd e ≤ 1000 := by simp only [nd] at hn; omega
      have h2' : nds as ≤ 1000 := by simp only [nd] at hn; omega
      obtain ⟨w1, w2, w3⟩ := hw
      have h3 := tpl (p := 4) w1
      have h4 := jn w3 h2'
      rw [dE]
      walk_at "run"
      rw [PX.x0]
      walk_at "run"
      rw [lvl_up]
      dsimp only
      refine lvl_ok (v := 4) rfl fun s1 k1 => ?_
      first | refine br_at rfl ?_ | refine br_af rfl ?_ | refine ob_at rfl ?_ | refine ob_af rfl ?_
      unfold b_law_text_e_4
      walk_at "run"
      refine ⟨by decide, ?_⟩
      first | refine br_at rfl ?_ | refine br_af rfl ?_ | refine ob_at rfl ?_ | refine ob_af rfl ?_
      walk_at "run"
      unfold b_law_text_e_6
      walk_at "run"
      first | refine br_at rfl ?_ | refine br_af rfl ?_ | refine ob_at rfl ?_ | refine ob_af rfl ?_
      unfold b_law_text_e_8
      walk_at "run"
      refine ⟨by decide, ?_⟩
      first | refine br_at rfl ?_ | refine br_af rfl ?_ | refine ob_at rfl ?_ | refine ob_af rfl ?_
      walk_at "run"
      unfold b_law_text_e_10
      walk_at "run"
      first | refine br_at rfl ?_ | refine br_af rfl ?_ | refine ob_at rfl ?_ | refine ob_af rfl ?_
      unfold b_law_text_e_12
      walk_at "run"
      refine ⟨by decide, ?_⟩
      first | refine br_at rfl ?_ | refine br_af rfl ?_ | refine ob_at rfl ?_ | refine ob_af rfl ?_
      walk_at "run"
      unfold b_law_text_e_14
      walk_at "run"
      first | refine br_at rfl ?_ | refine br_af rfl ?_ | refine ob_at rfl ?_ | refine ob_af rfl ?_
      unfold b_law_text_e_16
      walk_at "run"
      first | refine br_at rfl ?_ | refine br_af rfl ?_ | refine ob_at rfl ?_ | refine ob_af rfl ?_
      unfold b_law_text_e_18
      walk_at "run"
      first | refine br_at rfl ?_ | refine br_af rfl ?_ | refine ob_at rfl ?_ | refine ob_af rfl ?_
      unfold b_law_text_e_19
      walk_at "run"
      rw [PX.x1]
      refine ih e 4 r s1 _ _ h1 w1 h2 (k1.get _ _ id hr) fun s2 k2 => ?_
      walk_at "run"
      refine ⟨by first | omega | (simp only [KU.w, KC.w, KB.w, KB.sg, List.length_append, List.length_cons, List.length_nil]; omega) | (simp [KU.w, KC.w, KB.w, KB.sg]; omega), ?_⟩
      rw [PX.x2]
      walk_at "run"
      unfold i_law_text_e_3
      refine ⟨trivial, args h1' w3 h2' (k1.trans k2) (fun a s2 Q hL => ?_) fun s3 k3 hl3 hg => ?_⟩
      · unfold l_law_text_e_3
        simp only [wipeS]
        walk_at "run"
        exact hL _
      refine join_ref hg h4.1 ?_
      walk_at "run"
      refine ⟨by first | omega | (simp only [KU.w, KC.w, KB.w, KB.sg, List.length_append, List.length_cons, List.length_nil]; omega) | (simp [KU.w, KC.w, KB.w, KB.sg]; omega), by first | omega | (simp only [KU.w, KC.w, KB.w, KB.sg, List.length_append, List.length_cons, List.length_nil]; omega) | (simp [KU.w, KC.w, KB.w, KB.sg]; omega), ?_⟩
      exact fin rfl rfl k3 rfl
    | bin o a b =>
      have h1 : dp a ≤ d := by simp only [dp] at hd; omega
      have h1' : dp b ≤ d := by simp only [dp] at hd; omega
      have h2 : nd a ≤ 1000 := by simp only [nd] at hn; omega
      have h2' : nd b ≤ 1000 := by simp only [nd] at hn; omega
      obtain ⟨w1, w2⟩ := hw
      cases o with
      | item =>
        have h3 := tpl (p := 4) w1
        have h4 := tpl (p := 0) w2
        rw [dE]
        walk_at "run"
        rw [PX.x0]
        walk_at "run"
        rw [lvl_up]
        dsimp only
        refine lvl_ok (v := 4) rfl fun s1 k1 => ?_
        first | refine br_at rfl ?_ | refine br_af rfl ?_ | refine ob_at rfl ?_ | refine ob_af rfl ?_
        unfold b_law_text_e_4
        walk_at "run"
        refine ⟨by decide, ?_⟩
        first | refine br_at rfl ?_ | refine br_af rfl ?_ | refine ob_at rfl ?_ | refine ob_af rfl ?_
        walk_at "run"
        unfold b_law_text_e_6
        walk_at "run"
        first | refine br_at rfl ?_ | refine br_af rfl ?_ | refine ob_at rfl ?_ | refine ob_af rfl ?_
        unfold b_law_text_e_8
        walk_at "run"
        refine ⟨by decide, ?_⟩
        first | refine br_at rfl ?_ | refine br_af rfl ?_ | refine ob_at rfl ?_ | refine ob_af rfl ?_
        walk_at "run"
        unfold b_law_text_e_10
        walk_at "run"
        first | refine br_at rfl ?_ | refine br_af rfl ?_ | refine ob_at rfl ?_ | refine ob_af rfl ?_
        unfold b_law_text_e_12
        walk_at "run"
        refine ⟨by decide, ?_⟩
        first | refine br_at rfl ?_ | refine br_af rfl ?_ | refine ob_at rfl ?_ | refine ob_af rfl ?_
        walk_at "run"
        unfold b_law_text_e_14
        walk_at "run"
        first | refine br_at rfl ?_ | refine br_af rfl ?_ | refine ob_at rfl ?_ | refine ob_af rfl ?_
        unfold b_law_text_e_16
        walk_at "run"
        first | refine br_at rfl ?_ | refine br_af rfl ?_ | refine ob_at rfl ?_ | refine ob_af rfl ?_
        unfold b_law_text_e_17
        walk_at "run"
        rw [PX.x1]
        refine ih a 4 r s1 _ _ h1 w1 h2 (k1.get _ _ id hr) fun s2 k2 => ?_
        walk_at "run"
        refine ⟨by first | omega | (simp only [KU.w, KC.w, KB.w, KB.sg, List.length_append, List.length_cons, List.length_nil]; omega) | (simp [KU.w, KC.w, KB.w, KB.sg]; omega), ?_⟩
        rw [PX.x2]
        refine ih b 0 r s2 _ _ h1' w2 h2' (k2.get _ _ id (k1.get _ _ id hr)) fun s3 k3 => ?_
        walk_at "run"
        refine ⟨by first | omega | (simp only [KU.w, KC.w, KB.w, KB.sg, List.length_append, List.length_cons, List.length_nil]; omega) | (simp [KU.w, KC.w, KB.w, KB.sg]; omega), by first | omega | (simp only [KU.w, KC.w, KB.w, KB.sg, List.length_append, List.length_cons, List.length_nil]; omega) | (simp [KU.w, KC.w, KB.w, KB.sg]; omega), ?_⟩
        rw [tp_zero]
        exact fin rfl rfl ((k1.trans k2).trans k3) rfl
      | add =>
        have h3 := tpl (p := 1) w1
        have h4 := tpl (p := 2) w2
        rw [dE]
        walk_at "run"
        rw [PX.x0]
        walk_at "run"
        rw [lvl_up]
        dsimp only
        refine lvl_ok (v := 1) rfl fun s1 k1 => ?_
        first | refine br_at rfl ?_ | refine br_af rfl ?_ | refine ob_at rfl ?_ | refine ob_af rfl ?_
        unfold b_law_text_e_4
        walk_at "run"
        refine ⟨by decide, ?_⟩
        first | refine br_at rfl ?_ | refine br_af rfl ?_ | refine ob_at rfl ?_ | refine ob_af rfl ?_
        walk_at "run"
        unfold b_law_text_e_6
        walk_at "run"
        first | refine br_at rfl ?_ | refine br_af rfl ?_ | refine ob_at rfl ?_ | refine ob_af rfl ?_
        unfold b_law_text_e_8
        walk_at "run"
        refine ⟨by decide, ?_⟩
        first | refine br_at rfl ?_ | refine br_af rfl ?_ | refine ob_at rfl ?_ | refine ob_af rfl ?_
        walk_at "run"
        unfold b_law_text_e_10
        walk_at "run"
        first | refine br_at rfl ?_ | refine br_af rfl ?_ | refine ob_at rfl ?_ | refine ob_af rfl ?_
        unfold b_law_text_e_12
        walk_at "run"
        refine ⟨by decide, ?_⟩
        first | refine br_at rfl ?_ | refine br_af rfl ?_ | refine ob_at rfl ?_ | refine ob_af rfl ?_
        walk_at "run"
        unfold b_law_text_e_14
        walk_at "run"
        first | refine br_at rfl ?_ | refine br_af rfl ?_ | refine ob_at rfl ?_ | refine ob_af rfl ?_
        unfold b_law_text_e_16
        walk_at "run"
        first | refine br_at rfl ?_ | refine br_af rfl ?_ | refine ob_at rfl ?_ | refine ob_af rfl ?_
        unfold b_law_text_e_18
        walk_at "run"
        first | refine br_at rfl ?_ | refine br_af rfl ?_ | refine ob_at rfl ?_ | refine ob_af rfl ?_
        unfold b_law_text_e_20
        walk_at "run"
        rw [sgn_up]
        dsimp only
        refine sgn_ok (t := KB.add.sg) rfl fun s2 k2 => ?_
        walk_at "run"
        rw [PX.x1]
        refine ih a 1 r s2 _ _ h1 w1 h2 (k2.get _ _ id (k1.get _ _ id hr)) fun s3 k3 => ?_
        walk_at "run"
        have hsg : (KB.add.sg).length ≤ 4 := by decide
        refine ⟨by first | omega | (simp only [KU.w, KC.w, KB.w, KB.sg, List.length_append, List.length_cons, List.length_nil]; omega) | (simp [KU.w, KC.w, KB.w, KB.sg]; omega), ?_⟩
        rw [PX.x2]
        refine ih b 2 r s3 _ _ h1' w2 h2' (k3.get _ _ id (k2.get _ _ id (k1.get _ _ id hr))) fun s4 k4 => ?_
        walk_at "run"
        refine ⟨by first | omega | (simp only [KU.w, KC.w, KB.w, KB.sg, List.length_append, List.length_cons, List.length_nil]; omega) | (simp [KU.w, KC.w, KB.w, KB.sg]; omega), ?_⟩
        exact fin rfl rfl (((k1.trans k2).trans k3).trans k4) rfl
      | sub =>
        have h3 := tpl (p := 1) w1
        have h4 := tpl (p := 2) w2
        rw [dE]
        walk_at "run"
        rw [PX.x0]
        walk_at "run"
        rw [lvl_up]
        dsimp only
        refine lvl_ok (v := 1) rfl fun s1 k1 => ?_
        first | refine br_at rfl ?_ | refine br_af rfl ?_ | refine ob_at rfl ?_ | refine ob_af rfl ?_
        unfold b_law_text_e_4
        walk_at "run"
        refine ⟨by decide, ?_⟩
        first | refine br_at rfl ?_ | refine br_af rfl ?_ | refine ob_at rfl ?_ | refine ob_af rfl ?_
        walk_at "run"
        unfold b_law_text_e_6
        walk_at "run"
        first | refine br_at rfl ?_ | refine br_af rfl ?_ | refine ob_at rfl ?_ | refine ob_af rfl ?_
        unfold b_law_text_e_8
        walk_at "run"
        refine ⟨by decide, ?_⟩
        first | refine br_at rfl ?_ | refine br_af rfl ?_ | refine ob_at rfl ?_ | refine ob_af rfl ?_
        walk_at "run"
        unfold b_law_text_e_10
        walk_at "run"
        first | refine br_at rfl ?_ | refine br_af rfl ?_ | refine ob_at rfl ?_ | refine ob_af rfl ?_
        unfold b_law_text_e_12
        walk_at "run"
        refine ⟨by decide, ?_⟩
        first | refine br_at rfl ?_ | refine br_af rfl ?_ | refine ob_at rfl ?_ | refine ob_af rfl ?_
        walk_at "run"
        unfold b_law_text_e_14
        walk_at "run"
        first | refine br_at rfl ?_ | refine br_af rfl ?_ | refine ob_at rfl ?_ | refine ob_af rfl ?_
        unfold b_law_text_e_16
        walk_at "run"
        first | refine br_at rfl ?_ | refine br_af rfl ?_ | refine ob_at rfl ?_ | refine ob_af rfl ?_
        unfold b_law_text_e_18
        walk_at "run"
        first | refine br_at rfl ?_ | refine br_af rfl ?_ | refine ob_at rfl ?_ | refine ob_af rfl ?_
        unfold b_law_text_e_20
        walk_at "run"
        rw [sgn_up]
        dsimp only
        refine sgn_ok (t := KB.sub.sg) rfl fun s2 k2 => ?_
        walk_at "run"
        rw [PX.x1]
        refine ih a 1 r s2 _ _ h1 w1 h2 (k2.get _ _ id (k1.get _ _ id hr)) fun s3 k3 => ?_
        walk_at "run"
        have hsg : (KB.sub.sg).length ≤ 4 := by decide
        refine ⟨by first | omega | (simp only [KU.w, KC.w, KB.w, KB.sg, List.length_append, List.length_cons, List.length_nil]; omega) | (simp [KU.w, KC.w, KB.w, KB.sg]; omega), ?_⟩
        rw [PX.x2]
        refine ih b 2 r s3 _ _ h1' w2 h2' (k3.get _ _ id (k2.get _ _ id (k1.get _ _ id hr))) fun s4 k4 => ?_
        walk_at "run"
        refine ⟨by first | omega | (simp only [KU.w, KC.w, KB.w, KB.sg, List.length_append, List.length_cons, List.length_nil]; omega) | (simp [KU.w, KC.w, KB.w, KB.sg]; omega), ?_⟩
        exact fin rfl rfl (((k1.trans k2).trans k3).trans k4) rfl
      | mul =>
        have h3 := tpl (p := 2) w1
        have h4 := tpl (p := 3) w2
        rw [dE]
        walk_at "run"
        rw [PX.x0]
        walk_at "run"
        rw [lvl_up]
        dsimp only
        refine lvl_ok (v := 2) rfl fun s1 k1 => ?_
        first | refine br_at rfl ?_ | refine br_af rfl ?_ | refine ob_at rfl ?_ | refine ob_af rfl ?_
        unfold b_law_text_e_4
        walk_at "run"
        refine ⟨by decide, ?_⟩
        first | refine br_at rfl ?_ | refine br_af rfl ?_ | refine ob_at rfl ?_ | refine ob_af rfl ?_
        walk_at "run"
        unfold b_law_text_e_6
        walk_at "run"
        first | refine br_at rfl ?_ | refine br_af rfl ?_ | refine ob_at rfl ?_ | refine ob_af rfl ?_
        unfold b_law_text_e_8
        walk_at "run"
        refine ⟨by decide, ?_⟩
        first | refine br_at rfl ?_ | refine br_af rfl ?_ | refine ob_at rfl ?_ | refine ob_af rfl ?_
        walk_at "run"
        unfold b_law_text_e_10
        walk_at "run"
        first | refine br_at rfl ?_ | refine br_af rfl ?_ | refine ob_at rfl ?_ | refine ob_af rfl ?_
        unfold b_law_text_e_12
        walk_at "run"
        refine ⟨by decide, ?_⟩
        first | refine br_at rfl ?_ | refine br_af rfl ?_ | refine ob_at rfl ?_ | refine ob_af rfl ?_
        walk_at "run"
        unfold b_law_text_e_14
        walk_at "run"
        first | refine br_at rfl ?_ | refine br_af rfl ?_ | refine ob_at rfl ?_ | refine ob_af rfl ?_
        unfold b_law_text_e_16
        walk_at "run"
        first | refine br_at rfl ?_ | refine br_af rfl ?_ | refine ob_at rfl ?_ | refine ob_af rfl ?_
        unfold b_law_text_e_18
        walk_at "run"
        first | refine br_at rfl ?_ | refine br_af rfl ?_ | refine ob_at rfl ?_ | refine ob_af rfl ?_
        unfold b_law_text_e_20
        walk_at "run"
        rw [sgn_up]
        dsimp only
        refine sgn_ok (t := KB.mul.sg) rfl fun s2 k2 => ?_
        walk_at "run"
        rw [PX.x1]
        refine ih a 2 r s2 _ _ h1 w1 h2 (k2.get _ _ id (k1.get _ _ id hr)) fun s3 k3 => ?_
        walk_at "run"
        have hsg : (KB.mul.sg).length ≤ 4 := by decide
        refine ⟨by first | omega | (simp only [KU.w, KC.w, KB.w, KB.sg, List.length_append, List.length_cons, List.length_nil]; omega) | (simp [KU.w, KC.w, KB.w, KB.sg]; omega), ?_⟩
        rw [PX.x2]
        refine ih b 3 r s3 _ _ h1' w2 h2' (k3.get _ _ id (k2.get _ _ id (k1.get _ _ id hr))) fun s4 k4 => ?_
        walk_at "run"
        refine ⟨by first | omega | (simp only [KU.w, KC.w, KB.w, KB.sg, List.length_append, List.length_cons, List.length_nil]; omega) | (simp [KU.w, KC.w, KB.w, KB.sg]; omega), ?_⟩
        exact fin rfl rfl (((k1.trans k2).trans k3).trans k4) rfl
      | less =>
        have h3 := tpl (p := 1) w1
        have h4 := tpl (p := 1) w2
        rw [dE]
        walk_at "run"
        rw [PX.x0]
        walk_at "run"
        rw [lvl_up]
        dsimp only
        refine lvl_ok (v := 0) rfl fun s1 k1 => ?_
        first | refine br_at rfl ?_ | refine br_af rfl ?_ | refine ob_at rfl ?_ | refine ob_af rfl ?_
        unfold b_law_text_e_4
        walk_at "run"
        refine ⟨by decide, ?_⟩
        first | refine br_at rfl ?_ | refine br_af rfl ?_ | refine ob_at rfl ?_ | refine ob_af rfl ?_
        walk_at "run"
        unfold b_law_text_e_6
        walk_at "run"
        first | refine br_at rfl ?_ | refine br_af rfl ?_ | refine ob_at rfl ?_ | refine ob_af rfl ?_
        unfold b_law_text_e_8
        walk_at "run"
        refine ⟨by decide, ?_⟩
        first | refine br_at rfl ?_ | refine br_af rfl ?_ | refine ob_at rfl ?_ | refine ob_af rfl ?_
        walk_at "run"
        unfold b_law_text_e_10
        walk_at "run"
        first | refine br_at rfl ?_ | refine br_af rfl ?_ | refine ob_at rfl ?_ | refine ob_af rfl ?_
        unfold b_law_text_e_12
        walk_at "run"
        refine ⟨by decide, ?_⟩
        first | refine br_at rfl ?_ | refine br_af rfl ?_ | refine ob_at rfl ?_ | refine ob_af rfl ?_
        walk_at "run"
        unfold b_law_text_e_14
        walk_at "run"
        first | refine br_at rfl ?_ | refine br_af rfl ?_ | refine ob_at rfl ?_ | refine ob_af rfl ?_
        unfold b_law_text_e_16
        walk_at "run"
        first | refine br_at rfl ?_ | refine br_af rfl ?_ | refine ob_at rfl ?_ | refine ob_af rfl ?_
        unfold b_law_text_e_18
        walk_at "run"
        first | refine br_at rfl ?_ | refine br_af rfl ?_ | refine ob_at rfl ?_ | refine ob_af rfl ?_
        unfold b_law_text_e_20
        walk_at "run"
        rw [sgn_up]
        dsimp only
        refine sgn_ok (t := KB.less.sg) rfl fun s2 k2 => ?_
        walk_at "run"
        rw [PX.x1]
        refine ih a 1 r s2 _ _ h1 w1 h2 (k2.get _ _ id (k1.get _ _ id hr)) fun s3 k3 => ?_
        walk_at "run"
        have hsg : (KB.less.sg).length ≤ 4 := by decide
        refine ⟨by first | omega | (simp only [KU.w, KC.w, KB.w, KB.sg, List.length_append, List.length_cons, List.length_nil]; omega) | (simp [KU.w, KC.w, KB.w, KB.sg]; omega), ?_⟩
        rw [PX.x2]
        refine ih b 1 r s3 _ _ h1' w2 h2' (k3.get _ _ id (k2.get _ _ id (k1.get _ _ id hr))) fun s4 k4 => ?_
        walk_at "run"
        refine ⟨by first | omega | (simp only [KU.w, KC.w, KB.w, KB.sg, List.length_append, List.length_cons, List.length_nil]; omega) | (simp [KU.w, KC.w, KB.w, KB.sg]; omega), ?_⟩
        exact fin rfl rfl (((k1.trans k2).trans k3).trans k4) rfl
      | same =>
        have h3 := tpl (p := 1) w1
        have h4 := tpl (p := 1) w2
        rw [dE]
        walk_at "run"
        rw [PX.x0]
        walk_at "run"
        rw [lvl_up]
        dsimp only
        refine lvl_ok (v := 0) rfl fun s1 k1 => ?_
        first | refine br_at rfl ?_ | refine br_af rfl ?_ | refine ob_at rfl ?_ | refine ob_af rfl ?_
        unfold b_law_text_e_4
        walk_at "run"
        refine ⟨by decide, ?_⟩
        first | refine br_at rfl ?_ | refine br_af rfl ?_ | refine ob_at rfl ?_ | refine ob_af rfl ?_
        walk_at "run"
        unfold b_law_text_e_6
        walk_at "run"
        first | refine br_at rfl ?_ | refine br_af rfl ?_ | refine ob_at rfl ?_ | refine ob_af rfl ?_
        unfold b_law_text_e_8
        walk_at "run"
        refine ⟨by decide, ?_⟩
        first | refine br_at rfl ?_ | refine br_af rfl ?_ | refine ob_at rfl ?_ | refine ob_af rfl ?_
        walk_at "run"
        unfold b_law_text_e_10
        walk_at "run"
        first | refine br_at rfl ?_ | refine br_af rfl ?_ | refine ob_at rfl ?_ | refine ob_af rfl ?_
        unfold b_law_text_e_12
        walk_at "run"
        refine ⟨by decide, ?_⟩
        first | refine br_at rfl ?_ | refine br_af rfl ?_ | refine ob_at rfl ?_ | refine ob_af rfl ?_
        walk_at "run"
        unfold b_law_text_e_14
        walk_at "run"
        first | refine br_at rfl ?_ | refine br_af rfl ?_ | refine ob_at rfl ?_ | refine ob_af rfl ?_
        unfold b_law_text_e_16
        walk_at "run"
        first | refine br_at rfl ?_ | refine br_af rfl ?_ | refine ob_at rfl ?_ | refine ob_af rfl ?_
        unfold b_law_text_e_18
        walk_at "run"
        first | refine br_at rfl ?_ | refine br_af rfl ?_ | refine ob_at rfl ?_ | refine ob_af rfl ?_
        unfold b_law_text_e_20
        walk_at "run"
        rw [sgn_up]
        dsimp only
        refine sgn_ok (t := KB.same.sg) rfl fun s2 k2 => ?_
        walk_at "run"
        rw [PX.x1]
        refine ih a 1 r s2 _ _ h1 w1 h2 (k2.get _ _ id (k1.get _ _ id hr)) fun s3 k3 => ?_
        walk_at "run"
        have hsg : (KB.same.sg).length ≤ 4 := by decide
        refine ⟨by first | omega | (simp only [KU.w, KC.w, KB.w, KB.sg, List.length_append, List.length_cons, List.length_nil]; omega) | (simp [KU.w, KC.w, KB.w, KB.sg]; omega), ?_⟩
        rw [PX.x2]
        refine ih b 1 r s3 _ _ h1' w2 h2' (k3.get _ _ id (k2.get _ _ id (k1.get _ _ id hr))) fun s4 k4 => ?_
        walk_at "run"
        refine ⟨by first | omega | (simp only [KU.w, KC.w, KB.w, KB.sg, List.length_append, List.length_cons, List.length_nil]; omega) | (simp [KU.w, KC.w, KB.w, KB.sg]; omega), ?_⟩
        exact fin rfl rfl (((k1.trans k2).trans k3).trans k4) rfl
end
end K01

namespace K01
open PySem PX Tk Sx
theorem dE_hd (e : Ex) : ∃ l, dE e = .tup (.str e.w :: l) := by
  cases e <;> exact ⟨_, rfl⟩
theorem fd_ix {s : Sto} {x k v : D} {kvs : List (D × D)} {Q : QE} (hd : dicOf s x = some kvs) (hk : kOk x k = true) (hv : dGet kvs k = some v) (h : Q v s) : xIx x k s Q := by
  simp only [xIx, hd, hv]
  exact ⟨hk, h⟩
theorem lev_ok {s : Sto} {e : Ex} {Q : QE} (h : Q (.int e.lv) s) : mTy .get2 c_LEVELS s ∧ xMeth .get2 c_LEVELS [.str e.w, c_HIGHEST_LEVEL] s Q := by
  have hd : dicOf s c_LEVELS = some LVK := rfl
  have hg : (dGet LVK (.str e.w)).getD c_HIGHEST_LEVEL = .int e.lv := by
    cases e with
    | wd k => cases k <;> rfl
    | call k _ _ => cases k <;> rfl
    | un k _ => cases k <;> rfl
    | bin o _ _ => cases o <;> rfl
    | _ => rfl
  refine ⟨rfl, ?_⟩
  show (match dicOf s c_LEVELS with
    | some kvs => kOk c_LEVELS (.str e.w) = true ∧ Q ((dGet kvs (.str e.w)).getD c_HIGHEST_LEVEL) s
    | none => False)
  rw [hd]
  dsimp only
  rw [hg]
  exact ⟨rfl, h⟩
section
variable {j : Nat}
set_option maxHeartbeats 0 in
theorem bare_ok {vs : List Nm} (hv : ∀ x ∈ vs, Name x) : ∀ (d : Nat) (e : Ex) (s : Sto) (Q : QE) (E : XQ), dp e ≤ d → WE vs e → nd e ≤ 1000 → (∀ s', Kp (fun _ => False) s s' → Q (.str (tx e)) s') → Lv TT (j + 3 * d) i_bare_text [dE e] s Q E := by
  intro d
  induction d with
  | zero => intro e s Q E h; have := dp_pos e; omega
  | succ d ih =>
    have e24 := size24
    -- an expression at a place
    have ex : ∀ (e : Ex) (p : Nat) (s : Sto) (Q : QE) (E : XQ), dp e ≤ d → WE vs e → nd e ≤ 1000 → (∀ s', Kp (fun _ => False) s s' → Q (.str (tp p e)) s') → Lv TT (j + 3 * d + 1) i_expression_text [dE e, .int p] s Q E := fun e p s Q E hd hw hn h => by
      refine lv_in (fn := d_expression_text.fn) rfl rfl ?_
      dsimp only [d_expression_text, b_expression_text_1]
      walk_at "run"
      refine ih e s _ _ hd hw hn fun s1 k1 => ?_
      unfold b_expression_text_1_1
      walk_at "run"
      obtain ⟨l, el⟩ := dE_hd e
      have tl := tx_len hv e hw
      have := h s1 k1
      rw [el, PX.x0]
      unfold tp par at this
      refine ⟨(lev_ok (e := e) (Q := fun _ _ => True) trivial).1, (lev_ok ?_).2⟩
      walk_at "run"
      refine br_dec (fun hlt => ?_) (fun hlt => ?_)
      · unfold b_expression_text_2
        walk_at "run"
        rw [decide_eq_true (show e.lv < p by omega), if_pos rfl] at this
        exact ⟨by omega, by first | omega | (simp only [KU.w, KC.w, KB.w, KB.sg, List.length_append, List.length_cons, List.length_nil]; omega) | (simp [KU.w, KC.w, KB.w, KB.sg]; omega), this⟩
      · unfold b_expression_text_1_2
        walk_at "run"
        rw [decide_eq_false (show ¬ e.lv < p by omega), if_neg (by decide)] at this
        exact this
    have ar : ∀ (as : List Ex) (s : Sto) (Q : QE) (E : XQ), dps as ≤ d → WEs vs as → nds as ≤ 1000 → (∀ s', Kp (fun _ => False) s s' → Q (.str (joinS [44, 32] (txs as))) s') → Lv TT (j + 3 * d + 2) i_arguments_text [.tup (dEs as)] s Q E := fun as s Q E hd hw hn h => by
      refine lv_in (fn := d_arguments_text.fn) rfl rfl ?_
      dsimp only [d_arguments_text, b_arguments_text_1]
      walk_at "run"
      have hal := nds_len as
      unfold i_arguments_text_1
      refine ⟨trivial, lc_strs (txs as) (by rw [dEs_len, txs_lenE]) (by rw [dEs_len]; omega) (fun _ _ => trivial) (fun i x t s2 Q hx ht k2 hq => ?_) fun s2 k2 hg => ?_⟩
      · obtain ⟨a, ha, rfl, rfl⟩ := dEs_get hx ht
        unfold l_arguments_text_1
        simp only [wipeS]
        walk_at "run"
        refine ex a 0 s2 Q _ (dps_le hd a ha) (WEs_all.mp hw a ha) (nds_le hn a ha) fun s3 k3 => ?_
        rw [tp_zero]
        exact hq s3 k3
      · have := txs_len hv as hw
        refine join_ref hg (by simp only [List.length_cons, List.length_nil]; omega) ?_
        exact h s2 (k2.mono fun p hp z => by omega)
    intro e s Q E hd hw hn h
    show Lv TT (j + 3 * d + 2 + 1) _ _ _ _ _
    have tl := tx_len hv e hw
    have jn : ∀ {as : List Ex}, WEs vs as → (joinS [44, 32] (txs as)).length ≤ 24 * nds as := fun {as} h1 => by
      have := txs_len hv as h1
      exact join_len (by simp only [List.length_cons, List.length_nil]; omega)
    have tpl : ∀ {a : Ex} {p : Nat}, WE vs a → (tp p a).length + 2 ≤ 24 * nd a := fun {a p} ha => by
      have := tx_len hv a ha
      have := par_len (b := decide (a.lv < p)) (t := tx a)
      unfold tp
      omega
    refine lv_in (fn := d_bare_text.fn) rfl rfl ?_
    dsimp only [d_bare_text, b_bare_text_1]
    cases e with
    | num n =>
      rw [dE]
      walk_at "run"
      rw [PX.x0]
      walk_at "run"
      first | refine br_at rfl ?_ | refine br_af rfl ?_ | refine ob_at rfl ?_ | refine ob_af rfl ?_
      unfold b_bare_text_11
      walk_at "run"
      rw [PX.x1]
      walk_at "run"
      have hn1 : n < 1000 := hw
      exact ⟨⟨by omega, by omega⟩, h s (Kp.refl _ _)⟩
    | wd k =>
      cases k <;> (
        rw [dE]
        walk_at "run"
        rw [PX.x0]
        walk_at "run"
        first | refine br_at rfl ?_ | refine br_af rfl ?_ | refine ob_at rfl ?_ | refine ob_af rfl ?_
        unfold b_bare_text_1_1
        walk_at "run"
        first | refine br_at rfl ?_ | refine br_af rfl ?_ | refine ob_at rfl ?_ | refine ob_af rfl ?_
        unfold b_bare_text_1_2
        walk_at "run"
        first | refine br_at rfl ?_ | refine br_af rfl ?_ | refine ob_at rfl ?_ | refine ob_af rfl ?_
        unfold b_bare_text_1_3
        walk_at "run"
        first | refine br_at rfl ?_ | refine br_af rfl ?_ | refine ob_at rfl ?_ | refine ob_af rfl ?_
        unfold b_bare_text_1_4
        walk_at "run"
        first | refine br_at rfl ?_ | refine br_af rfl ?_ | refine ob_at rfl ?_ | refine ob_af rfl ?_
        unfold b_bare_text_1_5
        walk_at "run"
        refine ⟨by decide, ?_⟩
        first | refine br_at rfl ?_ | refine br_af rfl ?_ | refine ob_at rfl ?_ | refine ob_af rfl ?_
        walk_at "run"
        unfold b_bare_text_1_6
        walk_at "run"
        first | refine br_at rfl ?_ | refine br_af rfl ?_ | refine ob_at rfl ?_ | refine ob_af rfl ?_
        unfold b_bare_text_1_7
        walk_at "run"
        first | refine br_at rfl ?_ | refine br_af rfl ?_ | refine ob_at rfl ?_ | refine ob_af rfl ?_
        unfold b_bare_text_1_8
        walk_at "run"
        first | refine br_at rfl ?_ | refine br_af rfl ?_ | refine ob_at rfl ?_ | refine ob_af rfl ?_
        unfold b_bare_text_1_9
        walk_at "run"
        first | refine br_at rfl ?_ | refine br_af rfl ?_ | refine ob_at rfl ?_ | refine ob_af rfl ?_
        walk_at "run"
        unfold b_bare_text_1_10
        walk_at "run"
        exact h s (Kp.refl _ _))
    | var x =>
      rw [dE]
      walk_at "run"
      rw [PX.x0]
      walk_at "run"
      first | refine br_at rfl ?_ | refine br_af rfl ?_ | refine ob_at rfl ?_ | refine ob_af rfl ?_
      unfold b_bare_text_1_1
      walk_at "run"
      first | refine br_at rfl ?_ | refine br_af rfl ?_ | refine ob_at rfl ?_ | refine ob_af rfl ?_
      unfold b_bare_text_10
      walk_at "run"
      rw [PX.x1]
      exact h s (Kp.refl _ _)
    | call k f as =>
      obtain ⟨w1, w2, w3⟩ := hw
      have h1 : dps as ≤ d := by simp only [dp] at hd; omega
      have h2 : nds as ≤ 1000 := by simp only [nd] at hn; omega
      have h3 := jn w3
      have h4 := w1.len
      cases k with
      | call =>
        rw [dE]
        walk_at "run"
        rw [PX.x0]
        walk_at "run"
        first | refine br_at rfl ?_ | refine br_af rfl ?_ | refine ob_at rfl ?_ | refine ob_af rfl ?_
        unfold b_bare_text_1_1
        walk_at "run"
        first | refine br_at rfl ?_ | refine br_af rfl ?_ | refine ob_at rfl ?_ | refine ob_af rfl ?_
        unfold b_bare_text_1_2
        walk_at "run"
        first | refine br_at rfl ?_ | refine br_af rfl ?_ | refine ob_at rfl ?_ | refine ob_af rfl ?_
        unfold b_bare_text_9
        walk_at "run"
        rw [PX.x1]
        walk_at "run"
        refine ⟨by first | omega | (simp only [KU.w, KC.w, KB.w, KB.sg, List.length_append, List.length_cons, List.length_nil]; omega) | (simp [KU.w, KC.w, KB.w, KB.sg]; omega), ?_⟩
        rw [PX.x2]
        refine ar as s _ _ h1 w3 h2 fun s1 k1 => ?_
        walk_at "run"
        exact ⟨by first | omega | (simp only [KU.w, KC.w, KB.w, KB.sg, List.length_append, List.length_cons, List.length_nil]; omega) | (simp [KU.w, KC.w, KB.w, KB.sg]; omega), by first | omega | (simp only [KU.w, KC.w, KB.w, KB.sg, List.length_append, List.length_cons, List.length_nil]; omega) | (simp [KU.w, KC.w, KB.w, KB.sg]; omega), h s1 k1⟩
      | bind =>
        rw [dE]
        walk_at "run"
        rw [PX.x0]
        walk_at "run"
        first | refine br_at rfl ?_ | refine br_af rfl ?_ | refine ob_at rfl ?_ | refine ob_af rfl ?_
        unfold b_bare_text_1_1
        walk_at "run"
        first | refine br_at rfl ?_ | refine br_af rfl ?_ | refine ob_at rfl ?_ | refine ob_af rfl ?_
        unfold b_bare_text_1_2
        walk_at "run"
        first | refine br_at rfl ?_ | refine br_af rfl ?_ | refine ob_at rfl ?_ | refine ob_af rfl ?_
        unfold b_bare_text_1_3
        walk_at "run"
        first | refine br_at rfl ?_ | refine br_af rfl ?_ | refine ob_at rfl ?_ | refine ob_af rfl ?_
        unfold b_bare_text_8
        walk_at "run"
        rw [PX.x1]
        walk_at "run"
        refine ⟨by first | omega | (simp only [KU.w, KC.w, KB.w, KB.sg, List.length_append, List.length_cons, List.length_nil]; omega) | (simp [KU.w, KC.w, KB.w, KB.sg]; omega), by first | omega | (simp only [KU.w, KC.w, KB.w, KB.sg, List.length_append, List.length_cons, List.length_nil]; omega) | (simp [KU.w, KC.w, KB.w, KB.sg]; omega), ?_⟩
        rw [PX.x2]
        refine ar as s _ _ h1 w3 h2 fun s1 k1 => ?_
        walk_at "run"
        exact ⟨by first | omega | (simp only [KU.w, KC.w, KB.w, KB.sg, List.length_append, List.length_cons, List.length_nil]; omega) | (simp [KU.w, KC.w, KB.w, KB.sg]; omega), by first | omega | (simp only [KU.w, KC.w, KB.w, KB.sg, List.length_append, List.length_cons, List.length_nil]; omega) | (simp [KU.w, KC.w, KB.w, KB.sg]; omega), h s1 k1⟩
    | list as =>
      obtain ⟨w2, w3⟩ := hw
      have h1 : dps as ≤ d := by simp only [dp] at hd; omega
      have h2 : nds as ≤ 1000 := by simp only [nd] at hn; omega
      have h3 := jn w3
      rw [dE]
      walk_at "run"
      rw [PX.x0]
      walk_at "run"
      first | refine br_at rfl ?_ | refine br_af rfl ?_ | refine ob_at rfl ?_ | refine ob_af rfl ?_
      unfold b_bare_text_1_1
      walk_at "run"
      first | refine br_at rfl ?_ | refine br_af rfl ?_ | refine ob_at rfl ?_ | refine ob_af rfl ?_
      unfold b_bare_text_1_2
      walk_at "run"
      first | refine br_at rfl ?_ | refine br_af rfl ?_ | refine ob_at rfl ?_ | refine ob_af rfl ?_
      unfold b_bare_text_1_3
      walk_at "run"
      first | refine br_at rfl ?_ | refine br_af rfl ?_ | refine ob_at rfl ?_ | refine ob_af rfl ?_
      unfold b_bare_text_1_4
      walk_at "run"
      first | refine br_at rfl ?_ | refine br_af rfl ?_ | refine ob_at rfl ?_ | refine ob_af rfl ?_
      unfold b_bare_text_7
      walk_at "run"
      rw [PX.x1]
      refine ar as s _ _ h1 w3 h2 fun s1 k1 => ?_
      walk_at "run"
      exact ⟨by first | omega | (simp only [KU.w, KC.w, KB.w, KB.sg, List.length_append, List.length_cons, List.length_nil]; omega) | (simp [KU.w, KC.w, KB.w, KB.sg]; omega), by first | omega | (simp only [KU.w, KC.w, KB.w, KB.sg, List.length_append, List.length_cons, List.length_nil]; omega) | (simp [KU.w, KC.w, KB.w, KB.sg]; omega), h s1 k1⟩
    | un k e =>
      have h1 : dp e ≤ d := by simp only [dp] at hd; omega
      have h2 : nd e ≤ 1000 := by simp only [nd] at hn; omega
      have h3 := tpl (p := 3) (show WE vs e from hw)
      cases k with
      | len =>
        rw [dE]
        walk_at "run"
        rw [PX.x0]
        walk_at "run"
        first | refine br_at rfl ?_ | refine br_af rfl ?_ | refine ob_at rfl ?_ | refine ob_af rfl ?_
        unfold b_bare_text_1_1
        walk_at "run"
        first | refine br_at rfl ?_ | refine br_af rfl ?_ | refine ob_at rfl ?_ | refine ob_af rfl ?_
        unfold b_bare_text_1_2
        walk_at "run"
        first | refine br_at rfl ?_ | refine br_af rfl ?_ | refine ob_at rfl ?_ | refine ob_af rfl ?_
        unfold b_bare_text_1_3
        walk_at "run"
        first | refine br_at rfl ?_ | refine br_af rfl ?_ | refine ob_at rfl ?_ | refine ob_af rfl ?_
        unfold b_bare_text_1_4
        walk_at "run"
        first | refine br_at rfl ?_ | refine br_af rfl ?_ | refine ob_at rfl ?_ | refine ob_af rfl ?_
        unfold b_bare_text_1_5
        walk_at "run"
        refine ⟨by decide, ?_⟩
        first | refine br_at rfl ?_ | refine br_af rfl ?_ | refine ob_at rfl ?_ | refine ob_af rfl ?_
        walk_at "run"
        unfold b_bare_text_6
        walk_at "run"
        refine ⟨by first | omega | (simp only [KU.w, KC.w, KB.w, KB.sg, List.length_append, List.length_cons, List.length_nil]; omega) | (simp [KU.w, KC.w, KB.w, KB.sg]; omega), ?_⟩
        rw [PX.x1]
        refine Lv_le (k := j + 3 * d + 1) (by omega) (ex e 3 s _ _ h1 hw h2 fun s1 k1 => ?_)
        walk_at "run"
        exact ⟨by first | omega | (simp only [KU.w, KC.w, KB.w, KB.sg, List.length_append, List.length_cons, List.length_nil]; omega) | (simp [KU.w, KC.w, KB.w, KB.sg]; omega), h s1 k1⟩
      | kind =>
        rw [dE]
        walk_at "run"
        rw [PX.x0]
        walk_at "run"
        first | refine br_at rfl ?_ | refine br_af rfl ?_ | refine ob_at rfl ?_ | refine ob_af rfl ?_
        unfold b_bare_text_1_1
        walk_at "run"
        first | refine br_at rfl ?_ | refine br_af rfl ?_ | refine ob_at rfl ?_ | refine ob_af rfl ?_
        unfold b_bare_text_1_2
        walk_at "run"
        first | refine br_at rfl ?_ | refine br_af rfl ?_ | refine ob_at rfl ?_ | refine ob_af rfl ?_
        unfold b_bare_text_1_3
        walk_at "run"
        first | refine br_at rfl ?_ | refine br_af rfl ?_ | refine ob_at rfl ?_ | refine ob_af rfl ?_
        unfold b_bare_text_1_4
        walk_at "run"
        first | refine br_at rfl ?_ | refine br_af rfl ?_ | refine ob_at rfl ?_ | refine ob_af rfl ?_
        unfold b_bare_text_1_5
        walk_at "run"
        refine ⟨by decide, ?_⟩
        first | refine br_at rfl ?_ | refine br_af rfl ?_ | refine ob_at rfl ?_ | refine ob_af rfl ?_
        walk_at "run"
        unfold b_bare_text_6
        walk_at "run"
        refine ⟨by first | omega | (simp only [KU.w, KC.w, KB.w, KB.sg, List.length_append, List.length_cons, List.length_nil]; omega) | (simp [KU.w, KC.w, KB.w, KB.sg]; omega), ?_⟩
        rw [PX.x1]
        refine Lv_le (k := j + 3 * d + 1) (by omega) (ex e 3 s _ _ h1 hw h2 fun s1 k1 => ?_)
        walk_at "run"
        exact ⟨by first | omega | (simp only [KU.w, KC.w, KB.w, KB.sg, List.length_append, List.length_cons, List.length_nil]; omega) | (simp [KU.w, KC.w, KB.w, KB.sg]; omega), h s1 k1⟩
    | fld e x =>
      have h1 : dp e ≤ d := by simp only [dp] at hd; omega
      have h2 : nd e ≤ 1000 := by simp only [nd] at hn; omega
      obtain ⟨w1, w2⟩ := hw
      have h3 := tpl (p := 4) w1
      have h4 := w2.len
      rw [dE]
      walk_at "run"
      rw [PX.x0]
      walk_at "run"
      first | refine br_at rfl ?_ | refine br_af rfl ?_ | refine ob_at rfl ?_ | refine ob_af rfl ?_
      unfold b_bare_text_1_1
      walk_at "run"
      first | refine br_at rfl ?_ | refine br_af rfl ?_ | refine ob_at rfl ?_ | refine ob_af rfl ?_
      unfold b_bare_text_1_2
      walk_at "run"
      first | refine br_at rfl ?_ | refine br_af rfl ?_ | refine ob_at rfl ?_ | refine ob_af rfl ?_
      unfold b_bare_text_1_3
      walk_at "run"
      first | refine br_at rfl ?_ | refine br_af rfl ?_ | refine ob_at rfl ?_ | refine ob_af rfl ?_
      unfold b_bare_text_1_4
      walk_at "run"
      first | refine br_at rfl ?_ | refine br_af rfl ?_ | refine ob_at rfl ?_ | refine ob_af rfl ?_
      unfold b_bare_text_1_5
      walk_at "run"
      refine ⟨by decide, ?_⟩
      first | refine br_at rfl ?_ | refine br_af rfl ?_ | refine ob_at rfl ?_ | refine ob_af rfl ?_
      walk_at "run"
      unfold b_bare_text_1_6
      walk_at "run"
      first | refine br_at rfl ?_ | refine br_af rfl ?_ | refine ob_at rfl ?_ | refine ob_af rfl ?_
      unfold b_bare_text_5
      walk_at "run"
      rw [PX.x1]
      refine Lv_le (k := j + 3 * d + 1) (by omega) (ex e 4 s _ _ h1 w1 h2 fun s1 k1 => ?_)
      walk_at "run"
      refine ⟨by first | omega | (simp only [KU.w, KC.w, KB.w, KB.sg, List.length_append, List.length_cons, List.length_nil]; omega) | (simp [KU.w, KC.w, KB.w, KB.sg]; omega), ?_⟩
      rw [PX.x2]
      walk_at "run"
      exact ⟨by first | omega | (simp only [KU.w, KC.w, KB.w, KB.sg, List.length_append, List.length_cons, List.length_nil]; omega) | (simp [KU.w, KC.w, KB.w, KB.sg]; omega), h s1 k1⟩
    | app e as =>
      have h1 : dp e ≤ d := by simp only [dp] at hd; omega
      have h1' : dps as ≤ d := by simp only [dp] at hd; omega
      have h2 : nd e ≤ 1000 := by simp only [nd] at hn; omega
      have h2' : nds as ≤ 1000 := by simp only [nd] at hn; omega
      obtain ⟨w1, w2, w3⟩ := hw
      have h3 := tpl (p := 4) w1
      have h4 := jn w3
      rw [dE]
      walk_at "run"
      rw [PX.x0]
      walk_at "run"
      first | refine br_at rfl ?_ | refine br_af rfl ?_ | refine ob_at rfl ?_ | refine ob_af rfl ?_
      unfold b_bare_text_1_1
      walk_at "run"
      first | refine br_at rfl ?_ | refine br_af rfl ?_ | refine ob_at rfl ?_ | refine ob_af rfl ?_
      unfold b_bare_text_1_2
      walk_at "run"
      first | refine br_at rfl ?_ | refine br_af rfl ?_ | refine ob_at rfl ?_ | refine ob_af rfl ?_
      unfold b_bare_text_1_3
      walk_at "run"
      first | refine br_at rfl ?_ | refine br_af rfl ?_ | refine ob_at rfl ?_ | refine ob_af rfl ?_
      unfold b_bare_text_1_4
      walk_at "run"
      first | refine br_at rfl ?_ | refine br_af rfl ?_ | refine ob_at rfl ?_ | refine ob_af rfl ?_
      unfold b_bare_text_1_5
      walk_at "run"
      refine ⟨by decide, ?_⟩
      first | refine br_at rfl ?_ | refine br_af rfl ?_ | refine ob_at rfl ?_ | refine ob_af rfl ?_
      walk_at "run"
      unfold b_bare_text_1_6
      walk_at "run"
      first | refine br_at rfl ?_ | refine br_af rfl ?_ | refine ob_at rfl ?_ | refine ob_af rfl ?_
      unfold b_bare_text_1_7
      walk_at "run"
      first | refine br_at rfl ?_ | refine br_af rfl ?_ | refine ob_at rfl ?_ | refine ob_af rfl ?_
      unfold b_bare_text_1_8
      walk_at "run"
      first | refine br_at rfl ?_ | refine br_af rfl ?_ | refine ob_at rfl ?_ | refine ob_af rfl ?_
      unfold b_bare_text_3
      walk_at "run"
      rw [PX.x1]
      refine Lv_le (k := j + 3 * d + 1) (by omega) (ex e 4 s _ _ h1 w1 h2 fun s1 k1 => ?_)
      walk_at "run"
      refine ⟨by first | omega | (simp only [KU.w, KC.w, KB.w, KB.sg, List.length_append, List.length_cons, List.length_nil]; omega) | (simp [KU.w, KC.w, KB.w, KB.sg]; omega), ?_⟩
      rw [PX.x2]
      refine ar as s1 _ _ h1' w3 h2' fun s2 k2 => ?_
      walk_at "run"
      exact ⟨by first | omega | (simp only [KU.w, KC.w, KB.w, KB.sg, List.length_append, List.length_cons, List.length_nil]; omega) | (simp [KU.w, KC.w, KB.w, KB.sg]; omega), by first | omega | (simp only [KU.w, KC.w, KB.w, KB.sg, List.length_append, List.length_cons, List.length_nil]; omega) | (simp [KU.w, KC.w, KB.w, KB.sg]; omega), h s2 (k1.trans k2)⟩
    | bin o a b =>
      have h1 : dp a ≤ d := by simp only [dp] at hd; omega
      have h1' : dp b ≤ d := by simp only [dp] at hd; omega
      have h2 : nd a ≤ 1000 := by simp only [nd] at hn; omega
      have h2' : nd b ≤ 1000 := by simp only [nd] at hn; omega
      obtain ⟨w1, w2⟩ := hw
      cases o with
      | item =>
        have h3 := tpl (p := 4) w1
        have h4 := tpl (p := 0) w2
        rw [dE]
        walk_at "run"
        rw [PX.x0]
        walk_at "run"
        first | refine br_at rfl ?_ | refine br_af rfl ?_ | refine ob_at rfl ?_ | refine ob_af rfl ?_
        unfold b_bare_text_1_1
        walk_at "run"
        first | refine br_at rfl ?_ | refine br_af rfl ?_ | refine ob_at rfl ?_ | refine ob_af rfl ?_
        unfold b_bare_text_1_2
        walk_at "run"
        first | refine br_at rfl ?_ | refine br_af rfl ?_ | refine ob_at rfl ?_ | refine ob_af rfl ?_
        unfold b_bare_text_1_3
        walk_at "run"
        first | refine br_at rfl ?_ | refine br_af rfl ?_ | refine ob_at rfl ?_ | refine ob_af rfl ?_
        unfold b_bare_text_1_4
        walk_at "run"
        first | refine br_at rfl ?_ | refine br_af rfl ?_ | refine ob_at rfl ?_ | refine ob_af rfl ?_
        unfold b_bare_text_1_5
        walk_at "run"
        refine ⟨by decide, ?_⟩
        first | refine br_at rfl ?_ | refine br_af rfl ?_ | refine ob_at rfl ?_ | refine ob_af rfl ?_
        walk_at "run"
        unfold b_bare_text_1_6
        walk_at "run"
        first | refine br_at rfl ?_ | refine br_af rfl ?_ | refine ob_at rfl ?_ | refine ob_af rfl ?_
        unfold b_bare_text_1_7
        walk_at "run"
        first | refine br_at rfl ?_ | refine br_af rfl ?_ | refine ob_at rfl ?_ | refine ob_af rfl ?_
        unfold b_bare_text_4
        walk_at "run"
        rw [PX.x1]
        refine Lv_le (k := j + 3 * d + 1) (by omega) (ex a 4 s _ _ h1 w1 h2 fun s1 k1 => ?_)
        walk_at "run"
        refine ⟨by first | omega | (simp only [KU.w, KC.w, KB.w, KB.sg, List.length_append, List.length_cons, List.length_nil]; omega) | (simp [KU.w, KC.w, KB.w, KB.sg]; omega), ?_⟩
        rw [PX.x2]
        refine Lv_le (k := j + 3 * d + 1) (by omega) (ex b 0 s1 _ _ h1' w2 h2' fun s2 k2 => ?_)
        walk_at "run"
        refine ⟨by first | omega | (simp only [KU.w, KC.w, KB.w, KB.sg, List.length_append, List.length_cons, List.length_nil]; omega) | (simp [KU.w, KC.w, KB.w, KB.sg]; omega), by first | omega | (simp only [KU.w, KC.w, KB.w, KB.sg, List.length_append, List.length_cons, List.length_nil]; omega) | (simp [KU.w, KC.w, KB.w, KB.sg]; omega), ?_⟩
        rw [tp_zero]
        exact h s2 (k1.trans k2)
      | add =>
        have h3 := tpl (p := 1) w1
        have h4 := tpl (p := 2) w2
        rw [dE]
        walk_at "run"
        rw [PX.x0]
        walk_at "run"
        first | refine br_at rfl ?_ | refine br_af rfl ?_ | refine ob_at rfl ?_ | refine ob_af rfl ?_
        unfold b_bare_text_1_1
        walk_at "run"
        first | refine br_at rfl ?_ | refine br_af rfl ?_ | refine ob_at rfl ?_ | refine ob_af rfl ?_
        unfold b_bare_text_1_2
        walk_at "run"
        first | refine br_at rfl ?_ | refine br_af rfl ?_ | refine ob_at rfl ?_ | refine ob_af rfl ?_
        unfold b_bare_text_1_3
        walk_at "run"
        first | refine br_at rfl ?_ | refine br_af rfl ?_ | refine ob_at rfl ?_ | refine ob_af rfl ?_
        unfold b_bare_text_1_4
        walk_at "run"
        first | refine br_at rfl ?_ | refine br_af rfl ?_ | refine ob_at rfl ?_ | refine ob_af rfl ?_
        unfold b_bare_text_1_5
        walk_at "run"
        refine ⟨by decide, ?_⟩
        first | refine br_at rfl ?_ | refine br_af rfl ?_ | refine ob_at rfl ?_ | refine ob_af rfl ?_
        walk_at "run"
        unfold b_bare_text_1_6
        walk_at "run"
        first | refine br_at rfl ?_ | refine br_af rfl ?_ | refine ob_at rfl ?_ | refine ob_af rfl ?_
        unfold b_bare_text_1_7
        walk_at "run"
        first | refine br_at rfl ?_ | refine br_af rfl ?_ | refine ob_at rfl ?_ | refine ob_af rfl ?_
        unfold b_bare_text_1_8
        walk_at "run"
        first | refine br_at rfl ?_ | refine br_af rfl ?_ | refine ob_at rfl ?_ | refine ob_af rfl ?_
        unfold b_bare_text_1_9
        walk_at "run"
        first | refine br_at rfl ?_ | refine br_af rfl ?_ | refine ob_at rfl ?_ | refine ob_af rfl ?_
        walk_at "run"
        unfold b_bare_text_2
        walk_at "run"
        refine fd_ix (v := .tup [.int 1, .int 2]) rfl rfl rfl ?_
        walk_at "run"
        refine fd_ix (v := .str (match KB.add.sg with
          | _ :: r => r.dropLast
          | [] => [])) rfl rfl rfl ?_
        walk_at "run"
        refine ⟨by decide, by decide, ?_⟩
        rw [PX.x1]
        refine Lv_le (k := j + 3 * d + 1) (by omega) (ex a 1 s _ _ h1 w1 h2 fun s1 k1 => ?_)
        walk_at "run"
        refine ⟨by first | omega | (simp only [KU.w, KC.w, KB.w, KB.sg, List.length_append, List.length_cons, List.length_nil]; omega) | (simp [KU.w, KC.w, KB.w, KB.sg]; omega), ?_⟩
        rw [PX.x2]
        refine Lv_le (k := j + 3 * d + 1) (by omega) (ex b 2 s1 _ _ h1' w2 h2' fun s2 k2 => ?_)
        walk_at "run"
        exact ⟨by first | omega | (simp only [KU.w, KC.w, KB.w, KB.sg, List.length_append, List.length_cons, List.length_nil]; omega) | (simp [KU.w, KC.w, KB.w, KB.sg]; omega), h s2 (k1.trans k2)⟩
      | sub =>
        have h3 := tpl (p := 1) w1
        have h4 := tpl (p := 2) w2
        rw [dE]
        walk_at "run"
        rw [PX.x0]
        walk_at "run"
        first | refine br_at rfl ?_ | refine br_af rfl ?_ | refine ob_at rfl ?_ | refine ob_af rfl ?_
        unfold b_bare_text_1_1
        walk_at "run"
        first | refine br_at rfl ?_ | refine br_af rfl ?_ | refine ob_at rfl ?_ | refine ob_af rfl ?_
        unfold b_bare_text_1_2
        walk_at "run"
        first | refine br_at rfl ?_ | refine br_af rfl ?_ | refine ob_at rfl ?_ | refine ob_af rfl ?_
        unfold b_bare_text_1_3
        walk_at "run"
        first | refine br_at rfl ?_ | refine br_af rfl ?_ | refine ob_at rfl ?_ | refine ob_af rfl ?_
        unfold b_bare_text_1_4
        walk_at "run"
        first | refine br_at rfl ?_ | refine br_af rfl ?_ | refine ob_at rfl ?_ | refine ob_af rfl ?_
        unfold b_bare_text_1_5
        walk_at "run"
        refine ⟨by decide, ?_⟩
        first | refine br_at rfl ?_ | refine br_af rfl ?_ | refine ob_at rfl ?_ | refine ob_af rfl ?_
        walk_at "run"
        unfold b_bare_text_1_6
        walk_at "run"
        first | refine br_at rfl ?_ | refine br_af rfl ?_ | refine ob_at rfl ?_ | refine ob_af rfl ?_
        unfold b_bare_text_1_7
        walk_at "run"
        first | refine br_at rfl ?_ | refine br_af rfl ?_ | refine ob_at rfl ?_ | refine ob_af rfl ?_
        unfold b_bare_text_1_8
        walk_at "run"
        first | refine br_at rfl ?_ | refine br_af rfl ?_ | refine ob_at rfl ?_ | refine ob_af rfl ?_
        unfold b_bare_text_1_9
        walk_at "run"
        first | refine br_at rfl ?_ | refine br_af rfl ?_ | refine ob_at rfl ?_ | refine ob_af rfl ?_
        walk_at "run"
        unfold b_bare_text_2
        walk_at "run"
        refine fd_ix (v := .tup [.int 1, .int 2]) rfl rfl rfl ?_
        walk_at "run"
        refine fd_ix (v := .str (match KB.sub.sg with
          | _ :: r => r.dropLast
          | [] => [])) rfl rfl rfl ?_
        walk_at "run"
        refine ⟨by decide, by decide, ?_⟩
        rw [PX.x1]
        refine Lv_le (k := j + 3 * d + 1) (by omega) (ex a 1 s _ _ h1 w1 h2 fun s1 k1 => ?_)
        walk_at "run"
        refine ⟨by first | omega | (simp only [KU.w, KC.w, KB.w, KB.sg, List.length_append, List.length_cons, List.length_nil]; omega) | (simp [KU.w, KC.w, KB.w, KB.sg]; omega), ?_⟩
        rw [PX.x2]
        refine Lv_le (k := j + 3 * d + 1) (by omega) (ex b 2 s1 _ _ h1' w2 h2' fun s2 k2 => ?_)
        walk_at "run"
        exact ⟨by first | omega | (simp only [KU.w, KC.w, KB.w, KB.sg, List.length_append, List.length_cons, List.length_nil]; omega) | (simp [KU.w, KC.w, KB.w, KB.sg]; omega), h s2 (k1.trans k2)⟩
      | mul =>
        have h3 := tpl (p := 2) w1
        have h4 := tpl (p := 3) w2
        rw [dE]
        walk_at "run"
        rw [PX.x0]
        walk_at "run"
        first | refine br_at rfl ?_ | refine br_af rfl ?_ | refine ob_at rfl ?_ | refine ob_af rfl ?_
        unfold b_bare_text_1_1
        walk_at "run"
        first | refine br_at rfl ?_ | refine br_af rfl ?_ | refine ob_at rfl ?_ | refine ob_af rfl ?_
        unfold b_bare_text_1_2
        walk_at "run"
        first | refine br_at rfl ?_ | refine br_af rfl ?_ | refine ob_at rfl ?_ | refine ob_af rfl ?_
        unfold b_bare_text_1_3
        walk_at "run"
        first | refine br_at rfl ?_ | refine br_af rfl ?_ | refine ob_at rfl ?_ | refine ob_af rfl ?_
        unfold b_bare_text_1_4
        walk_at "run"
        first | refine br_at rfl ?_ | refine br_af rfl ?_ | refine ob_at rfl ?_ | refine ob_af rfl ?_
        unfold b_bare_text_1_5
        walk_at "run"
        refine ⟨by decide, ?_⟩
        first | refine br_at rfl ?_ | refine br_af rfl ?_ | refine ob_at rfl ?_ | refine ob_af rfl ?_
        walk_at "run"
        unfold b_bare_text_1_6
        walk_at "run"
        first | refine br_at rfl ?_ | refine br_af rfl ?_ | refine ob_at rfl ?_ | refine ob_af rfl ?_
        unfold b_bare_text_1_7
        walk_at "run"
        first | refine br_at rfl ?_ | refine br_af rfl ?_ | refine ob_at rfl ?_ | refine ob_af rfl ?_
        unfold b_bare_text_1_8
        walk_at "run"
        first | refine br_at rfl ?_ | refine br_af rfl ?_ | refine ob_at rfl ?_ | refine ob_af rfl ?_
        unfold b_bare_text_1_9
        walk_at "run"
        first | refine br_at rfl ?_ | refine br_af rfl ?_ | refine ob_at rfl ?_ | refine ob_af rfl ?_
        walk_at "run"
        unfold b_bare_text_2
        walk_at "run"
        refine fd_ix (v := .tup [.int 2, .int 3]) rfl rfl rfl ?_
        walk_at "run"
        refine fd_ix (v := .str (match KB.mul.sg with
          | _ :: r => r.dropLast
          | [] => [])) rfl rfl rfl ?_
        walk_at "run"
        refine ⟨by decide, by decide, ?_⟩
        rw [PX.x1]
        refine Lv_le (k := j + 3 * d + 1) (by omega) (ex a 2 s _ _ h1 w1 h2 fun s1 k1 => ?_)
        walk_at "run"
        refine ⟨by first | omega | (simp only [KU.w, KC.w, KB.w, KB.sg, List.length_append, List.length_cons, List.length_nil]; omega) | (simp [KU.w, KC.w, KB.w, KB.sg]; omega), ?_⟩
        rw [PX.x2]
        refine Lv_le (k := j + 3 * d + 1) (by omega) (ex b 3 s1 _ _ h1' w2 h2' fun s2 k2 => ?_)
        walk_at "run"
        exact ⟨by first | omega | (simp only [KU.w, KC.w, KB.w, KB.sg, List.length_append, List.length_cons, List.length_nil]; omega) | (simp [KU.w, KC.w, KB.w, KB.sg]; omega), h s2 (k1.trans k2)⟩
      | less =>
        have h3 := tpl (p := 1) w1
        have h4 := tpl (p := 1) w2
        rw [dE]
        walk_at "run"
        rw [PX.x0]
        walk_at "run"
        first | refine br_at rfl ?_ | refine br_af rfl ?_ | refine ob_at rfl ?_ | refine ob_af rfl ?_
        unfold b_bare_text_1_1
        walk_at "run"
        first | refine br_at rfl ?_ | refine br_af rfl ?_ | refine ob_at rfl ?_ | refine ob_af rfl ?_
        unfold b_bare_text_1_2
        walk_at "run"
        first | refine br_at rfl ?_ | refine br_af rfl ?_ | refine ob_at rfl ?_ | refine ob_af rfl ?_
        unfold b_bare_text_1_3
        walk_at "run"
        first | refine br_at rfl ?_ | refine br_af rfl ?_ | refine ob_at rfl ?_ | refine ob_af rfl ?_
        unfold b_bare_text_1_4
        walk_at "run"
        first | refine br_at rfl ?_ | refine br_af rfl ?_ | refine ob_at rfl ?_ | refine ob_af rfl ?_
        unfold b_bare_text_1_5
        walk_at "run"
        refine ⟨by decide, ?_⟩
        first | refine br_at rfl ?_ | refine br_af rfl ?_ | refine ob_at rfl ?_ | refine ob_af rfl ?_
        walk_at "run"
        unfold b_bare_text_1_6
        walk_at "run"
        first | refine br_at rfl ?_ | refine br_af rfl ?_ | refine ob_at rfl ?_ | refine ob_af rfl ?_
        unfold b_bare_text_1_7
        walk_at "run"
        first | refine br_at rfl ?_ | refine br_af rfl ?_ | refine ob_at rfl ?_ | refine ob_af rfl ?_
        unfold b_bare_text_1_8
        walk_at "run"
        first | refine br_at rfl ?_ | refine br_af rfl ?_ | refine ob_at rfl ?_ | refine ob_af rfl ?_
        unfold b_bare_text_1_9
        walk_at "run"
        first | refine br_at rfl ?_ | refine br_af rfl ?_ | refine ob_at rfl ?_ | refine ob_af rfl ?_
        walk_at "run"
        unfold b_bare_text_2
        walk_at "run"
        refine fd_ix (v := .tup [.int 1, .int 1]) rfl rfl rfl ?_
        walk_at "run"
        refine fd_ix (v := .str (match KB.less.sg with
          | _ :: r => r.dropLast
          | [] => [])) rfl rfl rfl ?_
        walk_at "run"
        refine ⟨by decide, by decide, ?_⟩
        rw [PX.x1]
        refine Lv_le (k := j + 3 * d + 1) (by omega) (ex a 1 s _ _ h1 w1 h2 fun s1 k1 => ?_)
        walk_at "run"
        refine ⟨by first | omega | (simp only [KU.w, KC.w, KB.w, KB.sg, List.length_append, List.length_cons, List.length_nil]; omega) | (simp [KU.w, KC.w, KB.w, KB.sg]; omega), ?_⟩
        rw [PX.x2]
        refine Lv_le (k := j + 3 * d + 1) (by omega) (ex b 1 s1 _ _ h1' w2 h2' fun s2 k2 => ?_)
        walk_at "run"
        exact ⟨by first | omega | (simp only [KU.w, KC.w, KB.w, KB.sg, List.length_append, List.length_cons, List.length_nil]; omega) | (simp [KU.w, KC.w, KB.w, KB.sg]; omega), h s2 (k1.trans k2)⟩
      | same =>
        have h3 := tpl (p := 1) w1
        have h4 := tpl (p := 1) w2
        rw [dE]
        walk_at "run"
        rw [PX.x0]
        walk_at "run"
        first | refine br_at rfl ?_ | refine br_af rfl ?_ | refine ob_at rfl ?_ | refine ob_af rfl ?_
        unfold b_bare_text_1_1
        walk_at "run"
        first | refine br_at rfl ?_ | refine br_af rfl ?_ | refine ob_at rfl ?_ | refine ob_af rfl ?_
        unfold b_bare_text_1_2
        walk_at "run"
        first | refine br_at rfl ?_ | refine br_af rfl ?_ | refine ob_at rfl ?_ | refine ob_af rfl ?_
        unfold b_bare_text_1_3
        walk_at "run"
        first | refine br_at rfl ?_ | refine br_af rfl ?_ | refine ob_at rfl ?_ | refine ob_af rfl ?_
        unfold b_bare_text_1_4
        walk_at "run"
        first | refine br_at rfl ?_ | refine br_af rfl ?_ | refine ob_at rfl ?_ | refine ob_af rfl ?_
        unfold b_bare_text_1_5
        walk_at "run"
        refine ⟨by decide, ?_⟩
        first | refine br_at rfl ?_ | refine br_af rfl ?_ | refine ob_at rfl ?_ | refine ob_af rfl ?_
        walk_at "run"
        unfold b_bare_text_1_6
        walk_at "run"
        first | refine br_at rfl ?_ | refine br_af rfl ?_ | refine ob_at rfl ?_ | refine ob_af rfl ?_
        unfold b_bare_text_1_7
        walk_at "run"
        first | refine br_at rfl ?_ | refine br_af rfl ?_ | refine ob_at rfl ?_ | refine ob_af rfl ?_
        unfold b_bare_text_1_8
        walk_at "run"
        first | refine br_at rfl ?_ | refine br_af rfl ?_ | refine ob_at rfl ?_ | refine ob_af rfl ?_
        unfold b_bare_text_1_9
        walk_at "run"
        first | refine br_at rfl ?_ | refine br_af rfl ?_ | refine ob_at rfl ?_ | refine ob_af rfl ?_
        walk_at "run"
        unfold b_bare_text_2
        walk_at "run"
        refine fd_ix (v := .tup [.int 1, .int 1]) rfl rfl rfl ?_
        walk_at "run"
        refine fd_ix (v := .str (match KB.same.sg with
          | _ :: r => r.dropLast
          | [] => [])) rfl rfl rfl ?_
        walk_at "run"
        refine ⟨by decide, by decide, ?_⟩
        rw [PX.x1]
        refine Lv_le (k := j + 3 * d + 1) (by omega) (ex a 1 s _ _ h1 w1 h2 fun s1 k1 => ?_)
        walk_at "run"
        refine ⟨by first | omega | (simp only [KU.w, KC.w, KB.w, KB.sg, List.length_append, List.length_cons, List.length_nil]; omega) | (simp [KU.w, KC.w, KB.w, KB.sg]; omega), ?_⟩
        rw [PX.x2]
        refine Lv_le (k := j + 3 * d + 1) (by omega) (ex b 1 s1 _ _ h1' w2 h2' fun s2 k2 => ?_)
        walk_at "run"
        exact ⟨by first | omega | (simp only [KU.w, KC.w, KB.w, KB.sg, List.length_append, List.length_cons, List.length_nil]; omega) | (simp [KU.w, KC.w, KB.w, KB.sg]; omega), h s2 (k1.trans k2)⟩
end
end K01

namespace K01
open PySem PX Tk Sx
theorem ext_ref {s : Sto} {n m : Nat} {xs ys : List D} {Q : QE} (hs : s[n]? = some (.lst xs)) (hm : s[m]? = some (.lst ys)) (hl : xs.length + ys.length ≤ sizeLine) (h : Q .non (s.set n (.lst (xs ++ ys)))) : xMeth .extend (.ref n) [.ref m] s Q := by
  simp only [xMeth, hs, hm]
  exact ⟨hl, h⟩
theorem cut1 {x : D} {l : List D} : cut (x :: l) (some 1) none = l := by
  rw [cut_from (by decide)]
  rfl
/-- texts that are added -/
theorem adds {s : Sto} {m n : Nat} {a b : List (List Nat)} {Q : QE} (ha : s[m]? = some (.lst (a.map .str))) (hb : s[n]? = some (.lst (b.map .str))) (hl : a.length + b.length ≤ sizeLine) (h : ∀ s', Kp (fun _ => False) s s' → s'[s.length]? = some (.lst ((a ++ b).map .str)) → Q (.ref s.length) s') : xBin .Add (.ref m) (.ref n) s Q := by
  refine add_refs ha hb (by simp only [List.length_map]; exact hl) (h _ Kp.push ?_)
  rw [get_new, List.map_append]
theorem pcs_last : ∀ {b : Bool} {s : List Nat}, True → True := fun _ => trivial
section
variable {j : Nat}
theorem es_ok {vs : List Nm} (hv : ∀ x ∈ vs, Name x) {its : List It} {r : Nat} {x0 x1 x3 x4 x5 x6 x7 : Option D} {s : Sto} {K : Sto → Prop} {k : Nat} (hr : s[r]? = some (.lst [])) (hk : 12 ≤ k) (hi : its.length ≤ 10) (hw : ∀ i ∈ its, Sx.WI vs i)
    (h : ∀ s', Kp (fun p => p = s.length) s s' → s'[s.length]? = some (.lst ((its.filterMap itx).map .str)) → K s') :
    lcGo (.nm 7) .free (its.map dI) s.length (fun σ' s' K => xIf (Lv TT k) i_law_lines_2 σ' s' K) (fun σ' s' K => xE (Lv TT k) l_law_lines_2 σ' s' K (fun _ _ _ => False)) [7] [x0, x1, some (.ref r), x3, x4, x5, x6, x7] (its.map dI) (s ++ [.lst []]) K := by
  have e24 := size24
  have hrl := lt_of_get hr
  refine lc_at (I := fun i acc s' => s'[s.length]? = some (.lst acc) ∧ acc = ((its.take i).filterMap itx).map .str ∧ Kp (fun p => p = s.length) s s') (fun i acc s h => h.1) ⟨get_new, rfl, Kp.push⟩ ?_ ?_
  · rintro i it acc s1 hit ⟨hg, rfl, k1⟩
    rw [List.getElem?_map] at hit
    cases e : its[i]? with
    | none => rw [e] at hit; cases hit
    | some t =>
    rw [e] at hit
    cases hit
    have hiw := hw t (List.mem_of_getElem? e)
    have hr1 := k1.get _ _ (by omega) hr
    refine ⟨trivial, ?_⟩
    have take : its.take (i + 1) = its.take i ++ [t] := by rw [List.take_add_one, e]; rfl
    have accl : (((its.take i).filterMap itx).map D.str).length < sizeLine := by
      rw [List.length_map]
      have h1 := List.length_filterMap_le itx (its.take i)
      have h2 := List.length_take_le i its
      have h3 := List.length_take (i := i) (l := its)
      omega
    have skip : itx t = none → (s1[s.length]? = some (.lst (((its.take i).filterMap itx).map D.str)) ∧ ((its.take i).filterMap itx).map D.str = ((its.take (i + 1)).filterMap itx).map D.str ∧ Kp (fun p => p = s.length) s s1) := fun hn => by
      refine ⟨hg, ?_, k1⟩
      rw [take, List.filterMap_append]
      simp [hn]
    have unit : ∀ {s2 : Sto} {xs : List D}, (∀ r, resWs r xs = some xs) → nob 40 (.tup xs) = true → xs ≠ [] → cmpD s2 .NotEq (.tup xs) (.tup []) = some true := fun {s2 xs} h1 h2 h3 => by
      rw [ne_unit (by simp only [resW, h1, Option.map_some]) h2 ⟨_, rfl⟩]
      congr 1
      rw [Bool.not_eq_true', decide_eq_false_iff_not]
      intro z
      cases z
      exact h3 rfl
    unfold i_law_lines_2
    simp only [wipeS]
    cases t with
    | s x =>
      dsimp only [dI]
      walk_at "run"
      rw [if_neg (by decide)]
      exact skip rfl
    | e e' =>
      obtain ⟨l, el⟩ := dE_hd e'
      have hE : EO vs e' := hiw
      dsimp only [dI]
      rw [el]
      walk_at "run"
      refine ⟨by decide, ?_⟩
      rw [unit (fun r => by have := res_dE (r := r) e'; rw [el] at this; simpa [resW] using this) (by rw [← el]; exact nob_dE e' 40 (by have := hE.d; omega)) (by simp)]
      walk_at "run"
      rw [PX.x0]
      walk_at "run"
      unfold l_law_lines_2
      walk_at "run"
      rw [← el]
      refine Lv_le (k := k - 12 + 12) (by omega) (text_e_ok hv 12 e' 0 r s1 _ _ hE.d hE.w (by have := hE.n; omega) hr1 fun s2 k2 => ?_)
      have g2 := k2.get _ _ id hg
      refine ⟨g2, accl, get_set g2, ?_, (k1.trans k2.none).trans (Kp.set rfl)⟩
      rw [take, List.filterMap_append, List.map_append, tp_zero]
      rfl
    | es as =>
      dsimp only [dI]
      walk_at "run"
      refine ⟨by decide, ?_⟩
      cases as with
      | nil =>
        rw [show cmpD s1 .NotEq (.tup (dEs [])) (.tup []) = some false from rfl]
        walk_at "run"
        rw [if_neg (by decide)]
        exact skip rfl
      | cons a as =>
        have hA : (a :: as).length ≤ 3 ∧ ∀ a' ∈ a :: as, EO vs a' := hiw
        rw [unit (fun r => res_dEs (a :: as)) (by
          show nobs 39 (dEs (a :: as)) = true
          exact nobs_dE _ 39 (by have := dps_of (es := a :: as) (d := 12) fun e he => (hA.2 e he).d; omega)) (by simp [dEs])]
        walk_at "run"
        obtain ⟨l, el⟩ := dE_hd a
        rw [dEs, PX.x0, el]
        walk_at "run"
        rw [if_neg (by decide)]
        exact skip rfl
    | ss b =>
      dsimp only [dI]
      walk_at "run"
      refine ⟨by decide, ?_⟩
      cases b with
      | nil =>
        rw [show cmpD s1 .NotEq (.tup (dSs [])) (.tup []) = some false from rfl]
        walk_at "run"
        rw [if_neg (by decide)]
        exact skip rfl
      | cons a as =>
        have hA : WSs vs (a :: as) ∧ bds (a :: as) ≤ 5 := hiw
        rw [unit (fun r => res_dSs (a :: as)) (by
          show nobs 39 (dSs (a :: as)) = true
          exact nobs_dS (vs := vs) _ 39 hA.1 (by omega)) (by simp [dSs])]
        walk_at "run"
        have : ∃ l, dS a = .tup l := by cases a <;> exact ⟨_, rfl⟩
        obtain ⟨l, el⟩ := this
        rw [dSs, PX.x0, el]
        walk_at "run"
        rw [if_neg (by decide)]
        exact skip rfl
  · rintro acc s1 ⟨hg, rfl, k1⟩
    rw [List.length_map, List.take_length] at hg
    exact ⟨trivial, h s1 k1 hg⟩
end
end K01

namespace K01
open PySem PX Tk Sx
/-! rstrip -/
theorem nospace : ∀ c : Nat, 33 ≤ c → c < 127 → Unicode.isSpace c = false := by
  have : (List.range 127).all (fun c => decide (c < 33) || !Unicode.isSpace c) = true := by decide +kernel
  intro c h1 h2
  have := List.all_eq_true.mp this c (List.mem_range.mpr h2)
  simpa [show ¬ c < 33 by omega] using this
theorem rstrip_no {t : List Nat} (h : NoWs t) : rstripL t = t := by
  obtain ⟨a, c, rfl, h1, h2⟩ := h
  have hs := nospace c h1 h2
  have e : stripSame Unicode.isSpace false true ⟨(a ++ [c]).toArray⟩ = true := by
    simp only [stripSame, stripLo, stripHi, if_true, Bool.false_eq_true, if_false, List.drop_zero, beq_self_eq_true, Bool.true_and, beq_iff_eq]
    rw [List.reverse_append]
    simp [List.takeWhile_cons, hs]
  unfold rstripL Txt.rstrip Txt.stripBy
  rw [if_pos e]
theorem nows_app {a b : List Nat} (h : NoWs b) : NoWs (a ++ b) := by
  obtain ⟨x, c, rfl, h1, h2⟩ := h
  exact ⟨a ++ x, c, by rw [List.append_assoc], h1, h2⟩
theorem nows_one {c : Nat} (h1 : 33 ≤ c) (h2 : c < 127) {a : List Nat} : NoWs (a ++ [c]) := ⟨a, c, rfl, h1, h2⟩
theorem aln_rng {c : Nat} (h : aln c = true) : 33 ≤ c ∧ c < 127 := by
  have : LD.all (fun c => decide (33 ≤ c ∧ c < 127)) = true := by decide
  rw [aln_LD, decide_eq_true_eq] at h
  simpa using List.all_eq_true.mp this c h
theorem nows_aln {w : List Nat} (h : w.all aln = true) (hne : w ≠ []) : NoWs w := by
  rcases List.eq_nil_or_concat w with e | ⟨a, c, e⟩
  · exact absurd e hne
  · rw [List.concat_eq_append] at e
    subst e
    have := aln_rng (List.all_eq_true.mp h c (by simp))
    exact ⟨a, c, rfl, this.1, this.2⟩
theorem nows_par {b : Bool} {t : List Nat} (h : NoWs t) : NoWs (par b t) := by
  unfold par
  split
  · exact nows_one (by decide) (by decide)
  · exact h
theorem tx_nows {vs : List Nm} (hv : ∀ x ∈ vs, Name x) : ∀ e : Ex, WE vs e → NoWs (tx e)
  | .num n, h => by
    obtain ⟨_, h1, _, h3⟩ := num_chk n h
    exact nows_aln h1 h3
  | .var x, h => nows_aln (hv x h).aln (hv x h).ne
  | .wd k, h => by cases k <;> exact nows_aln (by decide) (by decide)
  | .call k f as, h => nows_one (by decide) (by decide)
  | .list as, h => nows_one (by decide) (by decide)
  | .un k e, h => nows_app (nows_par (tx_nows hv e h))
  | .fld e x, h => nows_app (nows_aln h.2.aln h.2.ne)
  | .app e as, h => nows_one (by decide) (by decide)
  | .bin o a b, h => by
    have h2 := tx_nows hv b h.2
    cases o with
    | item => exact nows_one (by decide) (by decide)
    | _ => exact nows_app (nows_par h2)
theorem unit_ne {s : Sto} {xs : List D} (h1 : ∀ r, resWs r xs = some xs) (h2 : nob 40 (.tup xs) = true) (h3 : xs ≠ []) : cmpD s .NotEq (.tup xs) (.tup []) = some true := by
  rw [ne_unit (by simp only [resW, h1, Option.map_some]) h2 ⟨_, rfl⟩]
  congr 1
  rw [Bool.not_eq_true', decide_eq_false_iff_not]
  intro z
  cases z
  exact h3 rfl
theorem rs_ref {s : Sto} {a : List Nat} {Q : QE} (h : Q (.str (rstripL a)) s) : xMeth .rstrip (.str a) [] s Q := h
section
variable {j : Nat}
/-- a list of texts at a place -/
abbrev TL (s : Sto) (n : Nat) (l : List (List Nat)) : Prop := s[n]? = some (.lst (l.map .str))
theorem cut_items {x : D} {its : List It} : cut (x :: its.map dI) (some 1) none = its.map dI := cut1
set_option maxHeartbeats 0 in
theorem llines_ok {vs : List Nm} (hv : ∀ x ∈ vs, Name x) : ∀ (d : Nat) (b : List St) (pad : List Nat) (r : Nat) (s : Sto) (Q : QE) (E : XQ), bds b ≤ d → d ≤ 6 → WSs vs b → lls b ≤ 1000 → pad.length + 2 * d ≤ 100 → s[r]? = some (.lst []) →
    (∀ s' q, Kp (fun _ => False) s s' → TL s' q (lns b pad) → s.length ≤ q → Q (.ref q) s') → Lv TT (j + 12 + d + 1) i_law_lines [.tup (dSs b), .str pad, .ref r] s Q E := by
  intro d
  induction d using Nat.strongRecOn with
  | ind d ih =>
  intro b pad r s Q E hd hd6 hw hll hpad hr h
  refine lv_in (fn := d_law_lines.fn) rfl rfl ?_
  dsimp only [d_law_lines, b_law_lines_1]
  walk_at "run"
  have e24 := size24
  have hrl := lt_of_get hr
  have rc : ∀ (b' : List St) (s1 : Sto) (Q : QE) (E : XQ) , bds b' + 1 ≤ d → WSs vs b' → lls b' ≤ 1000 → s1[r]? = some (.lst []) → (∀ s' q, Kp (fun _ => False) s1 s' → TL s' q (lns b' (pad ++ [32, 32])) → s1.length ≤ q → Q (.ref q) s') → Lv TT (j + 12 + d) i_law_lines [.tup (dSs b'), .str (pad ++ [32, 32]), .ref r] s1 Q E := fun b' s1 Q E h1 h2 h3 h4 h5 => by
    refine Lv_le (k := j + 12 + (d - 1) + 1) (by omega) (ih (d - 1) (by omega) b' _ r s1 Q E (by omega) (by omega) h2 h3 (by simp only [List.length_append, List.length_cons, List.length_nil]; omega) h4 h5)
  have tex : ∀ {e : Ex} (p : Nat) {s1 : Sto} {Q : QE} {E : XQ}, EO vs e → s1[r]? = some (.lst []) → (∀ s', Kp (fun _ => False) s1 s' → Q (.str (tp p e)) s') → Lv TT (j + 12 + d) i_law_text_e [dE e, .int p, .ref r] s1 Q E := fun {e} p {s1 Q E} h1 h2 h3 =>
    Lv_le (k := j + 12) (by omega) (text_e_ok hv 12 e p r s1 Q E h1.d h1.w (by have := h1.n; omega) h2 h3)
  refine ⟨by decide, ?_⟩
  refine for_at (I := fun i σ s' => (∃ v4 v5 v6 v7, σ = [some (.tup (dSs b)), some (.str pad), some (.ref r), some (.ref s.length), v4, v5, v6, v7]) ∧ TL s' s.length (lns (b.take i) pad) ∧ Kp (fun p => p = s.length) s s') ⟨⟨_, _, _, _, rfl⟩, get_new, Kp.push⟩ ?_ ?_
  · rintro i it σ s1 N' hit ⟨⟨v4, v5, v6, v7, rfl⟩, hg, k1⟩ hN
    rw [dSs_map, List.getElem?_map] at hit
    cases ebi : b[i]? with
    | none => rw [ebi] at hit; cases hit
    | some st =>
    rw [ebi] at hit
    cases hit
    have hmem := List.mem_of_getElem? ebi
    have hst := WSs_all.mp hw st hmem
    have hbd := bds_le hd st hmem
    have hlst := lls_le hll st hmem
    have take : lns (b.take (i + 1)) pad = lns (b.take i) pad ++ ln st pad := by
      rw [List.take_add_one, ebi, lns_app]
      simp [lns]
    have gl : (lns (b.take i) pad).length + ll st ≤ 1000 := by
      have : lls b = lls (b.take (i + 1)) + lls (b.drop (i + 1)) := by rw [← lls_app, List.take_append_drop]
      have h2 : lls (b.take (i + 1)) = lls (b.take i) + ll st := by rw [← lns_len _ pad, take, List.length_append, lns_len, ln_len]
      rw [lns_len]
      omega
    have lp := ll_pos st
    refine ⟨trivial, ?_⟩
    unfold b_law_lines_2
    walk_at "run"
    have hr1 := k1.get _ _ (by omega) hr
    have hgl := lt_of_get hg
    generalize hG : lns (b.take i) pad = G at hg gl take
    -- the end of a turn
    have done : ∀ {s2 : Sto} {v5 v6 v7 : Option D}, TL s2 s.length (G ++ ln st pad) → Kp (fun p => p = s.length) s1 s2 → N'.nx [some (.tup (dSs b)), some (.str pad), some (.ref r), some (.ref s.length), some (dS st), v5, v6, v7] s2 := fun {s2 v5 v6 v7} h1 k2 => hN.nx _ _ ⟨⟨_, _, _, _, rfl⟩, by rw [take]; exact h1, k1.trans k2⟩
    have app : ∀ {s2 : Sto} {v5 v6 v7 : Option D} {t : List Nat}, ln st pad = [t] → Kp (fun p => p = s.length) s1 s2 → TL s2 s.length G → xMeth .append (.ref s.length) [.str t] s2 (fun _ s3 => N'.nx [some (.tup (dSs b)), some (.str pad), some (.ref r), some (.ref s.length), some (dS st), v5, v6, v7] s3) := fun {s2 v5 v6 v7 t} h1 k2 hg2 => by
      refine app_ref hg2 (by rw [List.length_map]; omega) (done (by rw [h1]; show _ = _; rw [get_set hg2, List.map_append]; rfl) (k2.trans (Kp.set rfl)))
    have ext : ∀ {s2 : Sto} {q : Nat} {l : List (List Nat)} {Q : QE}, TL s2 s.length G → TL s2 q l → G.length + l.length ≤ 1000 → (TL (s2.set s.length (.lst ((G ++ l).map .str))) s.length (G ++ l) → Q .non (s2.set s.length (.lst ((G ++ l).map .str)))) → xMeth .extend (.ref s.length) [.ref q] s2 Q := fun {s2 q l Q} h1 h2 h3 h4 => by
      refine ext_ref h1 h2 (by simp only [List.length_map]; omega) ?_
      rw [← List.map_append]
      exact h4 (get_set h1)
    have keep : ∀ {s2 : Sto}, Kp (fun p => p = s1.length) s1 s2 → Kp (fun _ => False) s1 s2 := fun {s2} k => k.mono fun p hp z => by omega
    cases st with
    | rest =>
      simp only [dS]
      walk_at "run"
      rw [PX.x0]
      walk_at "run"
      rw [show cut [D.str [114, 101, 115, 116]] (some 1) none = ([] : List It).map dI from cut1]
      refine ⟨trivial, trivial, es_ok (its := []) hv hr1 (k := j + 12 + d) (by omega) (by simp) (fun i hi => ?_) fun s2 k2 hes => ?_⟩
      · exact absurd hi List.not_mem_nil
      have kf := keep k2
      have hg2 := kf.get _ _ id hg
      have hr2 := kf.get _ _ id hr1
      unfold b_law_lines_2_1
      walk_at "run"
      first | refine br_at rfl ?_ | refine br_af rfl ?_ | refine ob_at rfl ?_ | refine ob_af rfl ?_
      unfold b_law_lines_5
      walk_at "run"
      first | refine br_at rfl ?_ | refine br_af rfl ?_ | refine ob_at rfl ?_ | refine ob_af rfl ?_
      unfold b_law_lines_7
      walk_at "run"
      first | refine br_at rfl ?_ | refine br_af rfl ?_ | refine ob_at rfl ?_ | refine ob_af rfl ?_
      unfold b_law_lines_9
      walk_at "run"
      first | refine br_at rfl ?_ | refine br_af rfl ?_ | refine ob_at rfl ?_ | refine ob_af rfl ?_
      unfold b_law_lines_11
      walk_at "run"
      first | refine br_at rfl ?_ | refine br_af rfl ?_ | refine ob_at rfl ?_ | refine ob_af rfl ?_
      unfold b_law_lines_13
      walk_at "run"
      first | refine br_at rfl ?_ | refine br_af rfl ?_ | refine ob_at rfl ?_ | refine ob_af rfl ?_
      unfold b_law_lines_15
      walk_at "run"
      first | refine br_at rfl ?_ | refine br_af rfl ?_ | refine ob_at rfl ?_ | refine ob_af rfl ?_
      unfold b_law_lines_17
      walk_at "run"
      first | refine br_at rfl ?_ | refine br_af rfl ?_ | refine ob_at rfl ?_ | refine ob_af rfl ?_
      unfold b_law_lines_19
      walk_at "run"
      refine ⟨mty_ref hg2 rfl, by first | omega | (simp only [KU.w, KC.w, KB.w, KB.sg, List.length_append, List.length_cons, List.length_nil]; omega) | (simp [KU.w, KC.w, KB.w, KB.sg]; omega), trivial, join_ref hes (by decide) ?_⟩
      walk_at "run"
      refine ⟨by decide, trivial, rs_ref ?_⟩
      walk_at "run"
      generalize hR : rstripL _ = R
      have hR2 : R = [114, 101, 115, 116] := by rw [← hR]; decide +kernel
      subst hR2
      exact ⟨by first | omega | (simp only [KU.w, KC.w, KB.w, KB.sg, List.length_append, List.length_cons, List.length_nil]; omega) | (simp [KU.w, KC.w, KB.w, KB.sg]; omega), app rfl kf.none hg2⟩
    | one k e =>
      have he : EO vs e := hst
      have hl := he.len hv
      cases k with
      | ret =>
        simp only [dS]
        walk_at "run"
        rw [PX.x0]
        walk_at "run"
        rw [show cut [D.str K1.ret.w, dE e] (some 1) none = ([.e e] : List It).map dI from cut1]
        refine ⟨trivial, trivial, es_ok (its := [.e e]) hv hr1 (k := j + 12 + d) (by omega) (by simp) (fun i hi => ?_) fun s2 k2 hes => ?_⟩
        · simp only [List.mem_cons, List.not_mem_nil, or_false] at hi
          rcases hi with rfl
          · exact he
        have kf := keep k2
        have hg2 := kf.get _ _ id hg
        have hr2 := kf.get _ _ id hr1
        unfold b_law_lines_2_1
        walk_at "run"
        first | refine br_at rfl ?_ | refine br_af rfl ?_ | refine ob_at rfl ?_ | refine ob_af rfl ?_
        unfold b_law_lines_5
        walk_at "run"
        first | refine br_at rfl ?_ | refine br_af rfl ?_ | refine ob_at rfl ?_ | refine ob_af rfl ?_
        unfold b_law_lines_7
        walk_at "run"
        first | refine br_at rfl ?_ | refine br_af rfl ?_ | refine ob_at rfl ?_ | refine ob_af rfl ?_
        unfold b_law_lines_9
        walk_at "run"
        first | refine br_at rfl ?_ | refine br_af rfl ?_ | refine ob_at rfl ?_ | refine ob_af rfl ?_
        unfold b_law_lines_11
        walk_at "run"
        first | refine br_at rfl ?_ | refine br_af rfl ?_ | refine ob_at rfl ?_ | refine ob_af rfl ?_
        unfold b_law_lines_13
        walk_at "run"
        first | refine br_at rfl ?_ | refine br_af rfl ?_ | refine ob_at rfl ?_ | refine ob_af rfl ?_
        unfold b_law_lines_15
        walk_at "run"
        first | refine br_at rfl ?_ | refine br_af rfl ?_ | refine ob_at rfl ?_ | refine ob_af rfl ?_
        unfold b_law_lines_17
        walk_at "run"
        first | refine br_at rfl ?_ | refine br_af rfl ?_ | refine ob_at rfl ?_ | refine ob_af rfl ?_
        unfold b_law_lines_19
        walk_at "run"
        refine ⟨mty_ref hg2 rfl, by decide, trivial, join_ref hes (by simp [itx]; omega) ?_⟩
        walk_at "run"
        refine ⟨by simp [itx, joinS, K1.w]; omega, trivial, rs_ref ?_⟩
        walk_at "run"
        generalize hR : rstripL _ = R
        have hR2 : R = K1.ret.w ++ [32] ++ tx e := by
          rw [← hR]
          exact rstrip_no (t := K1.ret.w ++ [32] ++ tx e) (nows_app (tx_nows hv e he.w))
        subst hR2
        exact ⟨by simp [itx, joinS, K1.w]; omega, app rfl kf.none hg2⟩
      | throw =>
        simp only [dS]
        walk_at "run"
        rw [PX.x0]
        walk_at "run"
        rw [show cut [D.str K1.throw.w, dE e] (some 1) none = ([.e e] : List It).map dI from cut1]
        refine ⟨trivial, trivial, es_ok (its := [.e e]) hv hr1 (k := j + 12 + d) (by omega) (by simp) (fun i hi => ?_) fun s2 k2 hes => ?_⟩
        · simp only [List.mem_cons, List.not_mem_nil, or_false] at hi
          rcases hi with rfl
          · exact he
        have kf := keep k2
        have hg2 := kf.get _ _ id hg
        have hr2 := kf.get _ _ id hr1
        unfold b_law_lines_2_1
        walk_at "run"
        first | refine br_at rfl ?_ | refine br_af rfl ?_ | refine ob_at rfl ?_ | refine ob_af rfl ?_
        unfold b_law_lines_5
        walk_at "run"
        first | refine br_at rfl ?_ | refine br_af rfl ?_ | refine ob_at rfl ?_ | refine ob_af rfl ?_
        unfold b_law_lines_7
        walk_at "run"
        first | refine br_at rfl ?_ | refine br_af rfl ?_ | refine ob_at rfl ?_ | refine ob_af rfl ?_
        unfold b_law_lines_9
        walk_at "run"
        first | refine br_at rfl ?_ | refine br_af rfl ?_ | refine ob_at rfl ?_ | refine ob_af rfl ?_
        unfold b_law_lines_11
        walk_at "run"
        first | refine br_at rfl ?_ | refine br_af rfl ?_ | refine ob_at rfl ?_ | refine ob_af rfl ?_
        unfold b_law_lines_13
        walk_at "run"
        first | refine br_at rfl ?_ | refine br_af rfl ?_ | refine ob_at rfl ?_ | refine ob_af rfl ?_
        unfold b_law_lines_15
        walk_at "run"
        first | refine br_at rfl ?_ | refine br_af rfl ?_ | refine ob_at rfl ?_ | refine ob_af rfl ?_
        unfold b_law_lines_17
        walk_at "run"
        first | refine br_at rfl ?_ | refine br_af rfl ?_ | refine ob_at rfl ?_ | refine ob_af rfl ?_
        unfold b_law_lines_19
        walk_at "run"
        refine ⟨mty_ref hg2 rfl, by decide, trivial, join_ref hes (by simp [itx]; omega) ?_⟩
        walk_at "run"
        refine ⟨by simp [itx, joinS, K1.w]; omega, trivial, rs_ref ?_⟩
        walk_at "run"
        generalize hR : rstripL _ = R
        have hR2 : R = K1.throw.w ++ [32] ++ tx e := by
          rw [← hR]
          exact rstrip_no (t := K1.throw.w ++ [32] ++ tx e) (nows_app (tx_nows hv e he.w))
        subst hR2
        exact ⟨by simp [itx, joinS, K1.w]; omega, app rfl kf.none hg2⟩
      | say =>
        simp only [dS]
        walk_at "run"
        rw [PX.x0]
        walk_at "run"
        rw [show cut [D.str K1.say.w, dE e] (some 1) none = ([.e e] : List It).map dI from cut1]
        refine ⟨trivial, trivial, es_ok (its := [.e e]) hv hr1 (k := j + 12 + d) (by omega) (by simp) (fun i hi => ?_) fun s2 k2 hes => ?_⟩
        · simp only [List.mem_cons, List.not_mem_nil, or_false] at hi
          rcases hi with rfl
          · exact he
        have kf := keep k2
        have hg2 := kf.get _ _ id hg
        have hr2 := kf.get _ _ id hr1
        unfold b_law_lines_2_1
        walk_at "run"
        first | refine br_at rfl ?_ | refine br_af rfl ?_ | refine ob_at rfl ?_ | refine ob_af rfl ?_
        unfold b_law_lines_5
        walk_at "run"
        first | refine br_at rfl ?_ | refine br_af rfl ?_ | refine ob_at rfl ?_ | refine ob_af rfl ?_
        unfold b_law_lines_7
        walk_at "run"
        first | refine br_at rfl ?_ | refine br_af rfl ?_ | refine ob_at rfl ?_ | refine ob_af rfl ?_
        unfold b_law_lines_9
        walk_at "run"
        first | refine br_at rfl ?_ | refine br_af rfl ?_ | refine ob_at rfl ?_ | refine ob_af rfl ?_
        unfold b_law_lines_11
        walk_at "run"
        first | refine br_at rfl ?_ | refine br_af rfl ?_ | refine ob_at rfl ?_ | refine ob_af rfl ?_
        unfold b_law_lines_13
        walk_at "run"
        first | refine br_at rfl ?_ | refine br_af rfl ?_ | refine ob_at rfl ?_ | refine ob_af rfl ?_
        unfold b_law_lines_15
        walk_at "run"
        first | refine br_at rfl ?_ | refine br_af rfl ?_ | refine ob_at rfl ?_ | refine ob_af rfl ?_
        unfold b_law_lines_17
        walk_at "run"
        first | refine br_at rfl ?_ | refine br_af rfl ?_ | refine ob_at rfl ?_ | refine ob_af rfl ?_
        unfold b_law_lines_19
        walk_at "run"
        refine ⟨mty_ref hg2 rfl, by decide, trivial, join_ref hes (by simp [itx]; omega) ?_⟩
        walk_at "run"
        refine ⟨by simp [itx, joinS, K1.w]; omega, trivial, rs_ref ?_⟩
        walk_at "run"
        generalize hR : rstripL _ = R
        have hR2 : R = K1.say.w ++ [32] ++ tx e := by
          rw [← hR]
          exact rstrip_no (t := K1.say.w ++ [32] ++ tx e) (nows_app (tx_nows hv e he.w))
        subst hR2
        exact ⟨by simp [itx, joinS, K1.w]; omega, app rfl kf.none hg2⟩
      | do_ =>
        simp only [dS]
        walk_at "run"
        rw [PX.x0]
        walk_at "run"
        rw [show cut [D.str K1.do_.w, dE e] (some 1) none = ([.e e] : List It).map dI from cut1]
        refine ⟨trivial, trivial, es_ok (its := [.e e]) hv hr1 (k := j + 12 + d) (by omega) (by simp) (fun i hi => ?_) fun s2 k2 hes => ?_⟩
        · simp only [List.mem_cons, List.not_mem_nil, or_false] at hi
          rcases hi with rfl
          · exact he
        have kf := keep k2
        have hg2 := kf.get _ _ id hg
        have hr2 := kf.get _ _ id hr1
        unfold b_law_lines_2_1
        walk_at "run"
        first | refine br_at rfl ?_ | refine br_af rfl ?_ | refine ob_at rfl ?_ | refine ob_af rfl ?_
        unfold b_law_lines_5
        walk_at "run"
        first | refine br_at rfl ?_ | refine br_af rfl ?_ | refine ob_at rfl ?_ | refine ob_af rfl ?_
        unfold b_law_lines_7
        walk_at "run"
        first | refine br_at rfl ?_ | refine br_af rfl ?_ | refine ob_at rfl ?_ | refine ob_af rfl ?_
        unfold b_law_lines_9
        walk_at "run"
        first | refine br_at rfl ?_ | refine br_af rfl ?_ | refine ob_at rfl ?_ | refine ob_af rfl ?_
        unfold b_law_lines_11
        walk_at "run"
        first | refine br_at rfl ?_ | refine br_af rfl ?_ | refine ob_at rfl ?_ | refine ob_af rfl ?_
        unfold b_law_lines_13
        walk_at "run"
        first | refine br_at rfl ?_ | refine br_af rfl ?_ | refine ob_at rfl ?_ | refine ob_af rfl ?_
        unfold b_law_lines_15
        walk_at "run"
        first | refine br_at rfl ?_ | refine br_af rfl ?_ | refine ob_at rfl ?_ | refine ob_af rfl ?_
        unfold b_law_lines_17
        walk_at "run"
        first | refine br_at rfl ?_ | refine br_af rfl ?_ | refine ob_at rfl ?_ | refine ob_af rfl ?_
        unfold b_law_lines_18
        walk_at "run"
        refine ⟨mty_ref hg2 rfl, ix_ref hes atI_z ?_⟩
        walk_at "run"
        exact ⟨by first | omega | (simp only [KU.w, KC.w, KB.w, KB.sg, List.length_append, List.length_cons, List.length_nil]; omega) | (simp [KU.w, KC.w, KB.w, KB.sg]; omega), app rfl kf.none hg2⟩
    | set x e =>
      obtain ⟨hx, he⟩ : x ∈ vs ∧ EO vs e := hst
      have hl := he.len hv
      have hxl := (hv x hx).len
      simp only [dS]
      walk_at "run"
      rw [PX.x0]
      walk_at "run"
      rw [show cut [D.str [115, 101, 116], .str x, dE e] (some 1) none = ([.s x, .e e] : List It).map dI from cut1]
      refine ⟨trivial, trivial, es_ok (its := [.s x, .e e]) hv hr1 (k := j + 12 + d) (by omega) (by simp) (fun i hi => ?_) fun s2 k2 hes => ?_⟩
      · simp only [List.mem_cons, List.not_mem_nil, or_false] at hi
        rcases hi with rfl | rfl
        · exact trivial
        · exact he
      have kf := keep k2
      have hg2 := kf.get _ _ id hg
      have hr2 := kf.get _ _ id hr1
      unfold b_law_lines_2_1
      walk_at "run"
      first | refine br_at rfl ?_ | refine br_af rfl ?_ | refine ob_at rfl ?_ | refine ob_af rfl ?_
      unfold b_law_lines_5
      walk_at "run"
      first | refine br_at rfl ?_ | refine br_af rfl ?_ | refine ob_at rfl ?_ | refine ob_af rfl ?_
      unfold b_law_lines_7
      walk_at "run"
      first | refine br_at rfl ?_ | refine br_af rfl ?_ | refine ob_at rfl ?_ | refine ob_af rfl ?_
      unfold b_law_lines_9
      walk_at "run"
      first | refine br_at rfl ?_ | refine br_af rfl ?_ | refine ob_at rfl ?_ | refine ob_af rfl ?_
      unfold b_law_lines_10
      walk_at "run"
      refine ⟨mty_ref hg2 rfl, ?_⟩
      rw [PX.x1]
      walk_at "run"
      refine ⟨by first | omega | (simp only [KU.w, KC.w, KB.w, KB.sg, List.length_append, List.length_cons, List.length_nil]; omega) | (simp [KU.w, KC.w, KB.w, KB.sg]; omega), by first | omega | (simp only [KU.w, KC.w, KB.w, KB.sg, List.length_append, List.length_cons, List.length_nil]; omega) | (simp [KU.w, KC.w, KB.w, KB.sg]; omega), ix_ref hes atI_z ?_⟩
      walk_at "run"
      exact ⟨by first | omega | (simp only [KU.w, KC.w, KB.w, KB.sg, List.length_append, List.length_cons, List.length_nil]; omega) | (simp [KU.w, KC.w, KB.w, KB.sg]; omega), app (by simp [ln, sl]) kf.none hg2⟩
    | push a b' =>
      obtain ⟨ha, hb⟩ : EO vs a ∧ EO vs b' := hst
      have hla := ha.len hv
      have hlb := hb.len hv
      simp only [dS]
      walk_at "run"
      rw [PX.x0]
      walk_at "run"
      rw [show cut [D.str [112, 117, 115, 104], dE a, dE b'] (some 1) none = ([.e a, .e b'] : List It).map dI from cut1]
      refine ⟨trivial, trivial, es_ok (its := [.e a, .e b']) hv hr1 (k := j + 12 + d) (by omega) (by simp) (fun i hi => ?_) fun s2 k2 hes => ?_⟩
      · simp only [List.mem_cons, List.not_mem_nil, or_false] at hi
        rcases hi with rfl | rfl
        · exact ha
        · exact hb
      have kf := keep k2
      have hg2 := kf.get _ _ id hg
      have hr2 := kf.get _ _ id hr1
      unfold b_law_lines_2_1
      walk_at "run"
      first | refine br_at rfl ?_ | refine br_af rfl ?_ | refine ob_at rfl ?_ | refine ob_af rfl ?_
      unfold b_law_lines_5
      walk_at "run"
      first | refine br_at rfl ?_ | refine br_af rfl ?_ | refine ob_at rfl ?_ | refine ob_af rfl ?_
      unfold b_law_lines_7
      walk_at "run"
      first | refine br_at rfl ?_ | refine br_af rfl ?_ | refine ob_at rfl ?_ | refine ob_af rfl ?_
      unfold b_law_lines_9
      walk_at "run"
      first | refine br_at rfl ?_ | refine br_af rfl ?_ | refine ob_at rfl ?_ | refine ob_af rfl ?_
      unfold b_law_lines_11
      walk_at "run"
      first | refine br_at rfl ?_ | refine br_af rfl ?_ | refine ob_at rfl ?_ | refine ob_af rfl ?_
      unfold b_law_lines_13
      walk_at "run"
      first | refine br_at rfl ?_ | refine br_af rfl ?_ | refine ob_at rfl ?_ | refine ob_af rfl ?_
      unfold b_law_lines_15
      walk_at "run"
      first | refine br_at rfl ?_ | refine br_af rfl ?_ | refine ob_at rfl ?_ | refine ob_af rfl ?_
      unfold b_law_lines_17
      walk_at "run"
      first | refine br_at rfl ?_ | refine br_af rfl ?_ | refine ob_at rfl ?_ | refine ob_af rfl ?_
      unfold b_law_lines_19
      walk_at "run"
      refine ⟨mty_ref hg2 rfl, by decide, trivial, join_ref hes (by simp [itx]; omega) ?_⟩
      walk_at "run"
      refine ⟨by simp [itx, joinS]; omega, trivial, rs_ref ?_⟩
      walk_at "run"
      generalize hR : rstripL _ = R
      have hR2 : R = [112, 117, 115, 104] ++ [32] ++ (tx a ++ [44, 32] ++ tx b') := by
        rw [← hR]
        exact rstrip_no (t := [112, 117, 115, 104] ++ [32] ++ (tx a ++ [44, 32] ++ tx b')) (nows_app (nows_app (tx_nows hv b' hb.w)))
      subst hR2
      exact ⟨by simp [itx, joinS]; omega, app (by simp [ln, sl, joinS, itx]) kf.none hg2⟩
    | store a f b' =>
      obtain ⟨ha, hf, hb⟩ : EO vs a ∧ Name f ∧ EO vs b' := hst
      have hla := ha.tpl hv (p := 4)
      have hlb := hb.tpl hv (p := 0)
      have hfl := hf.len
      simp only [dS]
      walk_at "run"
      rw [PX.x0]
      walk_at "run"
      rw [show cut [D.str [115, 116, 111, 114, 101], dE a, .str f, dE b'] (some 1) none = ([.e a, .s f, .e b'] : List It).map dI from cut1]
      refine ⟨trivial, trivial, es_ok (its := [.e a, .s f, .e b']) hv hr1 (k := j + 12 + d) (by omega) (by simp) (fun i hi => ?_) fun s2 k2 hes => ?_⟩
      · simp only [List.mem_cons, List.not_mem_nil, or_false] at hi
        rcases hi with rfl | rfl | rfl
        · exact ha
        · exact trivial
        · exact hb
      have kf := keep k2
      have hg2 := kf.get _ _ id hg
      have hr2 := kf.get _ _ id hr1
      unfold b_law_lines_2_1
      walk_at "run"
      first | refine br_at rfl ?_ | refine br_af rfl ?_ | refine ob_at rfl ?_ | refine ob_af rfl ?_
      unfold b_law_lines_5
      walk_at "run"
      first | refine br_at rfl ?_ | refine br_af rfl ?_ | refine ob_at rfl ?_ | refine ob_af rfl ?_
      unfold b_law_lines_7
      walk_at "run"
      first | refine br_at rfl ?_ | refine br_af rfl ?_ | refine ob_at rfl ?_ | refine ob_af rfl ?_
      unfold b_law_lines_9
      walk_at "run"
      first | refine br_at rfl ?_ | refine br_af rfl ?_ | refine ob_at rfl ?_ | refine ob_af rfl ?_
      unfold b_law_lines_11
      walk_at "run"
      first | refine br_at rfl ?_ | refine br_af rfl ?_ | refine ob_at rfl ?_ | refine ob_af rfl ?_
      unfold b_law_lines_12
      walk_at "run"
      refine ⟨mty_ref hg2 rfl, ?_⟩
      rw [PX.x1]
      refine tex 4 ha hr2 fun s3 k3 => ?_
      walk_at "run"
      refine ⟨by first | omega | (simp only [KU.w, KC.w, KB.w, KB.sg, List.length_append, List.length_cons, List.length_nil]; omega) | (simp [KU.w, KC.w, KB.w, KB.sg]; omega), by first | omega | (simp only [KU.w, KC.w, KB.w, KB.sg, List.length_append, List.length_cons, List.length_nil]; omega) | (simp [KU.w, KC.w, KB.w, KB.sg]; omega), ?_⟩
      rw [PX.x2]
      walk_at "run"
      refine ⟨by first | omega | (simp only [KU.w, KC.w, KB.w, KB.sg, List.length_append, List.length_cons, List.length_nil]; omega) | (simp [KU.w, KC.w, KB.w, KB.sg]; omega), by first | omega | (simp only [KU.w, KC.w, KB.w, KB.sg, List.length_append, List.length_cons, List.length_nil]; omega) | (simp [KU.w, KC.w, KB.w, KB.sg]; omega), ?_⟩
      rw [PX.x3]
      refine tex 0 hb (k3.get _ _ id hr2) fun s4 k4 => ?_
      walk_at "run"
      refine ⟨by first | omega | (simp only [KU.w, KC.w, KB.w, KB.sg, List.length_append, List.length_cons, List.length_nil]; omega) | (simp [KU.w, KC.w, KB.w, KB.sg]; omega), app (by simp [ln, sl, tp_zero]) ((kf.trans k3).trans k4).none (k4.get _ _ id (k3.get _ _ id hg2))⟩
    | place a b' c =>
      obtain ⟨ha, hb, hc⟩ : EO vs a ∧ EO vs b' ∧ EO vs c := hst
      have hla := ha.tpl hv (p := 4)
      have hlb := hb.len hv
      have hlc := hc.len hv
      simp only [dS]
      walk_at "run"
      rw [PX.x0]
      walk_at "run"
      rw [show cut [D.str [112, 108, 97, 99, 101], dE a, dE b', dE c] (some 1) none = ([.e a, .e b', .e c] : List It).map dI from cut1]
      refine ⟨trivial, trivial, es_ok (its := [.e a, .e b', .e c]) hv hr1 (k := j + 12 + d) (by omega) (by simp) (fun i hi => ?_) fun s2 k2 hes => ?_⟩
      · simp only [List.mem_cons, List.not_mem_nil, or_false] at hi
        rcases hi with rfl | rfl | rfl
        · exact ha
        · exact hb
        · exact hc
      have kf := keep k2
      have hg2 := kf.get _ _ id hg
      have hr2 := kf.get _ _ id hr1
      unfold b_law_lines_2_1
      walk_at "run"
      first | refine br_at rfl ?_ | refine br_af rfl ?_ | refine ob_at rfl ?_ | refine ob_af rfl ?_
      unfold b_law_lines_5
      walk_at "run"
      first | refine br_at rfl ?_ | refine br_af rfl ?_ | refine ob_at rfl ?_ | refine ob_af rfl ?_
      unfold b_law_lines_7
      walk_at "run"
      first | refine br_at rfl ?_ | refine br_af rfl ?_ | refine ob_at rfl ?_ | refine ob_af rfl ?_
      unfold b_law_lines_9
      walk_at "run"
      first | refine br_at rfl ?_ | refine br_af rfl ?_ | refine ob_at rfl ?_ | refine ob_af rfl ?_
      unfold b_law_lines_11
      walk_at "run"
      first | refine br_at rfl ?_ | refine br_af rfl ?_ | refine ob_at rfl ?_ | refine ob_af rfl ?_
      unfold b_law_lines_13
      walk_at "run"
      first | refine br_at rfl ?_ | refine br_af rfl ?_ | refine ob_at rfl ?_ | refine ob_af rfl ?_
      unfold b_law_lines_14
      walk_at "run"
      refine ⟨mty_ref hg2 rfl, ?_⟩
      rw [PX.x1]
      refine tex 4 ha hr2 fun s3 k3 => ?_
      walk_at "run"
      refine ⟨by first | omega | (simp only [KU.w, KC.w, KB.w, KB.sg, List.length_append, List.length_cons, List.length_nil]; omega) | (simp [KU.w, KC.w, KB.w, KB.sg]; omega), by first | omega | (simp only [KU.w, KC.w, KB.w, KB.sg, List.length_append, List.length_cons, List.length_nil]; omega) | (simp [KU.w, KC.w, KB.w, KB.sg]; omega), ?_⟩
      have hes3 := k3.get _ _ id hes
      refine ix_ref hes3 atI_o ?_
      walk_at "run"
      refine ⟨by first | omega | (simp only [KU.w, KC.w, KB.w, KB.sg, List.length_append, List.length_cons, List.length_nil]; omega) | (simp [KU.w, KC.w, KB.w, KB.sg]; omega), by first | omega | (simp only [KU.w, KC.w, KB.w, KB.sg, List.length_append, List.length_cons, List.length_nil]; omega) | (simp [KU.w, KC.w, KB.w, KB.sg]; omega), ix_ref hes3 atI_t ?_⟩
      walk_at "run"
      refine ⟨by first | omega | (simp only [KU.w, KC.w, KB.w, KB.sg, List.length_append, List.length_cons, List.length_nil]; omega) | (simp [KU.w, KC.w, KB.w, KB.sg]; omega), app (by simp [ln, sl]) (kf.trans k3).none (k3.get _ _ id hg2)⟩
    | go f as =>
      obtain ⟨hf, hal, ha⟩ : Name f ∧ as.length ≤ 3 ∧ ∀ a ∈ as, EO vs a := hst
      have hfl := hf.len
      obtain ⟨wa, da, na⟩ := EO.args hv ha
      have tl := txs_len hv as wa
      have jl : (joinS [44, 32] (txs as)).length ≤ 24 * nds as := join_len (by simp only [List.length_cons, List.length_nil]; omega)
      simp only [dS]
      walk_at "run"
      rw [PX.x0]
      walk_at "run"
      rw [show cut [D.str [103, 111], .str f, .tup (dEs as)] (some 1) none = ([.s f, .es as] : List It).map dI from cut1]
      refine ⟨trivial, trivial, es_ok (its := [.s f, .es as]) hv hr1 (k := j + 12 + d) (by omega) (by simp) (fun i hi => ?_) fun s2 k2 hes => ?_⟩
      · simp only [List.mem_cons, List.not_mem_nil, or_false] at hi
        rcases hi with rfl | rfl
        · exact trivial
        · exact ⟨hal, ha⟩
      have kf := keep k2
      have hg2 := kf.get _ _ id hg
      have hr2 := kf.get _ _ id hr1
      unfold b_law_lines_2_1
      walk_at "run"
      first | refine br_at rfl ?_ | refine br_af rfl ?_ | refine ob_at rfl ?_ | refine ob_af rfl ?_
      unfold b_law_lines_5
      walk_at "run"
      first | refine br_at rfl ?_ | refine br_af rfl ?_ | refine ob_at rfl ?_ | refine ob_af rfl ?_
      unfold b_law_lines_7
      walk_at "run"
      first | refine br_at rfl ?_ | refine br_af rfl ?_ | refine ob_at rfl ?_ | refine ob_af rfl ?_
      unfold b_law_lines_9
      walk_at "run"
      first | refine br_at rfl ?_ | refine br_af rfl ?_ | refine ob_at rfl ?_ | refine ob_af rfl ?_
      unfold b_law_lines_11
      walk_at "run"
      first | refine br_at rfl ?_ | refine br_af rfl ?_ | refine ob_at rfl ?_ | refine ob_af rfl ?_
      unfold b_law_lines_13
      walk_at "run"
      first | refine br_at rfl ?_ | refine br_af rfl ?_ | refine ob_at rfl ?_ | refine ob_af rfl ?_
      unfold b_law_lines_15
      walk_at "run"
      first | refine br_at rfl ?_ | refine br_af rfl ?_ | refine ob_at rfl ?_ | refine ob_af rfl ?_
      unfold b_law_lines_16
      walk_at "run"
      refine ⟨mty_ref hg2 rfl, by first | omega | (simp only [KU.w, KC.w, KB.w, KB.sg, List.length_append, List.length_cons, List.length_nil]; omega) | (simp [KU.w, KC.w, KB.w, KB.sg]; omega), ?_⟩
      rw [PX.x1]
      walk_at "run"
      refine ⟨by first | omega | (simp only [KU.w, KC.w, KB.w, KB.sg, List.length_append, List.length_cons, List.length_nil]; omega) | (simp [KU.w, KC.w, KB.w, KB.sg]; omega), by first | omega | (simp only [KU.w, KC.w, KB.w, KB.sg, List.length_append, List.length_cons, List.length_nil]; omega) | (simp [KU.w, KC.w, KB.w, KB.sg]; omega), ?_⟩
      rw [PX.x2]
      walk_at "run"
      unfold i_law_lines_1
      refine ⟨trivial, lc_strs (txs as) (by rw [dEs_len, txs_lenE]) (by rw [dEs_len]; omega) (fun _ _ => trivial) (fun i x t s3 Q hx ht k3 hq => ?_) fun s3 k3 hg3 => ?_⟩
      · obtain ⟨a, ha', rfl, rfl⟩ := dEs_get hx ht
        unfold l_law_lines_1
        simp only [wipeS]
        walk_at "run"
        refine tex 0 (ha a ha') (k3.get _ _ (by have := lt_of_get hr2; omega) hr2) fun s4 k4 => ?_
        rw [tp_zero]
        exact hq s4 k4
      refine join_ref hg3 (by simp only [List.length_cons, List.length_nil]; omega) ?_
      walk_at "run"
      have kf3 : Kp (fun _ => False) s1 s3 := (kf.mono (r' := fun p => p = s2.length) fun _ _ z => z.elim).trans k3 |>.mono fun p hp z => by have := kf.len; omega
      refine ⟨by first | omega | (simp only [KU.w, KC.w, KB.w, KB.sg, List.length_append, List.length_cons, List.length_nil]; omega) | (simp [KU.w, KC.w, KB.w, KB.sg]; omega), by first | omega | (simp only [KU.w, KC.w, KB.w, KB.sg, List.length_append, List.length_cons, List.length_nil]; omega) | (simp [KU.w, KC.w, KB.w, KB.sg]; omega), app (by simp [ln, sl]) kf3.none (kf3.get _ _ id hg)⟩
    | whl e b' =>
      obtain ⟨he, hb⟩ : EO vs e ∧ WSs vs b' := hst
      have hl := he.len hv
      simp only [bd] at hbd
      simp only [ll] at hlst gl
      simp only [dS]
      walk_at "run"
      rw [PX.x0]
      walk_at "run"
      rw [show cut [D.str [119, 104, 105, 108, 101], dE e, .tup (dSs b')] (some 1) none = ([.e e, .ss b'] : List It).map dI from cut1]
      refine ⟨trivial, trivial, es_ok (its := [.e e, .ss b']) hv hr1 (k := j + 12 + d) (by omega) (by simp) (fun i hi => ?_) fun s2 k2 hes => ?_⟩
      · simp only [List.mem_cons, List.not_mem_nil, or_false] at hi
        rcases hi with rfl | rfl
        · exact he
        · exact ⟨hb, by omega⟩
      have kf := keep k2
      have hg2 := kf.get _ _ id hg
      have hr2 := kf.get _ _ id hr1
      unfold b_law_lines_2_1
      walk_at "run"
      first | refine br_at rfl ?_ | refine br_af rfl ?_ | refine ob_at rfl ?_ | refine ob_af rfl ?_
      unfold b_law_lines_5
      walk_at "run"
      first | refine br_at rfl ?_ | refine br_af rfl ?_ | refine ob_at rfl ?_ | refine ob_af rfl ?_
      unfold b_law_lines_6
      walk_at "run"
      refine ⟨mty_ref hg2 rfl, by first | omega | (simp only [KU.w, KC.w, KB.w, KB.sg, List.length_append, List.length_cons, List.length_nil]; omega) | (simp [KU.w, KC.w, KB.w, KB.sg]; omega), ix_ref hes atI_z ?_⟩
      walk_at "run"
      refine ⟨by first | omega | (simp only [KU.w, KC.w, KB.w, KB.sg, List.length_append, List.length_cons, List.length_nil]; omega) | (simp [KU.w, KC.w, KB.w, KB.sg]; omega), by decide, ?_⟩
      rw [PX.x2]
      walk_at "run"
      refine ⟨by first | omega | (simp only [KU.w, KC.w, KB.w, KB.sg, List.length_append, List.length_cons, List.length_nil]; omega) | (simp [KU.w, KC.w, KB.w, KB.sg]; omega), ?_⟩
      refine rc b' _ _ _ (by omega) hb (by omega) (get_old hr2) fun s3 q k3 hq hql => ?_
      refine adds (a := [pad ++ [119, 104, 105, 108, 101, 32] ++ tx e]) (k3.get _ _ id get_new) hq (by rw [lns_len, List.length_singleton]; omega) fun s4 k4 h4 => ?_
      walk_at "run"
      refine ⟨by first | omega | (simp only [KU.w, KC.w, KB.w, KB.sg, List.length_append, List.length_cons, List.length_nil]; omega) | (simp [KU.w, KC.w, KB.w, KB.sg]; omega), by decide, ?_⟩
      refine adds (b := [pad ++ [101, 110, 100]]) (get_old h4) get_new (by rw [List.length_append, lns_len, List.length_singleton, List.length_singleton]; omega) fun s5 k5 h5 => ?_
      have kA : Kp (fun _ => False) s1 s5 := kf.trans (Kp.push.trans (k3.trans (k4.trans (Kp.push.trans k5))))
      exact ext (kA.get _ _ id hg) h5 (by simp only [List.length_append, lns_len, List.length_singleton]; omega) fun h6 => done h6 (kA.none.trans (Kp.set rfl))
    | try_ b' x c =>
      obtain ⟨hb, hx, hc⟩ : WSs vs b' ∧ x ∈ vs ∧ WSs vs c := hst
      have hxl := (hv x hx).len
      simp only [bd] at hbd
      simp only [ll] at hlst gl
      simp only [dS]
      walk_at "run"
      rw [PX.x0]
      walk_at "run"
      rw [show cut [D.str [116, 114, 121], .tup (dSs b'), .str x, .tup (dSs c)] (some 1) none = ([.ss b', .s x, .ss c] : List It).map dI from cut1]
      refine ⟨trivial, trivial, es_ok (its := [.ss b', .s x, .ss c]) hv hr1 (k := j + 12 + d) (by omega) (by simp) (fun i hi => ?_) fun s2 k2 hes => ?_⟩
      · simp only [List.mem_cons, List.not_mem_nil, or_false] at hi
        rcases hi with rfl | rfl | rfl
        · exact ⟨hb, by omega⟩
        · exact trivial
        · exact ⟨hc, by omega⟩
      have kf := keep k2
      have hg2 := kf.get _ _ id hg
      have hr2 := kf.get _ _ id hr1
      unfold b_law_lines_2_1
      walk_at "run"
      first | refine br_at rfl ?_ | refine br_af rfl ?_ | refine ob_at rfl ?_ | refine ob_af rfl ?_
      unfold b_law_lines_5
      walk_at "run"
      first | refine br_at rfl ?_ | refine br_af rfl ?_ | refine ob_at rfl ?_ | refine ob_af rfl ?_
      unfold b_law_lines_7
      walk_at "run"
      first | refine br_at rfl ?_ | refine br_af rfl ?_ | refine ob_at rfl ?_ | refine ob_af rfl ?_
      unfold b_law_lines_8
      walk_at "run"
      refine ⟨mty_ref hg2 rfl, by first | omega | (simp only [KU.w, KC.w, KB.w, KB.sg, List.length_append, List.length_cons, List.length_nil]; omega) | (simp [KU.w, KC.w, KB.w, KB.sg]; omega), by decide, ?_⟩
      rw [PX.x1]
      walk_at "run"
      refine ⟨by first | omega | (simp only [KU.w, KC.w, KB.w, KB.sg, List.length_append, List.length_cons, List.length_nil]; omega) | (simp [KU.w, KC.w, KB.w, KB.sg]; omega), ?_⟩
      refine rc b' _ _ _ (by omega) hb (by omega) (get_old hr2) fun s3 q k3 hq hql => ?_
      refine adds (a := [pad ++ [116, 114, 121]]) (k3.get _ _ id get_new) hq (by rw [lns_len, List.length_singleton]; omega) fun s4 k4 h4 => ?_
      walk_at "run"
      refine ⟨by first | omega | (simp only [KU.w, KC.w, KB.w, KB.sg, List.length_append, List.length_cons, List.length_nil]; omega) | (simp [KU.w, KC.w, KB.w, KB.sg]; omega), ?_⟩
      rw [PX.x2]
      walk_at "run"
      refine ⟨by first | omega | (simp only [KU.w, KC.w, KB.w, KB.sg, List.length_append, List.length_cons, List.length_nil]; omega) | (simp [KU.w, KC.w, KB.w, KB.sg]; omega), by decide, ?_⟩
      refine adds (b := [pad ++ [99, 97, 116, 99, 104, 32] ++ x]) (get_old h4) get_new (by rw [List.length_append, lns_len, List.length_singleton, List.length_singleton]; omega) fun s5 k5 h5 => ?_
      have kA : Kp (fun _ => False) s1 s5 := kf.trans (Kp.push.trans (k3.trans (k4.trans (Kp.push.trans k5))))
      refine ext (kA.get _ _ id hg) h5 (by simp only [List.length_append, lns_len, List.length_singleton]; omega) fun h6 => ?_
      have kB : Kp (fun p => p = s.length) s1 (s5.set s.length (.lst ((G ++ ([pad ++ [116, 114, 121]] ++ lns b' (pad ++ [32, 32]) ++ [pad ++ [99, 97, 116, 99, 104, 32] ++ x])).map .str))) := kA.none.trans (Kp.set rfl)
      generalize s5.set s.length (.lst ((G ++ ([pad ++ [116, 114, 121]] ++ lns b' (pad ++ [32, 32]) ++ [pad ++ [99, 97, 116, 99, 104, 32] ++ x])).map .str)) = s6 at h6 kB ⊢
      unfold b_law_lines_8_1
      walk_at "run"
      refine ⟨mty_ref h6 rfl, ?_⟩
      rw [PX.x3]
      walk_at "run"
      refine ⟨by first | omega | (simp only [KU.w, KC.w, KB.w, KB.sg, List.length_append, List.length_cons, List.length_nil]; omega) | (simp [KU.w, KC.w, KB.w, KB.sg]; omega), ?_⟩
      refine rc c _ _ _ (by omega) hc (by omega) (kB.get _ _ (by omega) hr1) fun s7 q2 k7 hq2 hql2 => ?_
      walk_at "run"
      refine ⟨by first | omega | (simp only [KU.w, KC.w, KB.w, KB.sg, List.length_append, List.length_cons, List.length_nil]; omega) | (simp [KU.w, KC.w, KB.w, KB.sg]; omega), by decide, ?_⟩
      refine adds (b := [pad ++ [101, 110, 100]]) (get_old hq2) get_new (by rw [lns_len, List.length_singleton]; omega) fun s8 k8 h8 => ?_
      have kC : Kp (fun _ => False) s6 s8 := k7.trans (Kp.push.trans k8)
      refine ext_ref (kC.get _ _ id h6) h8 (by simp only [List.length_map, List.length_append, lns_len, List.length_singleton]; omega) ?_
      refine done ?_ ((kB.trans kC.none).trans (Kp.set rfl))
      show _ = _
      rw [get_set (kC.get _ _ id h6), ← List.map_append]
      congr 3
      simp only [ln, List.append_assoc]
    | ite e b' c =>
      obtain ⟨he, hb, hc⟩ : EO vs e ∧ WSs vs b' ∧ WSs vs c := hst
      have hl := he.len hv
      simp only [bd] at hbd
      have gl2 : G.length + 3 + lls b' + lls c ≤ 1003 := by
        cases c with
        | nil => simp only [ll, lls] at gl ⊢; omega
        | cons c0 cs => simp only [ll, lls] at gl ⊢; omega
      have hlst2 : lls b' ≤ 1000 ∧ lls c ≤ 1000 := by
        cases c with
        | nil => simp only [ll, lls] at hlst ⊢; omega
        | cons c0 cs => simp only [ll, lls] at hlst ⊢; omega
      simp only [dS]
      walk_at "run"
      rw [PX.x0]
      walk_at "run"
      rw [show cut [D.str [105, 102], dE e, .tup (dSs b'), .tup (dSs c)] (some 1) none = ([.e e, .ss b', .ss c] : List It).map dI from cut1]
      refine ⟨trivial, trivial, es_ok (its := [.e e, .ss b', .ss c]) hv hr1 (k := j + 12 + d) (by omega) (by simp) (fun i hi => ?_) fun s2 k2 hes => ?_⟩
      · simp only [List.mem_cons, List.not_mem_nil, or_false] at hi
        rcases hi with rfl | rfl | rfl
        · exact he
        · exact ⟨hb, by omega⟩
        · exact ⟨hc, by omega⟩
      have kf := keep k2
      have hg2 := kf.get _ _ id hg
      have hr2 := kf.get _ _ id hr1
      unfold b_law_lines_2_1
      walk_at "run"
      first | refine br_at rfl ?_ | refine br_af rfl ?_ | refine ob_at rfl ?_ | refine ob_af rfl ?_
      unfold b_law_lines_3
      walk_at "run"
      refine ⟨mty_ref hg2 rfl, by first | omega | (simp only [KU.w, KC.w, KB.w, KB.sg, List.length_append, List.length_cons, List.length_nil]; omega) | (simp [KU.w, KC.w, KB.w, KB.sg]; omega), ix_ref hes atI_z ?_⟩
      walk_at "run"
      refine ⟨by first | omega | (simp only [KU.w, KC.w, KB.w, KB.sg, List.length_append, List.length_cons, List.length_nil]; omega) | (simp [KU.w, KC.w, KB.w, KB.sg]; omega), by decide, ?_⟩
      rw [PX.x2]
      walk_at "run"
      refine ⟨by first | omega | (simp only [KU.w, KC.w, KB.w, KB.sg, List.length_append, List.length_cons, List.length_nil]; omega) | (simp [KU.w, KC.w, KB.w, KB.sg]; omega), ?_⟩
      refine rc b' _ _ _ (by omega) hb (by omega) (get_old hr2) fun s3 q k3 hq hql => ?_
      refine adds (a := [pad ++ [105, 102, 32] ++ tx e]) (k3.get _ _ id get_new) hq (by rw [lns_len, List.length_singleton]; omega) fun s5 k5 h5 => ?_
      have kA : Kp (fun _ => False) s1 s5 := kf.trans (Kp.push.trans (k3.trans k5))
      refine ext_ref (kA.get _ _ id hg) h5 (by simp only [List.length_map, List.length_append, lns_len, List.length_singleton]; omega) ?_
      have h6 := get_set (o' := .lst (G.map D.str ++ ([pad ++ [105, 102, 32] ++ tx e] ++ lns b' (pad ++ [32, 32])).map D.str)) (kA.get _ _ id hg)
      have kB : Kp (fun p => p = s.length) s1 (s5.set s.length (.lst (G.map D.str ++ ([pad ++ [105, 102, 32] ++ tx e] ++ lns b' (pad ++ [32, 32])).map D.str))) := kA.none.trans (Kp.set rfl)
      generalize s5.set s.length (.lst (G.map D.str ++ ([pad ++ [105, 102, 32] ++ tx e] ++ lns b' (pad ++ [32, 32])).map D.str)) = s6 at h6 kB ⊢
      rw [← List.map_append] at h6
      unfold b_law_lines_3_1
      walk_at "run"
      rw [PX.x3]
      walk_at "run"
      refine ⟨by decide, ?_⟩
      have hr6 := kB.get _ _ (by omega) hr1
      cases c with
      | nil =>
        rw [show cmpD s6 .NotEq (.tup (dSs [])) (.tup []) = some false from rfl]
        walk_at "run"
        refine ⟨by decide, ?_⟩
        rw [ne_nil hr6]
        walk_at "run"
        unfold b_law_lines_3_2
        walk_at "run"
        have h7 := get_old (r := [Ob.lst []]) h6
        refine ⟨mty_ref h7 rfl, by first | omega | (simp only [KU.w, KC.w, KB.w, KB.sg, List.length_append, List.length_cons, List.length_nil]; omega) | (simp [KU.w, KC.w, KB.w, KB.sg]; omega), app_ref h7 (by simp only [List.length_map, List.length_append, lns_len, List.length_singleton]; omega) (done ?_ ((kB.trans Kp.push).trans (Kp.set rfl)))⟩
        show _ = _
        rw [get_set h7]
        simp only [ln, List.map_append, List.append_assoc]
        rfl
      | cons c0 cs =>
        rw [unit_ne (fun r => res_dSs (c0 :: cs)) (by
          show nobs 39 (dSs (c0 :: cs)) = true
          exact nobs_dS (vs := vs) _ 39 hc (by omega)) (by simp [dSs])]
        walk_at "run"
        unfold b_law_lines_4
        walk_at "run"
        refine ⟨mty_ref h6 rfl, by first | omega | (simp only [KU.w, KC.w, KB.w, KB.sg, List.length_append, List.length_cons, List.length_nil]; omega) | (simp [KU.w, KC.w, KB.w, KB.sg]; omega), by decide, ?_⟩
        rw [PX.x3]
        walk_at "run"
        refine ⟨by first | omega | (simp only [KU.w, KC.w, KB.w, KB.sg, List.length_append, List.length_cons, List.length_nil]; omega) | (simp [KU.w, KC.w, KB.w, KB.sg]; omega), ?_⟩
        refine rc (c0 :: cs) _ _ _ (by omega) hc (by omega) (get_old hr6) fun s7 q2 k7 hq2 hql2 => ?_
        refine adds (a := [pad ++ [101, 108, 115, 101]]) (k7.get _ _ id get_new) hq2 (by rw [lns_len, List.length_singleton]; omega) fun s8 k8 h8 => ?_
        have kC : Kp (fun _ => False) s6 s8 := Kp.push.trans (k7.trans k8)
        refine ext_ref (kC.get _ _ id h6) h8 (by simp only [List.length_map, List.length_append, lns_len, List.length_singleton]; omega) ?_
        have h9 := get_set (o' := .lst ((G ++ ([pad ++ [105, 102, 32] ++ tx e] ++ lns b' (pad ++ [32, 32]))).map D.str ++ ([pad ++ [101, 108, 115, 101]] ++ lns (c0 :: cs) (pad ++ [32, 32])).map D.str)) (kC.get _ _ id h6)
        have kD : Kp (fun p => p = s.length) s1 (s8.set s.length (.lst ((G ++ ([pad ++ [105, 102, 32] ++ tx e] ++ lns b' (pad ++ [32, 32]))).map D.str ++ ([pad ++ [101, 108, 115, 101]] ++ lns (c0 :: cs) (pad ++ [32, 32])).map D.str))) := (kB.trans kC.none).trans (Kp.set rfl)
        generalize s8.set s.length (.lst ((G ++ ([pad ++ [105, 102, 32] ++ tx e] ++ lns b' (pad ++ [32, 32]))).map D.str ++ ([pad ++ [101, 108, 115, 101]] ++ lns (c0 :: cs) (pad ++ [32, 32])).map D.str)) = s9 at h9 kD ⊢
        unfold b_law_lines_3_2
        walk_at "run"
        refine ⟨mty_ref h9 rfl, by first | omega | (simp only [KU.w, KC.w, KB.w, KB.sg, List.length_append, List.length_cons, List.length_nil]; omega) | (simp [KU.w, KC.w, KB.w, KB.sg]; omega), app_ref h9 (by simp only [List.length_map, List.length_append, lns_len, List.length_singleton]; omega) (done ?_ (kD.trans (Kp.set rfl)))⟩
        show _ = _
        rw [get_set h9]
        simp only [ln, lns, List.map_append, List.append_assoc]
        rfl
  · rintro σ s1 ⟨⟨v4, v5, v6, v7, rfl⟩, hg, k1⟩
    rw [dSs_len, List.take_length] at hg
    refine ⟨trivial, ?_⟩
    unfold b_law_lines_1_1
    walk_at "run"
    exact h s1 s.length (k1.mono fun p hp z => by omega) hg (Nat.le_refl _)
end
end K01

namespace K01
open PySem PX Tk Sx
section
variable {j : Nat}
theorem expr_ok {vs : List Nm} (hv : ∀ x ∈ vs, Name x) : ∀ (e : Ex) (p : Nat) (s : Sto) (Q : QE) (E : XQ), dp e ≤ 12 → WE vs e → nd e ≤ 1000 → (∀ s', Kp (fun _ => False) s s' → Q (.str (tp p e)) s') → Lv TT (j + 37) i_expression_text [dE e, .int p] s Q E := fun e p s Q E hd hw hn h => by
  refine lv_in (fn := d_expression_text.fn) rfl rfl ?_
  dsimp only [d_expression_text, b_expression_text_1]
  walk_at "run"
  have e24 := size24
  refine bare_ok hv 12 e s _ _ hd hw hn fun s1 k1 => ?_
  unfold b_expression_text_1_1
  walk_at "run"
  obtain ⟨l, el⟩ := dE_hd e
  have tl := tx_len hv e hw
  have := h s1 k1
  rw [el, PX.x0]
  unfold tp par at this
  refine ⟨(lev_ok (e := e) (Q := fun _ _ => True) trivial).1, (lev_ok ?_).2⟩
  walk_at "run"
  refine br_dec (fun hlt => ?_) (fun hlt => ?_)
  · unfold b_expression_text_2
    walk_at "run"
    rw [decide_eq_true (show e.lv < p by omega), if_pos rfl] at this
    exact ⟨by omega, by first | omega | (simp only [KU.w, KC.w, KB.w, KB.sg, List.length_append, List.length_cons, List.length_nil]; omega) | (simp [KU.w, KC.w, KB.w, KB.sg]; omega), this⟩
  · unfold b_expression_text_1_2
    walk_at "run"
    rw [decide_eq_false (show ¬ e.lv < p by omega), if_neg (by decide)] at this
    exact this
theorem argst_ok {vs : List Nm} (hv : ∀ x ∈ vs, Name x) : ∀ (as : List Ex) (s : Sto) (Q : QE) (E : XQ), dps as ≤ 12 → WEs vs as → nds as ≤ 1000 → (∀ s', Kp (fun _ => False) s s' → Q (.str (joinS [44, 32] (txs as))) s') → Lv TT (j + 38) i_arguments_text [.tup (dEs as)] s Q E := fun as s Q E hd hw hn h => by
  refine lv_in (fn := d_arguments_text.fn) rfl rfl ?_
  dsimp only [d_arguments_text, b_arguments_text_1]
  walk_at "run"
  have hal := nds_len as
  have e24 := size24
  unfold i_arguments_text_1
  refine ⟨trivial, lc_strs (txs as) (by rw [dEs_len, txs_lenE]) (by rw [dEs_len]; omega) (fun _ _ => trivial) (fun i x t s2 Q hx ht k2 hq => ?_) fun s2 k2 hg => ?_⟩
  · obtain ⟨a, ha, rfl, rfl⟩ := dEs_get hx ht
    unfold l_arguments_text_1
    simp only [wipeS]
    walk_at "run"
    refine expr_ok hv a 0 s2 Q _ (dps_le hd a ha) (WEs_all.mp hw a ha) (nds_le hn a ha) fun s3 k3 => ?_
    rw [tp_zero]
    exact hq s3 k3
  · have := txs_len hv as hw
    refine join_ref hg (by simp only [List.length_cons, List.length_nil]; omega) ?_
    exact h s2 (k2.mono fun p hp z => by omega)
def simp_ : St → Bool
  | .whl _ _ => false
  | .try_ _ _ _ => false
  | .ite _ _ _ => false
  | _ => true
set_option maxHeartbeats 0 in
theorem stmt_ok {vs : List Nm} (hv : ∀ x ∈ vs, Name x) (st : St) (hs : simp_ st = true) (hst : WS vs st) (s : Sto) (Q : QE) (E : XQ) (h : ∀ s', Kp (fun _ => False) s s' → Q (.str (sl st)) s') : Lv TT (j + 39) i_statement_text [dS st] s Q E := by
  refine lv_in (fn := d_statement_text.fn) rfl rfl ?_
  dsimp only [d_statement_text, b_statement_text_1]
  have e24 := size24
  have tex : ∀ {e : Ex} (p : Nat) {s1 : Sto} {Q : QE} {E : XQ}, EO vs e → (∀ s', Kp (fun _ => False) s1 s' → Q (.str (tp p e)) s') → Lv TT (j + 38) i_expression_text [dE e, .int p] s1 Q E := fun {e} p {s1 Q E} h1 h3 =>
    Lv_le (k := j + 37) (by omega) (expr_ok hv e p s1 Q E h1.d h1.w (by have := h1.n; omega) h3)
  cases st with
    | rest =>
      simp only [dS]
      walk_at "run"
      rw [PX.x0]
      walk_at "run"
      refine ⟨by decide, ?_⟩
      first | refine br_at rfl ?_ | refine br_af rfl ?_ | refine ob_at rfl ?_ | refine ob_af rfl ?_
      walk_at "run"
      unfold b_statement_text_1_1
      walk_at "run"
      first | refine br_at rfl ?_ | refine br_af rfl ?_ | refine ob_at rfl ?_ | refine ob_af rfl ?_
      unfold b_statement_text_1_2
      walk_at "run"
      first | refine br_at rfl ?_ | refine br_af rfl ?_ | refine ob_at rfl ?_ | refine ob_af rfl ?_
      unfold b_statement_text_1_3
      walk_at "run"
      first | refine br_at rfl ?_ | refine br_af rfl ?_ | refine ob_at rfl ?_ | refine ob_af rfl ?_
      unfold b_statement_text_1_4
      walk_at "run"
      first | refine br_at rfl ?_ | refine br_af rfl ?_ | refine ob_at rfl ?_ | refine ob_af rfl ?_
      unfold b_statement_text_1_5
      walk_at "run"
      first | refine br_at rfl ?_ | refine br_af rfl ?_ | refine ob_at rfl ?_ | refine ob_af rfl ?_
      unfold b_statement_text_1_6
      walk_at "run"
      first | refine br_at rfl ?_ | refine br_af rfl ?_ | refine ob_at rfl ?_ | refine ob_af rfl ?_
      unfold b_statement_text_1_7
      walk_at "run"
      exact h s (Kp.refl _ _)
    | one k e =>
      have he : EO vs e := hst
      have hl := he.len hv
      cases k with
      | ret =>
        simp only [dS]
        walk_at "run"
        rw [PX.x0]
        walk_at "run"
        refine ⟨by decide, ?_⟩
        first | refine br_at rfl ?_ | refine br_af rfl ?_ | refine ob_at rfl ?_ | refine ob_af rfl ?_
        walk_at "run"
        unfold b_statement_text_8
        walk_at "run"
        refine ⟨by decide, ?_⟩
        rw [PX.x1]
        refine tex 0 he fun s1 k1 => ?_
        rw [tp_zero]
        walk_at "run"
        exact ⟨by simp only [K1.w, List.length_append, List.length_cons, List.length_nil]; omega, h s1 k1⟩
      | throw =>
        simp only [dS]
        walk_at "run"
        rw [PX.x0]
        walk_at "run"
        refine ⟨by decide, ?_⟩
        first | refine br_at rfl ?_ | refine br_af rfl ?_ | refine ob_at rfl ?_ | refine ob_af rfl ?_
        walk_at "run"
        unfold b_statement_text_8
        walk_at "run"
        refine ⟨by decide, ?_⟩
        rw [PX.x1]
        refine tex 0 he fun s1 k1 => ?_
        rw [tp_zero]
        walk_at "run"
        exact ⟨by simp only [K1.w, List.length_append, List.length_cons, List.length_nil]; omega, h s1 k1⟩
      | say =>
        simp only [dS]
        walk_at "run"
        rw [PX.x0]
        walk_at "run"
        refine ⟨by decide, ?_⟩
        first | refine br_at rfl ?_ | refine br_af rfl ?_ | refine ob_at rfl ?_ | refine ob_af rfl ?_
        walk_at "run"
        unfold b_statement_text_8
        walk_at "run"
        refine ⟨by decide, ?_⟩
        rw [PX.x1]
        refine tex 0 he fun s1 k1 => ?_
        rw [tp_zero]
        walk_at "run"
        exact ⟨by simp only [K1.w, List.length_append, List.length_cons, List.length_nil]; omega, h s1 k1⟩
      | do_ =>
        simp only [dS]
        walk_at "run"
        rw [PX.x0]
        walk_at "run"
        refine ⟨by decide, ?_⟩
        first | refine br_at rfl ?_ | refine br_af rfl ?_ | refine ob_at rfl ?_ | refine ob_af rfl ?_
        walk_at "run"
        unfold b_statement_text_1_1
        walk_at "run"
        first | refine br_at rfl ?_ | refine br_af rfl ?_ | refine ob_at rfl ?_ | refine ob_af rfl ?_
        unfold b_statement_text_1_2
        walk_at "run"
        first | refine br_at rfl ?_ | refine br_af rfl ?_ | refine ob_at rfl ?_ | refine ob_af rfl ?_
        unfold b_statement_text_1_3
        walk_at "run"
        first | refine br_at rfl ?_ | refine br_af rfl ?_ | refine ob_at rfl ?_ | refine ob_af rfl ?_
        unfold b_statement_text_1_4
        walk_at "run"
        first | refine br_at rfl ?_ | refine br_af rfl ?_ | refine ob_at rfl ?_ | refine ob_af rfl ?_
        unfold b_statement_text_1_5
        walk_at "run"
        first | refine br_at rfl ?_ | refine br_af rfl ?_ | refine ob_at rfl ?_ | refine ob_af rfl ?_
        unfold b_statement_text_1_6
        walk_at "run"
        first | refine br_at rfl ?_ | refine br_af rfl ?_ | refine ob_at rfl ?_ | refine ob_af rfl ?_
        unfold b_statement_text_2
        walk_at "run"
        rw [PX.x1]
        refine tex 0 he fun s1 k1 => ?_
        rw [tp_zero]
        exact h s1 k1
    | set x e =>
      obtain ⟨hx, he⟩ : x ∈ vs ∧ EO vs e := hst
      have hl := he.len hv
      have hxl := (hv x hx).len
      simp only [dS]
      walk_at "run"
      rw [PX.x0]
      walk_at "run"
      refine ⟨by decide, ?_⟩
      first | refine br_at rfl ?_ | refine br_af rfl ?_ | refine ob_at rfl ?_ | refine ob_af rfl ?_
      walk_at "run"
      unfold b_statement_text_1_1
      walk_at "run"
      first | refine br_at rfl ?_ | refine br_af rfl ?_ | refine ob_at rfl ?_ | refine ob_af rfl ?_
      unfold b_statement_text_1_2
      walk_at "run"
      first | refine br_at rfl ?_ | refine br_af rfl ?_ | refine ob_at rfl ?_ | refine ob_af rfl ?_
      unfold b_statement_text_1_3
      walk_at "run"
      first | refine br_at rfl ?_ | refine br_af rfl ?_ | refine ob_at rfl ?_ | refine ob_af rfl ?_
      unfold b_statement_text_5
      walk_at "run"
      rw [PX.x1]
      walk_at "run"
      refine ⟨by first | omega | (simp only [KU.w, KC.w, KB.w, KB.sg, List.length_append, List.length_cons, List.length_nil]; omega) | (simp [KU.w, KC.w, KB.w, KB.sg]; omega), ?_⟩
      rw [PX.x2]
      refine tex 0 he fun s1 k1 => ?_
      rw [tp_zero]
      walk_at "run"
      exact ⟨by first | omega | (simp only [KU.w, KC.w, KB.w, KB.sg, List.length_append, List.length_cons, List.length_nil]; omega) | (simp [KU.w, KC.w, KB.w, KB.sg]; omega), h s1 k1⟩
    | push a b' =>
      obtain ⟨ha, hb⟩ : EO vs a ∧ EO vs b' := hst
      have hla := ha.len hv
      have hlb := hb.len hv
      simp only [dS]
      walk_at "run"
      rw [PX.x0]
      walk_at "run"
      refine ⟨by decide, ?_⟩
      first | refine br_at rfl ?_ | refine br_af rfl ?_ | refine ob_at rfl ?_ | refine ob_af rfl ?_
      walk_at "run"
      unfold b_statement_text_1_1
      walk_at "run"
      first | refine br_at rfl ?_ | refine br_af rfl ?_ | refine ob_at rfl ?_ | refine ob_af rfl ?_
      unfold b_statement_text_1_2
      walk_at "run"
      first | refine br_at rfl ?_ | refine br_af rfl ?_ | refine ob_at rfl ?_ | refine ob_af rfl ?_
      unfold b_statement_text_6
      walk_at "run"
      rw [PX.x1]
      refine tex 0 ha fun s1 k1 => ?_
      rw [tp_zero]
      walk_at "run"
      refine ⟨by first | omega | (simp only [KU.w, KC.w, KB.w, KB.sg, List.length_append, List.length_cons, List.length_nil]; omega) | (simp [KU.w, KC.w, KB.w, KB.sg]; omega), by first | omega | (simp only [KU.w, KC.w, KB.w, KB.sg, List.length_append, List.length_cons, List.length_nil]; omega) | (simp [KU.w, KC.w, KB.w, KB.sg]; omega), ?_⟩
      rw [PX.x2]
      refine tex 0 hb fun s2 k2 => ?_
      rw [tp_zero]
      walk_at "run"
      exact ⟨by first | omega | (simp only [KU.w, KC.w, KB.w, KB.sg, List.length_append, List.length_cons, List.length_nil]; omega) | (simp [KU.w, KC.w, KB.w, KB.sg]; omega), h s2 (k1.trans k2)⟩
    | store a f b' =>
      obtain ⟨ha, hf, hb⟩ : EO vs a ∧ Name f ∧ EO vs b' := hst
      have hla := ha.tpl hv (p := 4)
      have hlb := hb.len hv
      have hfl := hf.len
      simp only [dS]
      walk_at "run"
      rw [PX.x0]
      walk_at "run"
      refine ⟨by decide, ?_⟩
      first | refine br_at rfl ?_ | refine br_af rfl ?_ | refine ob_at rfl ?_ | refine ob_af rfl ?_
      walk_at "run"
      unfold b_statement_text_1_1
      walk_at "run"
      first | refine br_at rfl ?_ | refine br_af rfl ?_ | refine ob_at rfl ?_ | refine ob_af rfl ?_
      unfold b_statement_text_1_2
      walk_at "run"
      first | refine br_at rfl ?_ | refine br_af rfl ?_ | refine ob_at rfl ?_ | refine ob_af rfl ?_
      unfold b_statement_text_1_3
      walk_at "run"
      first | refine br_at rfl ?_ | refine br_af rfl ?_ | refine ob_at rfl ?_ | refine ob_af rfl ?_
      unfold b_statement_text_1_4
      walk_at "run"
      first | refine br_at rfl ?_ | refine br_af rfl ?_ | refine ob_at rfl ?_ | refine ob_af rfl ?_
      unfold b_statement_text_4
      walk_at "run"
      rw [PX.x1]
      refine tex 4 ha fun s1 k1 => ?_
      walk_at "run"
      refine ⟨by first | omega | (simp only [KU.w, KC.w, KB.w, KB.sg, List.length_append, List.length_cons, List.length_nil]; omega) | (simp [KU.w, KC.w, KB.w, KB.sg]; omega), ?_⟩
      rw [PX.x2]
      walk_at "run"
      refine ⟨by first | omega | (simp only [KU.w, KC.w, KB.w, KB.sg, List.length_append, List.length_cons, List.length_nil]; omega) | (simp [KU.w, KC.w, KB.w, KB.sg]; omega), ?_⟩
      unfold b_statement_text_4_1
      walk_at "run"
      refine ⟨by first | omega | (simp only [KU.w, KC.w, KB.w, KB.sg, List.length_append, List.length_cons, List.length_nil]; omega) | (simp [KU.w, KC.w, KB.w, KB.sg]; omega), ?_⟩
      rw [PX.x3]
      refine tex 0 hb fun s2 k2 => ?_
      rw [tp_zero]
      walk_at "run"
      refine ⟨by first | omega | (simp only [KU.w, KC.w, KB.w, KB.sg, List.length_append, List.length_cons, List.length_nil]; omega) | (simp [KU.w, KC.w, KB.w, KB.sg]; omega), ?_⟩
      exact h s2 (k1.trans k2)
    | place a b' c =>
      obtain ⟨ha, hb, hc⟩ : EO vs a ∧ EO vs b' ∧ EO vs c := hst
      have hla := ha.tpl hv (p := 4)
      have hlb := hb.len hv
      have hlc := hc.len hv
      simp only [dS]
      walk_at "run"
      rw [PX.x0]
      walk_at "run"
      refine ⟨by decide, ?_⟩
      first | refine br_at rfl ?_ | refine br_af rfl ?_ | refine ob_at rfl ?_ | refine ob_af rfl ?_
      walk_at "run"
      unfold b_statement_text_1_1
      walk_at "run"
      first | refine br_at rfl ?_ | refine br_af rfl ?_ | refine ob_at rfl ?_ | refine ob_af rfl ?_
      unfold b_statement_text_1_2
      walk_at "run"
      first | refine br_at rfl ?_ | refine br_af rfl ?_ | refine ob_at rfl ?_ | refine ob_af rfl ?_
      unfold b_statement_text_1_3
      walk_at "run"
      first | refine br_at rfl ?_ | refine br_af rfl ?_ | refine ob_at rfl ?_ | refine ob_af rfl ?_
      unfold b_statement_text_1_4
      walk_at "run"
      first | refine br_at rfl ?_ | refine br_af rfl ?_ | refine ob_at rfl ?_ | refine ob_af rfl ?_
      unfold b_statement_text_1_5
      walk_at "run"
      first | refine br_at rfl ?_ | refine br_af rfl ?_ | refine ob_at rfl ?_ | refine ob_af rfl ?_
      unfold b_statement_text_3
      walk_at "run"
      rw [PX.x1]
      refine tex 4 ha fun s1 k1 => ?_
      walk_at "run"
      refine ⟨by first | omega | (simp only [KU.w, KC.w, KB.w, KB.sg, List.length_append, List.length_cons, List.length_nil]; omega) | (simp [KU.w, KC.w, KB.w, KB.sg]; omega), ?_⟩
      rw [PX.x2]
      refine tex 0 hb fun s2 k2 => ?_
      rw [tp_zero]
      walk_at "run"
      refine ⟨by first | omega | (simp only [KU.w, KC.w, KB.w, KB.sg, List.length_append, List.length_cons, List.length_nil]; omega) | (simp [KU.w, KC.w, KB.w, KB.sg]; omega), by first | omega | (simp only [KU.w, KC.w, KB.w, KB.sg, List.length_append, List.length_cons, List.length_nil]; omega) | (simp [KU.w, KC.w, KB.w, KB.sg]; omega), ?_⟩
      unfold b_statement_text_3_1
      walk_at "run"
      refine ⟨by first | omega | (simp only [KU.w, KC.w, KB.w, KB.sg, List.length_append, List.length_cons, List.length_nil]; omega) | (simp [KU.w, KC.w, KB.w, KB.sg]; omega), ?_⟩
      rw [PX.x3]
      refine tex 0 hc fun s3 k3 => ?_
      rw [tp_zero]
      walk_at "run"
      refine ⟨by first | omega | (simp only [KU.w, KC.w, KB.w, KB.sg, List.length_append, List.length_cons, List.length_nil]; omega) | (simp [KU.w, KC.w, KB.w, KB.sg]; omega), ?_⟩
      have := h s3 ((k1.trans k2).trans k3)
      simp only [sl, List.append_assoc, List.cons_append, List.nil_append] at this ⊢
      exact this
    | go f as =>
      obtain ⟨hf, hal, ha⟩ : Name f ∧ as.length ≤ 3 ∧ ∀ a ∈ as, EO vs a := hst
      have hfl := hf.len
      obtain ⟨wa, da, na⟩ := EO.args hv ha
      have tl := txs_len hv as wa
      have jl : (joinS [44, 32] (txs as)).length ≤ 24 * nds as := join_len (by simp only [List.length_cons, List.length_nil]; omega)
      simp only [dS]
      walk_at "run"
      rw [PX.x0]
      walk_at "run"
      refine ⟨by decide, ?_⟩
      first | refine br_at rfl ?_ | refine br_af rfl ?_ | refine ob_at rfl ?_ | refine ob_af rfl ?_
      walk_at "run"
      unfold b_statement_text_1_1
      walk_at "run"
      first | refine br_at rfl ?_ | refine br_af rfl ?_ | refine ob_at rfl ?_ | refine ob_af rfl ?_
      unfold b_statement_text_7
      walk_at "run"
      rw [PX.x1]
      walk_at "run"
      refine ⟨by first | omega | (simp only [KU.w, KC.w, KB.w, KB.sg, List.length_append, List.length_cons, List.length_nil]; omega) | (simp [KU.w, KC.w, KB.w, KB.sg]; omega), by first | omega | (simp only [KU.w, KC.w, KB.w, KB.sg, List.length_append, List.length_cons, List.length_nil]; omega) | (simp [KU.w, KC.w, KB.w, KB.sg]; omega), ?_⟩
      rw [PX.x2]
      refine argst_ok hv as s _ _ da wa (by omega) fun s1 k1 => ?_
      walk_at "run"
      exact ⟨by first | omega | (simp only [KU.w, KC.w, KB.w, KB.sg, List.length_append, List.length_cons, List.length_nil]; omega) | (simp [KU.w, KC.w, KB.w, KB.sg]; omega), by first | omega | (simp only [KU.w, KC.w, KB.w, KB.sg, List.length_append, List.length_cons, List.length_nil]; omega) | (simp [KU.w, KC.w, KB.w, KB.sg]; omega), h s1 k1⟩
    | whl _ _ => cases hs
    | try_ _ _ _ => cases hs
    | ite _ _ _ => cases hs
end
end K01

namespace K01
open PySem PX Tk Sx
section
variable {j : Nat}
theorem ln_simp {st : St} (h : simp_ st = true) (pad : List Nat) : ln st pad = [pad ++ sl st] := by
  cases st with
  | whl _ _ => cases h
  | try_ _ _ _ => cases h
  | ite _ _ _ => cases h
  | _ => rfl
theorem dS_hd (st : St) : ∃ w l, dS st = .tup (.str w :: l) := by
  cases st <;> exact ⟨_, _, rfl⟩
set_option maxHeartbeats 0 in
theorem block_ok {vs : List Nm} (hv : ∀ x ∈ vs, Name x) : ∀ (d : Nat) (b : List St) (pad : List Nat) (s : Sto) (Q : QE) (E : XQ), bds b ≤ d → d ≤ 6 → WSs vs b → lls b ≤ 1000 → pad.length + 2 * d ≤ 100 →
    (∀ s' q, Kp (fun _ => False) s s' → TL s' q (lns b pad) → s.length ≤ q → Q (.ref q) s') → Lv TT (j + 39 + d + 1) i_block_lines [.tup (dSs b), .str pad] s Q E := by
  intro d
  induction d using Nat.strongRecOn with
  | ind d ih =>
  intro b pad s Q E hd hd6 hw hll hpad h
  refine lv_in (fn := d_block_lines.fn) rfl rfl ?_
  dsimp only [d_block_lines, b_block_lines_1]
  walk_at "run"
  have e24 := size24
  have rc : ∀ (b' : List St) (s1 : Sto) (Q : QE) (E : XQ) , bds b' + 1 ≤ d → WSs vs b' → lls b' ≤ 1000 → (∀ s' q, Kp (fun _ => False) s1 s' → TL s' q (lns b' (pad ++ [32, 32])) → s1.length ≤ q → Q (.ref q) s') → Lv TT (j + 39 + d) i_block_lines [.tup (dSs b'), .str (pad ++ [32, 32])] s1 Q E := fun b' s1 Q E h1 h2 h3 h5 => by
    refine Lv_le (k := j + 39 + (d - 1) + 1) (by omega) (ih (d - 1) (by omega) b' _ s1 Q E (by omega) (by omega) h2 h3 (by simp only [List.length_append, List.length_cons, List.length_nil]; omega) h5)
  have tex : ∀ {e : Ex} {s1 : Sto} {Q : QE} {E : XQ}, EO vs e → (∀ s', Kp (fun _ => False) s1 s' → Q (.str (tx e)) s') → Lv TT (j + 39 + d) i_expression_text [dE e, .int 0] s1 Q E := fun {e s1 Q E} h1 h3 =>
    Lv_le (k := j + 37) (by omega) (expr_ok hv e 0 s1 Q E h1.d h1.w (by have := h1.n; omega) fun s' k => by rw [tp_zero]; exact h3 s' k)
  refine ⟨by decide, ?_⟩
  refine for_at (I := fun i σ s' => (∃ v3 v4, σ = [some (.tup (dSs b)), some (.str pad), some (.ref s.length), v3, v4]) ∧ TL s' s.length (lns (b.take i) pad) ∧ Kp (fun p => p = s.length) s s') ⟨⟨_, _, rfl⟩, get_new, Kp.push⟩ ?_ ?_
  · rintro i it σ s1 N' hit ⟨⟨v3, v4, rfl⟩, hg, k1⟩ hN
    rw [dSs_map, List.getElem?_map] at hit
    cases ebi : b[i]? with
    | none => rw [ebi] at hit; cases hit
    | some st =>
    rw [ebi] at hit
    cases hit
    have hmem := List.mem_of_getElem? ebi
    have hst := WSs_all.mp hw st hmem
    have hbd := bds_le hd st hmem
    have hlst := lls_le hll st hmem
    have take : lns (b.take (i + 1)) pad = lns (b.take i) pad ++ ln st pad := by
      rw [List.take_add_one, ebi, lns_app]
      simp [lns]
    have gl : (lns (b.take i) pad).length + ll st ≤ 1000 := by
      have : lls b = lls (b.take (i + 1)) + lls (b.drop (i + 1)) := by rw [← lls_app, List.take_append_drop]
      have h2 : lls (b.take (i + 1)) = lls (b.take i) + ll st := by rw [← lns_len _ pad, take, List.length_append, lns_len, ln_len]
      rw [lns_len]
      omega
    have lp := ll_pos st
    refine ⟨trivial, ?_⟩
    unfold b_block_lines_2
    walk_at "run"
    have hgl := lt_of_get hg
    generalize hG : lns (b.take i) pad = G at hg gl take
    have done : ∀ {s2 : Sto} {v4 : Option D}, TL s2 s.length (G ++ ln st pad) → Kp (fun p => p = s.length) s1 s2 → N'.nx [some (.tup (dSs b)), some (.str pad), some (.ref s.length), some (dS st), v4] s2 := fun {s2 v4} h1 k2 => hN.nx _ _ ⟨⟨_, _, rfl⟩, by rw [take]; exact h1, k1.trans k2⟩
    -- a line, some lines
    have app : ∀ {s2 : Sto} {t : List Nat} {L : List (List Nat)} {Q : QE}, TL s2 s.length L → L.length < 2000 → Kp (fun p => p = s.length) s1 s2 → (∀ s3, TL s3 s.length (L ++ [t]) → Kp (fun p => p = s.length) s1 s3 → Q .non s3) → xMeth .append (.ref s.length) [.str t] s2 Q := fun {s2 t L Q} h1 h2 k2 hQ => by
      refine app_ref h1 (by rw [List.length_map]; omega) (hQ _ ?_ (k2.trans (Kp.set rfl)))
      show _ = _
      rw [get_set h1, List.map_append]
      rfl
    have ext : ∀ {s2 s2' : Sto} {q : Nat} {L l : List (List Nat)} {Q : QE}, TL s2 s.length L → TL s2' q l → L.length + l.length < 2000 → Kp (fun p => p = s.length) s1 s2 → Kp (fun _ => False) s2 s2' → (∀ s3, TL s3 s.length (L ++ l) → Kp (fun p => p = s.length) s1 s3 → Q .non s3) → xMeth .extend (.ref s.length) [.ref q] s2' Q := fun {s2 s2' q L l Q} h1 h2 h3 k2 k3 hQ => by
      have h1' := k3.get _ _ id h1
      refine ext_ref h1' h2 (by simp only [List.length_map]; omega) (hQ _ ?_ ((k2.trans k3.none).trans (Kp.set rfl)))
      show _ = _
      rw [get_set h1', List.map_append]
    cases hsi : simp_ st with
    | true =>
      have hsm := stmt_ok (j := j) hv st hsi hst
      have hln := ln_simp hsi pad
      have hsl := sl_len hv hst
      cases st with
      | whl _ _ => cases hsi
      | try_ _ _ _ => cases hsi
      | ite _ _ _ => cases hsi
      | one k e =>
        cases k <;> (
          simp only [dS]
          rw [PX.x0]
          walk_at "run"
          refine ⟨by decide, ?_⟩
          first | refine br_at rfl ?_ | refine br_af rfl ?_ | refine ob_at rfl ?_ | refine ob_af rfl ?_
          walk_at "run"
          unfold b_block_lines_5
          walk_at "run"
          first | refine br_at rfl ?_ | refine br_af rfl ?_ | refine ob_at rfl ?_ | refine ob_af rfl ?_
          unfold b_block_lines_7
          walk_at "run"
          refine ⟨mty_ref hg rfl, ?_⟩
          refine Lv_le (k := j + 39) (by omega) (hsm s1 _ _ fun s2 k2 => ?_)
          walk_at "run"
          refine ⟨by omega, app (k2.get _ _ id hg) (by omega) k2.none fun s3 h3 k3 => done (by rw [hln]; exact h3) k3⟩)
      | _ =>
        simp only [dS]
        rw [PX.x0]
        walk_at "run"
        refine ⟨by decide, ?_⟩
        first | refine br_at rfl ?_ | refine br_af rfl ?_ | refine ob_at rfl ?_ | refine ob_af rfl ?_
        walk_at "run"
        unfold b_block_lines_5
        walk_at "run"
        first | refine br_at rfl ?_ | refine br_af rfl ?_ | refine ob_at rfl ?_ | refine ob_af rfl ?_
        unfold b_block_lines_7
        walk_at "run"
        refine ⟨mty_ref hg rfl, ?_⟩
        refine Lv_le (k := j + 39) (by omega) (hsm s1 _ _ fun s2 k2 => ?_)
        walk_at "run"
        refine ⟨by omega, app (k2.get _ _ id hg) (by omega) k2.none fun s3 h3 k3 => done (by rw [hln]; exact h3) k3⟩
    | false =>
    cases st with
    | whl e b' =>
      obtain ⟨he, hb⟩ : EO vs e ∧ WSs vs b' := hst
      have hl := he.len hv
      simp only [bd] at hbd
      simp only [ll] at hlst gl
      simp only [dS]
      rw [PX.x0]
      walk_at "run"
      refine ⟨by decide, ?_⟩
      first | refine br_at rfl ?_ | refine br_af rfl ?_ | refine ob_at rfl ?_ | refine ob_af rfl ?_
      walk_at "run"
      unfold b_block_lines_3
      walk_at "run"
      refine ⟨mty_ref hg rfl, by first | omega | (simp only [KU.w, KC.w, KB.w, KB.sg, List.length_append, List.length_cons, List.length_nil]; omega) | (simp [KU.w, KC.w, KB.w, KB.sg]; omega), by first | omega | (simp only [KU.w, KC.w, KB.w, KB.sg, List.length_append, List.length_cons, List.length_nil]; omega) | (simp [KU.w, KC.w, KB.w, KB.sg]; omega), ?_⟩
      rw [PX.x1]
      refine tex he fun s2 k2 => ?_
      walk_at "run"
      refine ⟨by first | omega | (simp only [KU.w, KC.w, KB.w, KB.sg, List.length_append, List.length_cons, List.length_nil]; omega) | (simp [KU.w, KC.w, KB.w, KB.sg]; omega), app (k2.get _ _ id hg) (by omega) k2.none fun s3 h3 k3 => ?_⟩
      unfold b_block_lines_3_1 c_INDENT
      walk_at "run"
      refine ⟨mty_ref h3 rfl, ?_⟩
      rw [PX.x2]
      walk_at "run"
      refine ⟨by first | omega | (simp only [KU.w, KC.w, KB.w, KB.sg, List.length_append, List.length_cons, List.length_nil]; omega) | (simp [KU.w, KC.w, KB.w, KB.sg]; omega), rc b' _ _ _ (by omega) hb (by omega) fun s4 q k4 hq hql => ?_⟩
      refine ext h3 hq (by simp only [List.length_append, lns_len, List.length_singleton]; omega) k3 k4 fun s5 h5 k5 => ?_
      unfold b_block_lines_3_2
      walk_at "run"
      first | refine br_at rfl ?_ | refine br_af rfl ?_ | refine ob_at rfl ?_ | refine ob_af rfl ?_
      walk_at "run"
      unfold b_block_lines_3_3
      walk_at "run"
      refine ⟨mty_ref h5 rfl, by first | omega | (simp only [KU.w, KC.w, KB.w, KB.sg, List.length_append, List.length_cons, List.length_nil]; omega) | (simp [KU.w, KC.w, KB.w, KB.sg]; omega), app h5 (by simp only [List.length_append, lns_len, List.length_singleton]; omega) k5 fun s6 h6 k6 => done ?_ k6⟩
      have e : G ++ ln (.whl e b') pad = G ++ [pad ++ [119, 104, 105, 108, 101] ++ [32] ++ tx e] ++ lns b' (pad ++ [32, 32]) ++ [pad ++ [101, 110, 100]] := by simp [ln]
      rw [e]
      exact h6
    | try_ b' x c =>
      obtain ⟨hb, hx, hc⟩ : WSs vs b' ∧ x ∈ vs ∧ WSs vs c := hst
      have hxl := (hv x hx).len
      simp only [bd] at hbd
      simp only [ll] at hlst gl
      simp only [dS]
      rw [PX.x0]
      walk_at "run"
      refine ⟨by decide, ?_⟩
      first | refine br_at rfl ?_ | refine br_af rfl ?_ | refine ob_at rfl ?_ | refine ob_af rfl ?_
      walk_at "run"
      unfold b_block_lines_5
      walk_at "run"
      first | refine br_at rfl ?_ | refine br_af rfl ?_ | refine ob_at rfl ?_ | refine ob_af rfl ?_
      unfold b_block_lines_6
      walk_at "run"
      refine ⟨mty_ref hg rfl, by first | omega | (simp only [KU.w, KC.w, KB.w, KB.sg, List.length_append, List.length_cons, List.length_nil]; omega) | (simp [KU.w, KC.w, KB.w, KB.sg]; omega), app hg (by omega) (Kp.refl _ _) fun s3 h3 k3 => ?_⟩
      unfold c_INDENT
      walk_at "run"
      refine ⟨mty_ref h3 rfl, ?_⟩
      rw [PX.x1]
      walk_at "run"
      refine ⟨by first | omega | (simp only [KU.w, KC.w, KB.w, KB.sg, List.length_append, List.length_cons, List.length_nil]; omega) | (simp [KU.w, KC.w, KB.w, KB.sg]; omega), rc b' _ _ _ (by omega) hb (by omega) fun s4 q k4 hq hql => ?_⟩
      refine ext h3 hq (by simp only [List.length_append, lns_len, List.length_singleton]; omega) k3 k4 fun s5 h5 k5 => ?_
      unfold b_block_lines_6_1
      walk_at "run"
      refine ⟨mty_ref h5 rfl, by first | omega | (simp only [KU.w, KC.w, KB.w, KB.sg, List.length_append, List.length_cons, List.length_nil]; omega) | (simp [KU.w, KC.w, KB.w, KB.sg]; omega), ?_⟩
      rw [PX.x2]
      walk_at "run"
      refine ⟨by first | omega | (simp only [KU.w, KC.w, KB.w, KB.sg, List.length_append, List.length_cons, List.length_nil]; omega) | (simp [KU.w, KC.w, KB.w, KB.sg]; omega), app h5 (by simp only [List.length_append, lns_len, List.length_singleton]; omega) k5 fun s6 h6 k6 => ?_⟩
      unfold c_INDENT
      walk_at "run"
      refine ⟨mty_ref h6 rfl, ?_⟩
      rw [PX.x3]
      walk_at "run"
      refine ⟨by first | omega | (simp only [KU.w, KC.w, KB.w, KB.sg, List.length_append, List.length_cons, List.length_nil]; omega) | (simp [KU.w, KC.w, KB.w, KB.sg]; omega), rc c _ _ _ (by omega) hc (by omega) fun s7 q7 k7 hq7 hql7 => ?_⟩
      refine ext h6 hq7 (by simp only [List.length_append, lns_len, List.length_singleton]; omega) k6 k7 fun s8 h8 k8 => ?_
      unfold b_block_lines_6_2
      walk_at "run"
      refine ⟨mty_ref h8 rfl, by first | omega | (simp only [KU.w, KC.w, KB.w, KB.sg, List.length_append, List.length_cons, List.length_nil]; omega) | (simp [KU.w, KC.w, KB.w, KB.sg]; omega), app h8 (by simp only [List.length_append, lns_len, List.length_singleton]; omega) k8 fun s9 h9 k9 => done ?_ k9⟩
      have e : G ++ ln (.try_ b' x c) pad = G ++ [pad ++ [116, 114, 121]] ++ lns b' (pad ++ [32, 32]) ++ [pad ++ [99, 97, 116, 99, 104, 32] ++ x] ++ lns c (pad ++ [32, 32]) ++ [pad ++ [101, 110, 100]] := by simp [ln]
      rw [e]
      exact h9
    | ite e b' c =>
      obtain ⟨he, hb, hc⟩ : EO vs e ∧ WSs vs b' ∧ WSs vs c := hst
      have hl := he.len hv
      simp only [bd] at hbd
      have gl2 : G.length + 3 + lls b' + lls c ≤ 1003 := by
        cases c with
        | nil => simp only [ll, lls] at gl ⊢; omega
        | cons c0 cs => simp only [ll, lls] at gl ⊢; omega
      have hlst2 : lls b' ≤ 1000 ∧ lls c ≤ 1000 := by
        cases c with
        | nil => simp only [ll, lls] at hlst ⊢; omega
        | cons c0 cs => simp only [ll, lls] at hlst ⊢; omega
      simp only [dS]
      rw [PX.x0]
      walk_at "run"
      refine ⟨by decide, ?_⟩
      first | refine br_at rfl ?_ | refine br_af rfl ?_ | refine ob_at rfl ?_ | refine ob_af rfl ?_
      walk_at "run"
      unfold b_block_lines_3
      walk_at "run"
      refine ⟨mty_ref hg rfl, by first | omega | (simp only [KU.w, KC.w, KB.w, KB.sg, List.length_append, List.length_cons, List.length_nil]; omega) | (simp [KU.w, KC.w, KB.w, KB.sg]; omega), by first | omega | (simp only [KU.w, KC.w, KB.w, KB.sg, List.length_append, List.length_cons, List.length_nil]; omega) | (simp [KU.w, KC.w, KB.w, KB.sg]; omega), ?_⟩
      rw [PX.x1]
      refine tex he fun s2 k2 => ?_
      walk_at "run"
      refine ⟨by first | omega | (simp only [KU.w, KC.w, KB.w, KB.sg, List.length_append, List.length_cons, List.length_nil]; omega) | (simp [KU.w, KC.w, KB.w, KB.sg]; omega), app (k2.get _ _ id hg) (by omega) k2.none fun s3 h3 k3 => ?_⟩
      unfold b_block_lines_3_1 c_INDENT
      walk_at "run"
      refine ⟨mty_ref h3 rfl, ?_⟩
      rw [PX.x2]
      walk_at "run"
      refine ⟨by first | omega | (simp only [KU.w, KC.w, KB.w, KB.sg, List.length_append, List.length_cons, List.length_nil]; omega) | (simp [KU.w, KC.w, KB.w, KB.sg]; omega), rc b' _ _ _ (by omega) hb (by omega) fun s4 q k4 hq hql => ?_⟩
      refine ext h3 hq (by simp only [List.length_append, lns_len, List.length_singleton]; omega) k3 k4 fun s5 h5 k5 => ?_
      unfold b_block_lines_3_2
      walk_at "run"
      first | refine br_at rfl ?_ | refine br_af rfl ?_ | refine ob_at rfl ?_ | refine ob_af rfl ?_
      walk_at "run"
      rw [PX.x3]
      walk_at "run"
      refine ⟨by decide, ?_⟩
      cases c with
      | nil =>
        rw [show cmpD s5 .NotEq (.tup (dSs [])) (.tup []) = some false from rfl]
        walk_at "run"
        unfold b_block_lines_3_3
        walk_at "run"
        refine ⟨mty_ref h5 rfl, by first | omega | (simp only [KU.w, KC.w, KB.w, KB.sg, List.length_append, List.length_cons, List.length_nil]; omega) | (simp [KU.w, KC.w, KB.w, KB.sg]; omega), app h5 (by simp only [List.length_append, lns_len, List.length_singleton]; omega) k5 fun s6 h6 k6 => done ?_ k6⟩
        have e : G ++ ln (.ite e b' []) pad = G ++ [pad ++ [105, 102] ++ [32] ++ tx e] ++ lns b' (pad ++ [32, 32]) ++ [pad ++ [101, 110, 100]] := by simp [ln]
        rw [e]
        exact h6
      | cons c0 cs =>
        rw [unit_ne (fun r => res_dSs (c0 :: cs)) (by
          show nobs 39 (dSs (c0 :: cs)) = true
          exact nobs_dS (vs := vs) _ 39 hc (by omega)) (by simp [dSs])]
        walk_at "run"
        unfold b_block_lines_4
        walk_at "run"
        refine ⟨mty_ref h5 rfl, by first | omega | (simp only [KU.w, KC.w, KB.w, KB.sg, List.length_append, List.length_cons, List.length_nil]; omega) | (simp [KU.w, KC.w, KB.w, KB.sg]; omega), app h5 (by simp only [List.length_append, lns_len, List.length_singleton]; omega) k5 fun s6 h6 k6 => ?_⟩
        unfold c_INDENT
        walk_at "run"
        refine ⟨mty_ref h6 rfl, ?_⟩
        rw [PX.x3]
        walk_at "run"
        refine ⟨by first | omega | (simp only [KU.w, KC.w, KB.w, KB.sg, List.length_append, List.length_cons, List.length_nil]; omega) | (simp [KU.w, KC.w, KB.w, KB.sg]; omega), rc (c0 :: cs) _ _ _ (by omega) hc (by omega) fun s7 q7 k7 hq7 hql7 => ?_⟩
        refine ext h6 hq7 (by simp only [List.length_append, lns_len, List.length_singleton]; omega) k6 k7 fun s8 h8 k8 => ?_
        unfold b_block_lines_3_3
        walk_at "run"
        refine ⟨mty_ref h8 rfl, by first | omega | (simp only [KU.w, KC.w, KB.w, KB.sg, List.length_append, List.length_cons, List.length_nil]; omega) | (simp [KU.w, KC.w, KB.w, KB.sg]; omega), app h8 (by simp only [List.length_append, lns_len, List.length_singleton]; omega) k8 fun s9 h9 k9 => done ?_ k9⟩
        have e : G ++ ln (.ite e b' (c0 :: cs)) pad = G ++ [pad ++ [105, 102] ++ [32] ++ tx e] ++ lns b' (pad ++ [32, 32]) ++ [pad ++ [101, 108, 115, 101]] ++ lns (c0 :: cs) (pad ++ [32, 32]) ++ [pad ++ [101, 110, 100]] := by simp [ln, lns]
        rw [e]
        exact h9
    | _ => cases hsi
  · rintro σ s1 ⟨⟨v3, v4, rfl⟩, hg, k1⟩
    rw [dSs_len, List.take_length] at hg
    refine ⟨trivial, ?_⟩
    unfold b_block_lines_1_1
    walk_at "run"
    exact h s1 s.length (k1.mono fun p hp z => by omega) hg (Nat.le_refl _)
end
end K01

namespace K01
open PySem PX Tk Sx
section
variable {j : Nat}
theorem join_tup {s : Sto} {l : List (List Nat)} {sep : List Nat} {Q : QE} (hl : (l.map List.length).sum + l.length * sep.length ≤ 16777216) (h : Q (.str (joinS sep l)) s) : xMeth .join (.str sep) [.tup (l.map .str)] s Q := by
  have e : ∀ l : List (List Nat), strsOf (l.map .str) = some l := fun l => by
    induction l with
    | nil => rfl
    | cons a r ih => simp only [List.map_cons, strsOf, ih]; rfl
  simp only [xMeth, seqOf, e]
  exact ⟨hl, h⟩
theorem heading_ok {f : Fu} (w : WF f) {s : Sto} {Q : QE} (h : Q (.str (joinS [32] ([[102, 117, 110], f.name] ++ f.ps))) s) : xMeth .join (.str [32]) [.tup ([.str [102, 117, 110], .str f.name] ++ f.ps.map .str)] s Q := by
  refine join_tup (l := [[102, 117, 110], f.name] ++ f.ps) ?_ h
  have := w.heading.1
  have := w.ps.1
  simp only [List.length_append, List.length_cons, List.length_nil] at this ⊢
  omega
/-- the law's lines of one function -/
theorem ltext_ok {f : Fu} (w : WF f) {r : Nat} {s : Sto} {Q : QE} {E : XQ} (hr : s[r]? = some (.lst [])) (h : ∀ s' q, Kp (fun _ => False) s s' → TL s' q (tF f) → Q (.ref q) s') : Lv TT (j + 12 + 6 + 2) i_law_text [.tup [dF f], .ref r] s Q E := by
  obtain ⟨vs, hv, hw⟩ := w.vs
  refine lv_in (fn := d_law_text.fn) rfl rfl ?_
  dsimp only [d_law_text, b_law_text_1]
  walk_at "run"
  have e24 := size24
  have hps := w.ps.1
  have hll := w.ll
  refine ⟨by decide, ?_⟩
  refine for_at (I := fun i σ s' => (∃ v3, σ = [some (.tup [dF f]), some (.ref r), some (.ref s.length), v3]) ∧ TL s' s.length (if i = 0 then [] else tF f) ∧ Kp (fun p => p = s.length) s s') ⟨⟨_, rfl⟩, get_new, Kp.push⟩ ?_ ?_
  · rintro i it σ s1 N' hit ⟨⟨v3, rfl⟩, hg, k1⟩ hN
    have hi : i = 0 := by
      have := (List.getElem?_eq_some_iff.mp hit).1
      simp only [List.length_cons, List.length_nil] at this
      omega
    subst hi
    cases hit
    rw [if_pos rfl] at hg
    have hgl := lt_of_get hg
    have hrl := lt_of_get hr
    refine ⟨trivial, ?_⟩
    unfold b_law_text_2 dF
    walk_at "run"
    refine ⟨mty_ref hg rfl, trivial, ?_⟩
    rw [PX.x1]
    walk_at "run"
    refine ⟨by decide, ?_⟩
    rw [PX.x2]
    walk_at "run"
    refine ⟨by simp only [List.length_cons, List.length_nil, List.length_map]; omega, ?_⟩
    refine heading_ok w ?_
    refine ⟨by decide, ?_⟩
    rw [PX.x3]
    refine llines_ok hv 6 f.body [32, 32] r _ _ _ w.bd (by omega) hw (by omega) (by decide) (get_old (k1.get _ _ (by omega) hr)) fun s3 q k3 hq hql => ?_
    refine adds (a := [joinS [32] ([[102, 117, 110], f.name] ++ f.ps)]) (k3.get _ _ id get_new) hq (by rw [lns_len, List.length_singleton]; omega) fun s4 k4 h4 => ?_
    refine ⟨by decide, ?_⟩
    refine adds (b := [[101, 110, 100]]) (get_old h4) get_new (by rw [List.length_append, lns_len, List.length_singleton, List.length_singleton]; omega) fun s5 k5 h5 => ?_
    have kA : Kp (fun _ => False) s1 s5 := Kp.push.trans (k3.trans (k4.trans (Kp.push.trans k5)))
    have hg5 := kA.get _ _ id hg
    refine ext_ref hg5 h5 (by simp only [List.length_map, List.length_append, lns_len, List.length_singleton, List.length_nil]; omega) ?_
    refine hN.nx _ _ ⟨⟨_, rfl⟩, ?_, (k1.trans kA.none).trans (Kp.set rfl)⟩
    rw [if_neg (by decide)]
    exact get_set hg5
  · rintro σ s1 ⟨⟨v3, rfl⟩, hg, k1⟩
    refine ⟨trivial, ?_⟩
    unfold b_law_text_1_1
    walk_at "run"
    exact h s1 s.length (k1.mono fun p hp z => by omega) hg
theorem showf_ok {f : Fu} (w : WF f) {s : Sto} {Q : QE} {E : XQ} (h : ∀ s', Kp (fun _ => False) s s' → Q (.str (tFn f)) s') : Lv TT (j + 39 + 6 + 2) i_show_function [dF f] s Q E := by
  obtain ⟨vs, hv, hw⟩ := w.vs
  refine lv_in (fn := d_show_function.fn) rfl rfl ?_
  dsimp only [d_show_function, b_show_function_1]
  have e24 := size24
  have hps := w.ps.1
  have hll := w.ll
  unfold dF
  walk_at "run"
  refine ⟨trivial, ?_⟩
  rw [PX.x1]
  walk_at "run"
  refine ⟨by decide, ?_⟩
  rw [PX.x2]
  walk_at "run"
  refine ⟨by simp only [List.length_cons, List.length_nil, List.length_map]; omega, ?_⟩
  refine heading_ok w ?_
  refine ⟨by decide, ?_⟩
  rw [PX.x3]
  refine block_ok hv 6 f.body [32, 32] _ _ _ w.bd (by omega) hw (by omega) (by decide) fun s3 q k3 hq hql => ?_
  refine adds (a := [joinS [32] ([[102, 117, 110], f.name] ++ f.ps)]) (k3.get _ _ id get_new) hq (by rw [lns_len, List.length_singleton]; omega) fun s4 k4 h4 => ?_
  refine ⟨by decide, ?_⟩
  refine adds (b := [[101, 110, 100]]) (get_old h4) get_new (by rw [List.length_append, lns_len, List.length_singleton, List.length_singleton]; omega) fun s5 k5 h5 => ?_
  have kA : Kp (fun _ => False) s s5 := Kp.push.trans (k3.trans (k4.trans (Kp.push.trans k5)))
  unfold b_show_function_1_1
  walk_at "run"
  have hsum := w.sum
  have hlen := w.len
  unfold tFn at hlen
  rw [List.length_append, List.length_singleton] at hlen
  refine ⟨trivial, join_ref (l := tF f) h5 (by simp only [List.length_singleton]; omega) ?_⟩
  walk_at "run"
  refine ⟨by omega, h s5 kA⟩
theorem show_ok {fs : List Fu} (hl : fs.length ≤ 12) (w : ∀ f ∈ fs, WF f) {s : Sto} {Q : QE} {E : XQ} (h : ∀ s', Kp (fun _ => False) s s' → Q (.str (joinS [] (fs.map tFn))) s') : Lv TT (j + 39 + 6 + 3) i_show [.tup (fs.map dF)] s Q E := by
  refine lv_in (fn := d_show.fn) rfl rfl ?_
  dsimp only [d_show, b_show_1]
  have e24 := size24
  unfold i_show_1
  walk_at "run"
  refine ⟨trivial, lc_strs (fs.map tFn) (by rw [List.length_map, List.length_map]) (by rw [List.length_map]; omega) (fun _ _ => trivial) (fun i x t s2 Q hx ht k2 hq => ?_) fun s2 k2 hg => ?_⟩
  · rw [List.getElem?_map] at hx ht
    cases e : fs[i]? with
    | none => rw [e] at hx; cases hx
    | some f =>
    rw [e] at hx ht
    cases hx
    cases ht
    unfold l_show_1
    simp only [wipeS]
    walk_at "run"
    exact showf_ok (w f (List.mem_of_getElem? e)) hq
  · refine join_ref hg ?_ (h s2 (k2.mono fun p hp z => by omega))
    have := sum_le (l := fs.map tFn) (K := 190001) fun t ht => by
      obtain ⟨f, hf, rfl⟩ := List.mem_map.mp ht
      exact (w f hf).len
    rw [List.length_map] at this
    simp only [List.length_nil, Nat.mul_zero, Nat.add_zero]
    have : fs.length * 190001 ≤ 12 * 190001 := Nat.mul_le_mul_right _ hl
    omega
end
end K01

namespace K01
open PySem PX Tk Sx
theorem hDraw : TT i_law_draw = some drawFn := rfl
theorem kept_sp7 : ∀ i, i < 100 → i + 10 ≤ KEPT.length → ∃ t, t < 9 ∧ 1 ≤ t ∧ KEPT[i + t]? = some 32 := by decide +kernel
theorem kept_short7 {w : List Nat} (hw : w.all aln = true) (h : subS ([32] ++ w ++ [32]) KEPT = true) : w.length ≤ 7 := by
  refine Decidable.byContradiction fun hn => ?_
  have : subS ([32] ++ w ++ [32]) KEPT = false := sub_no fun i hi => by
    have hl : ([32] ++ w ++ [32]).length = w.length + 2 := by simp
    rw [hl] at hi ⊢
    have hK : KEPT.length ≤ 100 := by decide
    obtain ⟨t, ht, h1, e⟩ := kept_sp7 i (by omega) (by omega)
    refine ⟨t, by omega, ?_⟩
    rw [e]
    obtain ⟨t, rfl⟩ : ∃ u, t = u + 1 := ⟨t - 1, by omega⟩
    have ht' : t < w.length := by omega
    have e2 : ([32] ++ w ++ [32])[t + 1]? = some w[t] := by
      rw [List.append_assoc]
      show (w ++ [32])[t]? = _
      rw [List.getElem?_append_left ht', List.getElem?_eq_getElem ht']
    rw [e2]
    intro z
    exact aln_32 (List.all_eq_true.mp hw _ (List.getElem_mem ht')) (Option.some.inj z).symm
  rw [this] at h
  cases h
theorem rngN_len {n : Nat} : (rngL 0 (n : Int)).length = n := by
  unfold rngL
  rw [List.length_map, List.length_range]
  omega
theorem rngN_of {n k : Nat} {x : D} (h : (rngL 0 (n : Int))[k]? = some x) : k < n ∧ x = .int k := by
  have h1 := (List.getElem?_eq_some_iff.mp h).1
  rw [rngN_len] at h1
  unfold rngL at h
  rw [List.getElem?_map, List.getElem?_range (by omega)] at h
  cases h
  exact ⟨h1, by simp⟩
theorem LD_let {v : Int} (h0 : 0 ≤ v) (h1 : v < 26) : ∃ c, L2.atI LD v = some c ∧ c ∈ LET := by
  rw [atI_nn h0]
  have : LD.take 26 = LET := by decide
  have hl : v.toNat < LD.length := by have : LD.length = 36 := rfl; omega
  refine ⟨LD[v.toNat], List.getElem?_eq_getElem hl, ?_⟩
  rw [← this]
  have : (LD.take 26)[v.toNat]? = some LD[v.toNat] := by rw [List.getElem?_take, if_pos (by omega), List.getElem?_eq_getElem hl]
  exact List.mem_of_getElem? this
section
variable {j : Nat} {E : XQ}
theorem name_ok {b r : Nat} {s : Sto} {Q : QE} (hs : Src b s r) (hb : b < 2 ^ 59) (h : ∀ s' x, Name x → Kp (fun p => p = r) s s' → Src (b + 12) s' r → Q (.str x) s') : Lv TT (j + 2) i_law_name [.ref r] s Q E := by
  refine lv_in (fn := d_law_name.fn) rfl rfl ?_
  dsimp only [d_law_name, b_law_name_1]
  have e24 := size24
  walk_at "run"
  refine draw_kp hDraw hs (by omega) (dv 26) fun v s1 v0 v1 k1 l1 hs1 => ?_
  obtain ⟨c, hc, hcl⟩ := LD_let v0 v1
  refine ix_str hc ?_
  unfold b_law_name_1_1
  walk_at "run"
  refine draw_kp hDraw hs1 (by omega) (dv 8) fun w s2 w0 w1 k2 l2 hs2 => ?_
  refine ⟨by decide, ?_⟩
  refine pick_ok hDraw hs2 (by omega) rfl (by simp) (by simp) fun x s3 hx k3 l3 hs3 => ?_
  have : ∃ n : Nat, x = .int n ∧ n ≤ 7 := by
    simp only [List.mem_cons, List.not_mem_nil, or_false] at hx
    rcases hx with rfl | rfl | rfl | rfl
    · exact ⟨0, rfl, by decide⟩
    · exact ⟨0, rfl, by decide⟩
    · exact ⟨1, rfl, by decide⟩
    · exact ⟨w.toNat, by rw [Int.toNat_of_nonneg w0], by omega⟩
  obtain ⟨n, rfl, hn⟩ := this
  walk_at "run"
  refine ⟨⟨by decide, by decide, by omega, by omega⟩, ?_⟩
  have k03 : Kp (fun p => p = r) s s3 := k1.trans (k2.trans k3)
  refine for_at (I := fun i σ s' => ∃ (t : List Nat) (v4 : Option D), t.length = i ∧ (∀ d ∈ t, aln d = true) ∧ σ = [some (.ref r), some (.str LD), some (.str KEPT), some (.str (c :: t)), v4] ∧ Kp (fun p => p = r) s s' ∧ Src (b + 3 + i) s' r) ⟨[], _, rfl, fun d hd => absurd hd List.not_mem_nil, rfl, k03, hs3⟩ ?_ ?_
  · rintro i it σ s4 N' hit ⟨t, v4, ht, hta, rfl, k4, hs4⟩ hN
    obtain ⟨hi, rfl⟩ := rngN_of hit
    refine ⟨trivial, ?_⟩
    unfold b_law_name_3
    walk_at "run"
    refine sign_ok hDraw hs4 (by omega) rfl (by decide) (by decide) fun d s5 hd k5 hs5 => ?_
    walk_at "run"
    refine ⟨by omega, ?_⟩
    refine hN.nx _ _ ⟨t ++ [d], _, by rw [List.length_append, ht]; rfl, fun d' hd' => ?_, rfl, k4.trans k5, hs5⟩
    rcases List.mem_append.mp hd' with hd' | hd'
    · exact hta d' hd'
    · rw [List.mem_singleton.mp hd', aln_LD, decide_eq_true_eq]
      exact hd
  · rintro σ s4 ⟨t, v4, ht, hta, rfl, k4, hs4⟩
    rw [rngN_len] at ht hs4
    refine ⟨trivial, ?_⟩
    unfold b_law_name_1_2
    walk_at "run"
    have hal : (c :: t).all aln = true := by
      rw [List.all_cons, Bool.and_eq_true, List.all_eq_true]
      exact ⟨by unfold aln; simp [hcl], hta⟩
    refine ⟨by omega, by omega, br_b (fun hk => ?_) (fun hk => ?_)⟩
    · have h7 := kept_short7 hal hk
      rw [List.length_cons] at h7
      unfold b_law_name_2
      walk_at "run"
      refine ⟨by omega, ?_⟩
      refine h s4 (c :: (t ++ [48])) ⟨c, t ++ [48], rfl, hcl, fun d hd => ?_, by rw [List.length_append, List.length_singleton]; omega⟩ k4 (hs4.mono (by omega))
      rcases List.mem_append.mp hd with hd | hd
      · exact hta d hd
      · rw [List.mem_singleton.mp hd]; decide
    · unfold b_law_name_1_3
      walk_at "run"
      exact h s4 (c :: t) ⟨c, t, rfl, hcl, hta, by omega⟩ k4 (hs4.mono (by omega))
/-- the names of a function's variables -/
structure Nms (s : Sto) (nr : Nat) (vs : List Nm) : Prop where
  at_ : s[nr]? = some (.lst (vs.map .str))
  nm : ∀ x ∈ vs, Name x
  pos : 0 < vs.length
  few : vs.length ≤ 9
theorem Nms.kp {s s' : Sto} {nr : Nat} {vs : List Nm} {R : Nat → Prop} (n : Nms s nr vs) (k : Kp R s s') (h : ¬ R nr) : Nms s' nr vs := ⟨k.get _ _ h n.at_, n.nm, n.pos, n.few⟩
theorem var_ok {b r nr : Nat} {vs : List Nm} {s : Sto} {Q : QE} (hs : Src b s r) (hb : b < 2 ^ 59) (n : Nms s nr vs) (hne : nr ≠ r) (h : ∀ s' x, x ∈ vs → Kp (fun p => p = r) s s' → Src (b + 1) s' r → Q (.str x) s') : xBlt .len [.ref nr] s (fun y s1 => Lv TT (j + 1) i_law_draw [.ref r, y] s1 (fun y s2 => xIx (.ref nr) y s2 Q) E) := by
  refine len_ref n.at_ ?_
  rw [List.length_map]
  have := n.few
  refine draw_kp hDraw hs (by omega) (div_nat n.pos (by omega)) fun v s1 v0 v1 k1 l1 hs1 => ?_
  refine ix_any (k1.get _ _ hne n.at_) v0 (by rw [List.length_map]; exact v1) fun x hx => ?_
  obtain ⟨y, hy, rfl⟩ := List.mem_map.mp hx
  exact h s1 y hy k1 hs1
theorem pick_nm {b r nr : Nat} {vs : List Nm} {s : Sto} {Q : QE} (hs : Src b s r) (hb : b < 2 ^ 58) (n : Nms s nr vs) (hne : nr ≠ r) (h : ∀ s' x, Name x → Kp (fun p => p = r) s s' → Src (b + 13) s' r → Q (.str x) s') : Lv TT (j + 3) i_law_pick [.ref r, .ref nr] s Q E := by
  refine lv_in (fn := d_law_pick.fn) rfl rfl ?_
  dsimp only [d_law_pick, b_law_pick_1]
  walk_at "run"
  refine draw_kp hDraw hs (by omega) (dv 4) fun v s1 v0 v1 k1 l1 hs1 => ?_
  walk_at "run"
  refine br_dec (fun hv => ?_) (fun hv => ?_)
  · unfold b_law_pick_2
    walk_at "run"
    exact name_ok hs1 (by omega) fun s2 x hx k2 hs2 => h s2 x hx (k1.trans k2) hs2
  · unfold b_law_pick_1_1
    walk_at "run"
    exact var_ok hs1 (by omega) (n.kp k1 hne) hne fun s2 x hx k2 hs2 => h s2 x (n.nm x hx) (k1.trans k2) (hs2.mono (by omega))
end
end K01

namespace K01
open PySem PX Tk Sx
/-- what an expression's maker keeps: the draws, the names, the box -/
structure GE (b : Nat) (s : Sto) (r nr lr : Nat) (vs : List Nm) (L : Nat) : Prop where
  src : Src b s r
  nms : Nms s nr vs
  box : s[lr]? = some (.lst [.int L])
  n1 : nr ≠ r
  n2 : lr ≠ r
  n3 : nr ≠ lr
theorem GE.kp {b r nr lr L : Nat} {vs : List Nm} {s s' : Sto} {R : Nat → Prop} (g : GE b s r nr lr vs L) (k : Kp R s s') (h1 : ¬ R r) (h2 : ¬ R nr) (h3 : ¬ R lr) : GE b s' r nr lr vs L :=
  ⟨g.src.kp k h1, g.nms.kp k h2, k.get _ _ h3 g.box, g.n1, g.n2, g.n3⟩
theorem GE.dr {b b' r nr lr L : Nat} {vs : List Nm} {s s' : Sto} (g : GE b s r nr lr vs L) (k : Kp (fun p => p = r) s s') (hs : Src b' s' r) : GE b' s' r nr lr vs L :=
  ⟨hs, g.nms.kp k g.n1, k.get _ _ g.n2 g.box, g.n1, g.n2, g.n3⟩
theorem GE.mono {b b' r nr lr L : Nat} {vs : List Nm} {s : Sto} (g : GE b s r nr lr vs L) (h : b ≤ b') : GE b' s r nr lr vs L := ⟨g.src.mono h, g.nms, g.box, g.n1, g.n2, g.n3⟩
theorem GE.push {b r nr lr L : Nat} {vs : List Nm} {s t : Sto} (g : GE b s r nr lr vs L) : GE b (s ++ t) r nr lr vs L := g.kp (R := fun _ => False) Kp.push id id id
theorem GE.lt {b r nr lr L : Nat} {vs : List Nm} {s : Sto} (g : GE b s r nr lr vs L) : r < s.length ∧ nr < s.length ∧ lr < s.length := ⟨g.src.lt, lt_of_get g.nms.at_, lt_of_get g.box⟩
theorem dEs_snoc {es : List Ex} {e : Ex} : dEs es ++ [dE e] = dEs (es ++ [e]) := by rw [dEs_map, dEs_map, List.map_append]; rfl
theorem nds_app : ∀ (a b : List Ex), nds (a ++ b) = nds a + nds b
  | [], b => by simp [nds]
  | e :: r, b => by rw [List.cons_append, nds, nds, nds_app r b]; omega
/-- what is told of a made expression -/
structure GR (vs : List Nm) (d : Nat) (e : Ex) : Prop where
  w : WE vs e
  d : dp e ≤ d
section
variable {j : Nat}
/-- the making of one expression, as the next depth may use it -/
abbrev MakeE (r nr lr : Nat) (vs : List Nm) (d k : Nat) : Prop := ∀ (b hold L : Nat) (s : Sto) (Q : QE) (E : XQ), GE b s r nr lr vs L → b + 40 * L < 2 ^ 58 → hold + 1 ≤ L → L ≤ 61 →
  (∀ s' e L', GR vs d e → nd e + L' = L → hold ≤ L' → Kp (fun p => p = r ∨ p = lr) s s' → GE (b + 40 * nd e) s' r nr lr vs L' → Q (dE e) s') → Lv TT k i_law_e [.ref r, .ref lr, .int hold, .int d, .ref nr] s Q E
/-- some expressions, one behind the other -/
theorem es_go {sn : Nat} {r nr lr : Nat} {vs : List Nm} {d k c b hold L : Nat} {s : Sto} {own : List Nat} {σ : Sl} {elt : EX} {K : Sto → Prop} (mk : MakeE r nr lr vs d k) (g : GE b s r nr lr vs L) (hb : b + 40 * L < 2 ^ 58) (hL : hold + c ≤ L) (hL61 : L ≤ 61)
    (he : ∀ (i : Nat) (s1 : Sto) (Q : QE), i < c → (∀ E : XQ, Lv TT k i_law_e [.ref r, .ref lr, .int ((hold + c - 1 - i : Nat) : Int), .int d, .ref nr] s1 Q E) → xE (Lv TT k) elt ((wipeS σ own).set sn (some (.int (i : Int)))) s1 Q (fun _ _ _ => False))
    (h : ∀ s' es L', es.length = c → (∀ e ∈ es, GR vs d e) → nds es + L' = L → hold ≤ L' → Kp (fun p => p = r ∨ p = lr) s s' → GE (b + 40 * nds es) s' r nr lr vs L' → s'[s.length]? = some (.lst (dEs es)) → K s') :
    lcGo (.nm sn) .free (rngL 0 (c : Int)) s.length (fun σ' s' K => xIf (Lv TT k) [] σ' s' K) (fun σ' s' K => xE (Lv TT k) elt σ' s' K (fun _ _ _ => False)) own σ (rngL 0 (c : Int)) (s ++ [.lst []]) K := by
  have e24 := size24
  obtain ⟨g1, g2, g3⟩ := g.lt
  refine lc_at (I := fun i acc s' => i ≤ c ∧ s'[s.length]? = some (.lst acc) ∧ ∃ es L', acc = dEs es ∧ es.length = i ∧ (∀ e ∈ es, GR vs d e) ∧ nds es + L' = L ∧ hold + (c - i) ≤ L' ∧ Kp (fun p => p = r ∨ p = lr ∨ p = s.length) s s' ∧ GE (b + 40 * nds es) s' r nr lr vs L') (fun i acc s h => h.2.1) ⟨Nat.zero_le _, get_new, [], L, rfl, rfl, fun e h => absurd h List.not_mem_nil, by simp [nds], by omega, Kp.push, g.push⟩ ?_ ?_
  · rintro i it acc s1 hit ⟨_, hg, es, L', rfl, h1, h2, h3, h4, k1, ge⟩
    obtain ⟨hi, rfl⟩ := rngN_of hit
    refine ⟨trivial, ?_⟩
    dsimp only [xTg, xIf]
    rw [if_pos rfl]
    refine he i s1 _ hi fun E => ?_
    refine mk (b + 40 * nds es) (hold + c - 1 - i) L' s1 _ E ge (by omega) (by omega) (by omega) fun s2 e L2 r1 r2 r3 k2 g2' => ?_
    have hg2 := k2.get _ _ (by rintro (z | z) <;> omega) hg
    have hnl := nds_len es
    refine ⟨hg2, by rw [dEs_len]; omega, by omega, get_set hg2, es ++ [e], L2, dEs_snoc, by rw [List.length_append, h1]; rfl, fun e' he' => ?_, by rw [nds_app]; simp only [nds]; omega, by omega, (k1.trans (k2.mono fun p _ z => z.elim .inl fun z => .inr (.inl z))).trans (Kp.set (.inr (.inr rfl))), ?_⟩
    · rcases List.mem_append.mp he' with he' | he'
      · exact h2 e' he'
      · rw [List.mem_singleton.mp he']; exact r1
    · refine (g2'.kp (R := fun p => p = s.length) (Kp.set rfl) (by omega) (by omega) (by omega)).mono ?_
      rw [nds_app]
      simp only [nds]
      omega
  · rintro acc s1 ⟨_, hg, es, L', rfl, h1, h2, h3, h4, k1, ge⟩
    rw [rngN_len] at h1 h4
    refine ⟨trivial, h s1 es L' h1 h2 h3 (by omega) (k1.mono fun p hp z => z.elim .inl fun z => z.elim .inr fun z => absurd z (by omega)) ge hg⟩
set_option maxHeartbeats 0 in
theorem e_ok {r nr lr : Nat} {vs : List Nm} : ∀ d, 1 ≤ d → d ≤ 12 → MakeE r nr lr vs d (j + d + 3) := by
  intro d
  induction d with
  | zero => intro h; omega
  | succ d ih =>
  intro _ hd12 b hold L s Q E g hb hL hL61 h
  show Lv TT (j + d + 3 + 1) _ _ _ _ _
  refine lv_in (fn := d_law_e.fn) rfl rfl ?_
  dsimp only [d_law_e, b_law_e_1]
  have e24 := size24
  walk_at "run"
  refine ix_ref g.box atI_z ?_
  walk_at "run"
  refine set_ref g.box (ixn_z (by simp)) ?_
  have g1 : GE b (s.set lr (.lst [.int ((L - 1 : Nat) : Int)])) r nr lr vs (L - 1) := ⟨g.src.kp (R := fun p => p = lr) (Kp.set rfl) (by have := g.n2; omega), g.nms.kp (R := fun p => p = lr) (Kp.set rfl) g.n3, get_set g.box, g.n1, g.n2, g.n3⟩
  have k1 : Kp (fun p => p = r ∨ p = lr) s (s.set lr (.lst [.int ((L - 1 : Nat) : Int)])) := Kp.set (.inr rfl)
  rw [show ([D.int (L : Int)].set 0 (D.int ((L : Int) - 1))) = [.int ((L - 1 : Nat) : Int)] by rw [show (L : Int) - 1 = ((L - 1 : Nat) : Int) by omega]; rfl]
  generalize s.set lr (.lst [.int ((L - 1 : Nat) : Int)]) = s1 at g1 k1 ⊢
  refine ix_ref g1.box atI_z ?_
  walk_at "run"
  -- how much room there is
  have room : ∀ R : Nat, R ≤ L - 1 - hold → (1 ≤ R → 1 ≤ d) → xSs (Lv TT (j + d + 3)) b_law_e_1_1 [some (.ref r), some (.ref lr), some (.int hold), some (.int ((d + 1 : Nat) : Int)), some (.ref nr), some (.int R), none, none, none, none, none, none] s1 { nx := fun σ s' => Q .non s', rt := Q, bk := fun σ s => False, ct := fun σ s => False, ex := fun c fs σ s' => E c fs s' } := fun R hR hRd => by
    unfold b_law_e_1_1
    walk_at "run"
    refine draw_kp hDraw g1.src (by omega) (dv 18) fun p s2 p0 p1 k2 l2 hs2 => ?_
    obtain ⟨p, rfl⟩ := Int.eq_ofNat_of_zero_le p0
    have g2 := g1.dr k2 hs2
    have k02 : Kp (fun p => p = r ∨ p = lr) s s2 := k1.trans (k2.mono fun _ _ z => .inl z)
    obtain ⟨q1, q2, q3⟩ := g2.lt
    -- behind the second look at the draw
    have rest : ∀ p : Nat, p < 18 → (7 < p → 1 ≤ R) → (11 < p → 2 ≤ R) → xSs (Lv TT (j + d + 3)) b_law_e_1_3 [some (.ref r), some (.ref lr), some (.int hold), some (.int ((d + 1 : Nat) : Int)), some (.ref nr), some (.int R), some (.int p), none, none, none, none, none] s2 { nx := fun σ s' => Q .non s', rt := Q, bk := fun σ s => False, ct := fun σ s => False, ex := fun c fs σ s' => E c fs s' } := fun p hp hp7 hp11 => by
      -- a leaf
      have leaf : ∀ {e : Ex} {s' : Sto} {b' : Nat}, WE vs e → dp e = 1 → nd e = 1 → Kp (fun p => p = r) s2 s' → b' ≤ b + 40 → Src b' s' r → Q (dE e) s' := fun {e s' b'} w1 w2 w3 k' hb' hs' => by
        refine h s' e (L - 1) ⟨w1, by omega⟩ (by omega) (by omega) (k02.trans (k'.mono fun _ _ z => .inl z)) ?_
        rw [w3]
        exact (g2.dr k' hs').mono (by omega)
      unfold b_law_e_1_3
      walk_at "run"
      refine br_dec (fun hp0 => ?_) (fun hp0 => ?_)
      · unfold b_law_e_10
        walk_at "run"
        refine draw_kp hDraw g2.src (by omega) (dv 12) fun u s3 u0 u1 k3 l3 hs3 => ?_
        refine draw_kp hDraw hs3 (by omega) (dv 1000) fun w s4 w0 w1 k4 l4 hs4 => ?_
        refine ⟨by decide, ?_⟩
        refine pick_ok hDraw hs4 (by omega) rfl (by simp) (by simp) fun x s5 hx k5 l5 hs5 => ?_
        have : ∃ n : Nat, x = .int n ∧ n < 1000 := by
          simp only [List.mem_cons, List.not_mem_nil, or_false] at hx
          rcases hx with rfl | rfl
          · exact ⟨u.toNat, by rw [Int.toNat_of_nonneg u0], by omega⟩
          · exact ⟨w.toNat, by rw [Int.toNat_of_nonneg w0], by omega⟩
        obtain ⟨n, rfl, hn⟩ := this
        refine ⟨by decide, leaf (e := .num n) hn rfl rfl (k3.trans (k4.trans k5)) (by omega) hs5⟩
      unfold b_law_e_1_4
      walk_at "run"
      refine br_dec (fun hp1 => ?_) (fun hp1 => ?_)
      · unfold b_law_e_9
        walk_at "run"
        refine var_ok g2.src (by omega) g2.nms g2.n1 fun s3 x hx k3 hs3 => ?_
        exact ⟨by decide, leaf (e := .var x) hx rfl rfl k3 (by omega) hs3⟩
      unfold b_law_e_1_5
      walk_at "run"
      refine br_dec (fun hp5 => ?_) (fun hp5 => ?_)
      · unfold b_law_e_8
        walk_at "run"
        refine ⟨by decide, ?_⟩
        have : p = 2 ∨ p = 3 ∨ p = 4 := by omega
        rcases this with rfl | rfl | rfl
        · exact ix_ref get_new (i := 0) atI_z ⟨by decide, leaf (e := .wd .nil) trivial rfl rfl Kp.push (by omega) hs2.push⟩
        · exact ix_ref get_new (i := 1) atI_o ⟨by decide, leaf (e := .wd .new) trivial rfl rfl Kp.push (by omega) hs2.push⟩
        · exact ix_ref get_new (i := 2) atI_t ⟨by decide, leaf (e := .wd .ask) trivial rfl rfl Kp.push (by omega) hs2.push⟩
      -- what a deeper expression is made of
      have mk1 : 1 ≤ R → MakeE r nr lr vs d (j + d + 3) := fun h1 => ih (hRd h1) (by omega)
      unfold b_law_e_1_6
      walk_at "run"
      refine br_dec (fun hp8 => ?_) (fun hp8 => ?_)
      · unfold b_law_e_6
        walk_at "run"
        refine ⟨by decide, ?_⟩
        have g3 := g2.push (t := [Ob.lst [D.int 4, D.int 3, D.int 9]])
        have k3 : Kp (fun p => p = r) s2 (s2 ++ [Ob.lst [D.int 4, D.int 3, D.int 9]]) := Kp.push
        obtain ⟨lim, hlim, hl1, hl2⟩ : ∃ lim : Nat, L2.atI [D.int 4, D.int 3, D.int 9] ((p : Int) - 5) = some (.int lim) ∧ lim ≤ 9 ∧ 0 < lim := by
          have : p = 5 ∨ p = 6 ∨ p = 7 := by omega
          rcases this with rfl | rfl | rfl
          · exact ⟨4, rfl, by decide, by decide⟩
          · exact ⟨3, rfl, by decide, by decide⟩
          · exact ⟨9, rfl, by decide, by decide⟩
        have hlim3 : (p = 5 → lim = 4) ∧ (p = 6 → lim = 3) := by
          constructor
          · rintro rfl
            have : (4 : Int) = lim := D.int.inj (Option.some.inj hlim)
            omega
          · rintro rfl
            have : (3 : Int) = lim := D.int.inj (Option.some.inj hlim)
            omega
        refine ix_ref get_new hlim ?_
        generalize s2 ++ [Ob.lst [D.int 4, D.int 3, D.int 9]] = s3 at g3 k3 ⊢
        refine draw_kp hDraw g3.src (by omega) (dv lim ⟨hl2, by omega⟩) fun u s4 u0 u1 k4 l4 hs4 => ?_
        obtain ⟨u, rfl⟩ := Int.eq_ofNat_of_zero_le u0
        walk_at "run"
        obtain ⟨c, hc, hcR, hcl⟩ : ∃ c : Nat, (if (u : Int) < R then (u : Int) else R) = c ∧ c ≤ R ∧ c < lim := by
          by_cases z : (u : Int) < R
          · rw [if_pos z]; exact ⟨u, rfl, by omega, by omega⟩
          · rw [if_neg z]; exact ⟨R, rfl, by omega, by omega⟩
        rw [hc]
        have g4 := g3.dr k4 hs4
        unfold b_law_e_6_1 i_law_e_2
        walk_at "run"
        refine ⟨⟨by decide, by decide, by omega, by omega⟩, ?_⟩
        have mkc : c = 0 ∨ MakeE r nr lr vs d (j + d + 3) := by
          by_cases z : c = 0
          · exact .inl z
          · exact .inr (mk1 (by omega))
        -- the list of them
        have lst : ∀ (K : Sto → Prop), (∀ s' es L', es.length = c → (∀ e ∈ es, GR vs d e) → nds es + L' = L - 1 → hold ≤ L' → Kp (fun p => p = r ∨ p = lr) s4 s' → GE (b + 1 + 1 + 40 * nds es) s' r nr lr vs L' → s'[s4.length]? = some (.lst (dEs es)) → K s') →
            lcGo (.nm 9) .free (rngL 0 (c : Int)) s4.length (fun σ' s' K => xIf (Lv TT (j + d + 3)) [] σ' s' K) (fun σ' s' K => xE (Lv TT (j + d + 3)) l_law_e_2 σ' s' K (fun _ _ _ => False)) [9] [some (.ref r), some (.ref lr), some (.int hold), some (.int ((d + 1 : Nat) : Int)), some (.ref nr), some (.int R), some (.int p), some (.int c), none, none, none, none] (rngL 0 (c : Int)) (s4 ++ [.lst []]) K := fun K hK => by
          rcases mkc with z | mk
          · subst z
            refine ⟨trivial, hK _ [] (L - 1) rfl (fun e h => absurd h List.not_mem_nil) (by simp [nds]) (by omega) Kp.push g4.push get_new⟩
          · refine es_go mk g4 (by omega) (by omega) (by omega) (fun i s5 Q' hi hE => ?_) hK
            unfold l_law_e_2
            simp only [wipeS]
            walk_at "run"
            have := hE fun _ _ _ => False
            rw [show ((hold + c - 1 - i : Nat) : Int) = (hold : Int) + c - 1 - i by omega] at this
            rw [show (((d + 1 : Nat) : Int) - 1) = (d : Int) by omega]
            exact this
        refine lst _ fun s5 es L' n1 n2 n3 n4 k5 g5 hg5 => ?_
        refine tup_ref hg5 ?_
        walk_at "run"
        have k05 : Kp (fun p => p = r ∨ p = lr) s s5 := k02.trans (((k3.trans k4).mono fun _ _ z => .inl z).trans k5)
        have hw : WEs vs es := WEs_all.mpr fun e he => (n2 e he).w
        have hdp : dps es ≤ d := dps_of fun e he => (n2 e he).d
        unfold b_law_e_6_2
        walk_at "run"
        refine br_dec (fun hp7 => ?_) (fun hp7 => ?_)
        · unfold b_law_e_7
          walk_at "run"
          refine ⟨by decide, h s5 (.list es) L' ⟨⟨by omega, hw⟩, by simp only [dp]; omega⟩ (by simp only [nd]; omega) n4 k05 (g5.mono (by simp only [nd]; omega))⟩
        · unfold b_law_e_6_3
          walk_at "run"
          refine ⟨by decide, ?_⟩
          have : p = 5 ∨ p = 6 := by omega
          rcases this with rfl | rfl
          · refine ix_ref get_new (i := 0) atI_z ?_
            refine Lv_le (k := j + 3) (by omega) (pick_nm g5.push.src (by omega) g5.push.nms g5.n1 fun s6 x hx k6 hs6 => ?_)
            refine ⟨by decide, h s6 (.call .call x es) L' ⟨⟨hx, by have := hlim3.1 rfl; show es.length ≤ 3; omega, hw⟩, by simp only [dp]; omega⟩ (by simp only [nd]; omega) n4 (k05.trans (Kp.push.trans (k6.mono fun _ _ z => .inl z))) ((g5.push.dr k6 hs6).mono (by simp only [nd]; omega))⟩
          · refine ix_ref get_new (i := 1) atI_o ?_
            refine Lv_le (k := j + 3) (by omega) (pick_nm g5.push.src (by omega) g5.push.nms g5.n1 fun s6 x hx k6 hs6 => ?_)
            refine ⟨by decide, h s6 (.call .bind x es) L' ⟨⟨hx, by have := hlim3.2 rfl; show es.length ≤ 2; omega, hw⟩, by simp only [dp]; omega⟩ (by simp only [nd]; omega) n4 (k05.trans (Kp.push.trans (k6.mono fun _ _ z => .inl z))) ((g5.push.dr k6 hs6).mono (by simp only [nd]; omega))⟩
      -- one operand at least
      have hR1 := hp7 (by omega)
      have mk := mk1 hR1
      have deep : ∀ (c : Nat) (s3 : Sto) (b' : Nat), c + 1 ≤ R → (p = 11 → c ≤ 3) → (11 < p → c = 1) → (p < 11 → c = 0) → b' ≤ b + 2 → GE b' s3 r nr lr vs (L - 1) → Kp (fun p => p = r) s2 s3 → xSs (Lv TT (j + d + 3)) b_law_e_1_8 [some (.ref r), some (.ref lr), some (.int hold), some (.int ((d + 1 : Nat) : Int)), some (.ref nr), some (.int R), some (.int p), some (.int c), none, none, none, none] s3 { nx := fun σ s' => Q .non s', rt := Q, bk := fun σ s => False, ct := fun σ s => False, ex := fun c fs σ s' => E c fs s' } := fun c s3 b' hc hc11 hc12 hc10 hb' g3 k3 => by
        unfold b_law_e_1_8
        walk_at "run"
        rw [show (hold : Int) + c = ((hold + c : Nat) : Int) by omega, show (((d + 1 : Nat) : Int) - 1) = (d : Int) by omega]
        refine mk b' (hold + c) (L - 1) s3 _ _ g3 (by omega) (by omega) (by omega) fun s4 e L1 r1 r2 r3 k4 g4 => ?_
        unfold b_law_e_1_9 i_law_e_1
        walk_at "run"
        refine ⟨⟨by decide, by decide, by omega, by omega⟩, ?_⟩
        refine es_go (c := c) (hold := hold) mk g4 (by omega) (by omega) (by omega) (fun i s5 Q' hi hE => ?_) fun s5 es L' n1 n2 n3 n4 k5 g5 hg5 => ?_
        · unfold l_law_e_1
          simp only [wipeS]
          walk_at "run"
          have := hE fun _ _ _ => False
          rw [show ((hold + c - 1 - i : Nat) : Int) = (hold : Int) + c - 1 - i by omega] at this
          rw [show (((d + 1 : Nat) : Int) - 1) = (d : Int) by omega]
          exact this
        refine tup_ref hg5 ?_
        have k05 : Kp (fun p => p = r ∨ p = lr) s s5 := k02.trans ((k3.mono fun _ _ z => .inl z).trans (k4.trans k5))
        have hw : WEs vs es := WEs_all.mpr fun e he => (n2 e he).w
        have hdp : dps es ≤ d := dps_of fun e he => (n2 e he).d
        have hde := r1.d
        unfold b_law_e_1_10
        walk_at "run"
        refine br_dec (fun h10 => ?_) (fun h10 => ?_)
        · have hc0 := hc10 (by omega)
          subst hc0
          have : es = [] := List.length_eq_zero_iff.mp n1
          subst this
          simp only [nds] at n3 g5
          unfold b_law_e_4
          walk_at "run"
          refine ⟨by decide, ?_⟩
          have : p = 8 ∨ p = 9 := by omega
          rcases this with rfl | rfl
          · exact ix_ref get_new (i := 0) atI_z ⟨by decide, h _ (.un .len e) L' ⟨r1.w, by simp only [dp]; omega⟩ (by simp only [nd]; omega) n4 (k05.trans Kp.push) (g5.push.mono (by simp only [nd]; omega))⟩
          · exact ix_ref get_new (i := 1) atI_o ⟨by decide, h _ (.un .kind e) L' ⟨r1.w, by simp only [dp]; omega⟩ (by simp only [nd]; omega) n4 (k05.trans Kp.push) (g5.push.mono (by simp only [nd]; omega))⟩
        unfold b_law_e_1_11
        walk_at "run"
        refine br_dec (fun h10' => ?_) (fun h10' => ?_)
        · have hc0 := hc10 (by omega)
          subst hc0
          have : es = [] := List.length_eq_zero_iff.mp n1
          subst this
          simp only [nds] at n3 g5
          unfold b_law_e_3
          walk_at "run"
          refine Lv_le (k := j + 3) (by omega) (pick_nm g5.src (by omega) g5.nms g5.n1 fun s6 x hx k6 hs6 => ?_)
          exact ⟨by decide, h s6 (.fld e x) L' ⟨⟨r1.w, hx⟩, by simp only [dp]; omega⟩ (by simp only [nd]; omega) n4 (k05.trans (k6.mono fun _ _ z => .inl z)) ((g5.dr k6 hs6).mono (by simp only [nd]; omega))⟩
        unfold b_law_e_1_12
        walk_at "run"
        refine br_dec (fun h11 => ?_) (fun h11 => ?_)
        · have hc3 := hc11 (by omega)
          unfold b_law_e_2
          walk_at "run"
          exact ⟨by decide, h s5 (.app e es) L' ⟨⟨r1.w, by omega, hw⟩, by simp only [dp]; omega⟩ (by simp only [nd]; omega) n4 k05 (g5.mono (by simp only [nd]; omega))⟩
        have hc1 := hc12 (by omega)
        subst hc1
        obtain ⟨a, rfl⟩ : ∃ a, es = [a] := List.length_eq_one_iff.mp n1
        simp only [nds] at n3 g5
        simp only [dps] at hdp
        have ha := (n2 a (by simp)).w
        unfold b_law_e_1_13
        walk_at "run"
        refine ⟨by decide, ?_⟩
        have : p = 12 ∨ p = 13 ∨ p = 14 ∨ p = 15 ∨ p = 16 ∨ p = 17 := by omega
        have fin : ∀ o : KB, dEs [a] = [dE a] ∧ (6 ≤ sizeLine → True) ∧ Q (dE (.bin o e a)) (s5 ++ [Ob.lst [D.str [105, 116, 101, 109], D.str [97, 100, 100], D.str [115, 117, 98], D.str [109, 117, 108], D.str [108, 101, 115, 115], D.str [115, 97, 109, 101]]]) := fun o => ⟨rfl, fun _ => trivial, h _ (.bin o e a) L' ⟨⟨r1.w, ha⟩, by simp only [dp]; omega⟩ (by simp only [nd]; omega) n4 (k05.trans Kp.push) (g5.push.mono (by simp only [nd]; omega))⟩
        rcases this with rfl | rfl | rfl | rfl | rfl | rfl
        · refine ix_ref get_new (i := 0) (v := .str [105, 116, 101, 109]) rfl (ix_tup (v := dE a) atI_z ⟨by decide, (fin .item).2.2⟩)
        · refine ix_ref get_new (i := 1) (v := .str [97, 100, 100]) rfl (ix_tup (v := dE a) atI_z ⟨by decide, (fin .add).2.2⟩)
        · refine ix_ref get_new (i := 2) (v := .str [115, 117, 98]) rfl (ix_tup (v := dE a) atI_z ⟨by decide, (fin .sub).2.2⟩)
        · refine ix_ref get_new (i := 3) (v := .str [109, 117, 108]) rfl (ix_tup (v := dE a) atI_z ⟨by decide, (fin .mul).2.2⟩)
        · refine ix_ref get_new (i := 4) (v := .str [108, 101, 115, 115]) rfl (ix_tup (v := dE a) atI_z ⟨by decide, (fin .less).2.2⟩)
        · refine ix_ref get_new (i := 5) (v := .str [115, 97, 109, 101]) rfl (ix_tup (v := dE a) atI_z ⟨by decide, (fin .same).2.2⟩)
      unfold b_law_e_1_7
      walk_at "run"
      refine br_dec (fun h11 => ?_) (fun h11 => ?_)
      · unfold b_law_e_5
        walk_at "run"
        refine draw_kp hDraw g2.src (by omega) (dv 4) fun u s3 u0 u1 k3 l3 hs3 => ?_
        obtain ⟨u, rfl⟩ := Int.eq_ofNat_of_zero_le u0
        walk_at "run"
        obtain ⟨c, hc, hcR, hcl⟩ : ∃ c : Nat, (if (u : Int) < (R : Int) - 1 then (u : Int) else (R : Int) - 1) = c ∧ c + 1 ≤ R ∧ c ≤ 3 := by
          by_cases z : (u : Int) < (R : Int) - 1
          · rw [if_pos z]; exact ⟨u, rfl, by omega, by omega⟩
          · rw [if_neg z]; exact ⟨R - 1, by omega, by omega, by omega⟩
        rw [hc]
        exact deep c s3 _ hcR (fun _ => hcl) (fun z => by omega) (fun z => by omega) (Nat.le_refl _) (g2.dr k3 hs3) k3
      · by_cases z : 11 < p
        · rw [decide_eq_true (show (11 : Int) < p by omega)]
          exact deep 1 s2 _ (hp11 z) (fun z => by omega) (fun _ => rfl) (fun z => by omega) (by omega) g2 (Kp.refl _ _)
        · rw [decide_eq_false (show ¬ (11 : Int) < p by omega)]
          exact deep 0 s2 _ (by omega) (fun z => by omega) (fun z => by omega) (fun _ => rfl) (by omega) g2 (Kp.refl _ _)
    unfold b_law_e_1_2
    walk_at "run"
    have toMod : xSs (Lv TT (j + d + 3)) b_law_e_11 [some (.ref r), some (.ref lr), some (.int hold), some (.int ((d + 1 : Nat) : Int)), some (.ref nr), some (.int R), some (.int p), none, none, none, none, none] s2 { nx := fun σ s => xSs (Lv TT (j + d + 3)) b_law_e_1_3 σ s { nx := fun σ s' => Q .non s', rt := Q, bk := fun σ s => False, ct := fun σ s => False, ex := fun c fs σ s' => E c fs s' }, rt := Q, bk := fun σ s => False, ct := fun σ s => False, ex := fun c fs σ s' => E c fs s' } := by
      unfold b_law_e_11
      walk_at "run"
      refine ⟨by decide, ?_⟩
      rw [show ((p : Int) % 8) = ((p % 8 : Nat) : Int) by norm_cast]
      exact rest (p % 8) (by omega) (fun z => by omega) (fun z => by omega)
    have rx := rest p (by omega)
    generalize xSs (Lv TT (j + d + 3)) b_law_e_11 _ s2 _ = M at toMod ⊢
    generalize xSs (Lv TT (j + d + 3)) b_law_e_1_3 [some (.ref r), some (.ref lr), some (.int hold), some (.int ((d + 1 : Nat) : Int)), some (.ref nr), some (.int R), some (.int p), none, none, none, none, none] s2 _ = X at rx ⊢
    repeat' (refine br_dec (fun _ => ?_) (fun _ => ?_))
    all_goals first | exact toMod | exact rx (fun z => by omega) (fun z => by omega)
  by_cases h2 : d + 1 < 2
  · refine br_yes (by omega) ?_
    unfold b_law_e_12
    walk_at "run"
    exact room 0 (Nat.zero_le _) (fun z => by omega)
  · refine br_no (by omega) ?_
    rw [show (((L - 1 : Nat) : Int) - hold) = ((L - 1 - hold : Nat) : Int) by omega]
    exact room _ (Nat.le_refl _) (fun _ => by omega)
end
end K01

namespace K01
open PySem PX Tk Sx
section
variable {j : Nat} {E : XQ}
set_option maxHeartbeats 0 in
theorem mkes_ok {b r nr lr many pl over : Nat} {a l : Int} {vs : List Nm} {s : Sto} {Q : QE} (hs : Src b s r) (hb : b < 2 ^ 57) (n : Nms s nr vs) (hl : s[lr]? = some (.lst [.int a, .int l])) (h1 : nr ≠ r) (h2 : lr ≠ r) (h3 : nr ≠ lr) (hm : many ≤ 3) (hp : pl ≤ 4) (ho : over ≤ 10)
    (h : ∀ s' q es a', es.length = many → (∀ e ∈ es, EO vs e) → Kp (fun p => p = r ∨ p = lr) s s' → Src (b + 3000) s' r → s'[lr]? = some (.lst [.int a', .int l]) → s'[q]? = some (.lst (dEs es)) → s.length ≤ q → Q (.ref q) s') : Lv TT (j + 16) i_law_es [.ref r, .ref lr, .int many, .int pl, .int over, .ref nr] s Q E := by
  refine lv_in (fn := d_law_es.fn) rfl rfl ?_
  dsimp only [d_law_es, b_law_es_1]
  have e24 := size24
  walk_at "run"
  refine draw_kp hDraw hs (by omega) (dv 60) fun u s1 u0 u1 k1 l1 hs1 => ?_
  walk_at "run"
  refine ⟨by decide, ?_⟩
  refine pick_ok hDraw hs1 (by omega) rfl (by simp) (by simp) fun x s2 hx k2 l2 hs2 => ?_
  have : ∃ z : Nat, x = .int z ∧ z ≤ 60 := by
    simp only [List.mem_cons, List.not_mem_nil, or_false] at hx
    rcases hx with rfl | rfl | rfl | rfl | rfl | rfl | rfl | rfl | rfl | rfl | rfl | rfl
    · exact ⟨1, rfl, by decide⟩
    · exact ⟨1, rfl, by decide⟩
    · exact ⟨2, rfl, by decide⟩
    · exact ⟨2, rfl, by decide⟩
    · exact ⟨3, rfl, by decide⟩
    · exact ⟨3, rfl, by decide⟩
    · exact ⟨4, rfl, by decide⟩
    · exact ⟨5, rfl, by decide⟩
    · exact ⟨6, rfl, by decide⟩
    · exact ⟨8, rfl, by decide⟩
    · exact ⟨11, rfl, by decide⟩
    · exact ⟨(1 + u).toNat, by rw [Int.toNat_of_nonneg (by omega)], by omega⟩
  obtain ⟨z, rfl, hz⟩ := this
  have k02 : Kp (fun p => p = r) s s2 := k1.trans k2
  have hl2 := k02.get _ _ h2 hl
  have n2 := n.kp k02 h1
  unfold b_law_es_1_1
  walk_at "run"
  refine ix_ref hl2 atI_z ?_
  walk_at "run"
  obtain ⟨S, hS, hS1, hS2⟩ : ∃ S : Nat, (if (if (z : Int) < a then (z : Int) else a) > (many : Int) then (if (z : Int) < a then (z : Int) else a) else (many : Int)) = S ∧ many ≤ S ∧ S ≤ 60 := by
    generalize hy : (if (z : Int) < a then (z : Int) else a) = y
    have hyz : y ≤ z := by
      rw [← hy]
      split <;> omega
    by_cases c : y > (many : Int)
    · rw [if_pos c]; exact ⟨y.toNat, by omega, by omega, by omega⟩
    · rw [if_neg c]; exact ⟨many, rfl, Nat.le_refl _, by omega⟩
  rw [hS]
  refine ⟨by decide, ⟨by decide, by decide, by omega, by omega⟩, ?_⟩
  have lr2 := lt_of_get hl2
  have nr2 := lt_of_get n2.at_
  have rr2 := hs2.lt
  have g3 : GE (b + 2) (s2 ++ [Ob.lst [D.int S]]) r nr s2.length vs S := ⟨hs2.push, n2.kp (R := fun _ => False) Kp.push id, get_new, h1, by omega, by omega⟩
  have k23 : Kp (fun p => p = r) s2 (s2 ++ [Ob.lst [D.int S]]) := Kp.push
  have l23 : (s2 ++ [Ob.lst [D.int S]]).length = s2.length + 1 := by simp
  generalize hbx : s2.length = bx at g3 l23 lr2 nr2 rr2 ⊢
  generalize s2 ++ [Ob.lst [D.int S]] = s3 at g3 k23 l23 ⊢
  have mk : MakeE r nr bx vs 12 (j + 15) := e_ok 12 (by omega) (by omega)
  unfold i_law_es_2
  refine es_go (c := many) (hold := 0) mk g3 (by omega) (by omega) (by omega) (fun i s4 Q' hi hE => ?_) fun s4 es L' m1 m2 m3 m4 k4 g4 hq4 => ?_
  · unfold l_law_es_2
    simp only [wipeS]
    walk_at "run"
    have := hE fun _ _ _ => False
    rw [show ((0 + many - 1 - i : Nat) : Int) = (many : Int) - 1 - i by omega] at this
    exact this
  have eo : ∀ e ∈ es, EO vs e := fun e he => ⟨(m2 e he).w, (m2 e he).d, by have := nds_le (Nat.le_refl (nds es)) e he; omega⟩
  have k04 : Kp (fun p => p = r) s s4 := ((k02.trans k23).mono (r' := fun p => p = r ∨ p = bx) fun _ _ z => .inl z).trans k4 |>.mono fun p hp z => z.resolve_right (by have := k02.len; omega)
  have hl4 := k04.get _ _ h2 hl
  unfold b_law_es_1_2
  walk_at "run"
  refine ⟨⟨by decide, by decide, by omega, by omega⟩, ?_⟩
  refine for_at (I := fun i σ s' => ∃ (ct : Nat) (v10 : Option D), σ = [some (.ref r), some (.ref lr), some (.int many), some (.int pl), some (.int over), some (.ref nr), some (.int z), some (.int S), some (.ref bx), some (.ref s3.length), v10, some (.int ct), none] ∧ Kp (fun _ => False) s4 s') ⟨over, none, rfl, Kp.refl _ _⟩ ?_ ?_
  · rintro i it σ s5 N' hit ⟨ct, v10, rfl, k5⟩ hN
    obtain ⟨hi, rfl⟩ := rngN_of hit
    refine ⟨trivial, ?_⟩
    have hi' : i < es.length := by omega
    have hq5 := k5.get _ _ id hq4
    have he := eo es[i] (List.getElem_mem hi')
    have ge : L2.atI (dEs es) (i : Int) = some (dE es[i]) := by rw [dEs_map, atI_k, List.getElem?_map, List.getElem?_eq_getElem hi']; rfl
    unfold b_law_es_3
    walk_at "run"
    refine ix_ref hq5 ge ?_
    walk_at "run"
    obtain ⟨p, hpp, hp2⟩ : ∃ p : Nat, (pl : Int) * (if decide ((i : Int) = 0) = true then 1 else 0) = p ∧ p ≤ 4 := by
      by_cases c : (i : Int) = 0
      · rw [decide_eq_true c, if_pos rfl]; exact ⟨pl, by omega, hp⟩
      · rw [decide_eq_false c, if_neg (by decide)]; exact ⟨0, by omega, by omega⟩
    rw [hpp]
    refine ⟨mul_small (by omega) (by omega) (by split <;> decide) (by split <;> decide), by decide, ?_⟩
    refine Lv_le (k := j + 12) (by omega) (text_e_ok n.nm 12 es[i] p s5.length _ _ _ he.d he.w (by have := he.n; omega) get_new fun s6 k6 => ?_)
    walk_at "run"
    have ht := he.tpl n.nm (p := p)
    have hpc : Pcs false (tp p es[i]) := Pcs.par (tx_pcs n.nm _ he.w)
    refine Lv_le (k := j + 2) (by omega) (ltok_ok (by omega) fun v s7 k7 hv => ?_)
    have hsm := hpc.tok _ (Nat.le_refl _)
    cases htk : Tk.tk (tp p es[i]).length (tp p es[i]) with
    | none => rw [htk] at hsm; cases hsm
    | some lt =>
    rw [htk] at hv
    obtain ⟨q7, rfl, hq7⟩ := hv
    refine len_ref hq7 ?_
    rw [List.length_map]
    walk_at "run"
    rw [show (ct : Int) + (lt.length : Int) = ((ct + lt.length : Nat) : Int) by omega]
    exact hN.nx _ _ ⟨_, _, rfl, k5.trans (Kp.push.trans (k6.trans k7))⟩
  · rintro σ s5 ⟨ct, v10, rfl, k5⟩
    refine ⟨trivial, ?_⟩
    have hq5 := k5.get _ _ id hq4
    have g5 := g4.kp k5 id id id
    have k05 : Kp (fun p => p = r) s s5 := k04.trans k5.none
    have hl5 := k05.get _ _ h2 hl
    have hlen := k04.len
    have fin : ∀ (s6 : Sto) (v12 : Option D) (q bx' : Nat) (B : Int) (es' : List Ex), es'.length = many → (∀ e ∈ es', EO vs e) → Kp (fun _ => False) s5 s6 → s6[q]? = some (.lst (dEs es')) → s6[bx']? = some (.lst [.int B]) → s.length ≤ q → s.length ≤ bx' → xSs (Lv TT (j + 15)) b_law_es_1_4 [some (.ref r), some (.ref lr), some (.int many), some (.int pl), some (.int over), some (.ref nr), some (.int z), some (.int S), some (.ref bx'), some (.ref q), v10, some (.int ct), v12] s6 { nx := fun σ s' => Q .non s', rt := Q, bk := fun σ s => False, ct := fun σ s => False, ex := fun c fs σ s' => E c fs s' } := fun s6 v12 q bx' B es' e1 e2 k6 hq6 hb6 hql hbl => by
      have hl6 := k6.get _ _ id hl5
      have lrl := lt_of_get hl
      unfold b_law_es_1_4
      walk_at "run"
      refine ix_ref hl6 atI_z ?_
      walk_at "run"
      refine ix_ref hb6 atI_z ?_
      walk_at "run"
      refine set_ref hl6 (ixn_z (by simp)) ?_
      refine h _ q es' (a - S + B) e1 e2 (((k05.trans k6.none).mono fun _ _ z => .inl z).trans (Kp.set (.inr rfl))) ?_ (get_set hl6) (get_ne hq6 (by omega)) hql
      exact ((g5.src.kp k6 id).kp (R := fun p => p = lr) (Kp.set rfl) (by omega)).mono (by omega)
    unfold b_law_es_1_3
    walk_at "run"
    have hs3 : s.length ≤ bx := by have := k02.len; omega
    refine br_dec (fun hct => ?_) (fun hct => ?_)
    · unfold b_law_es_2 i_law_es_1
      walk_at "run"
      refine ⟨by decide, ?_⟩
      have hq6 := get_old (r := [Ob.lst [D.int ((S : Int) - many)]]) hq5
      refine it_ref hq6 ?_
      have l6 : (s5 ++ [Ob.lst [D.int ((S : Int) - many)]]).length = s5.length + 1 := by simp
      have b6 : (s5 ++ [Ob.lst [D.int ((S : Int) - many)]])[s5.length]? = some (.lst [.int ((S : Int) - many)]) := get_new
      have k56 : Kp (fun _ => False) s5 (s5 ++ [Ob.lst [D.int ((S : Int) - many)]]) := Kp.push
      generalize s5 ++ [Ob.lst [D.int ((S : Int) - many)]] = s6 at hq6 l6 b6 k56 ⊢
      refine lc_map (f := fun _ _ => dE (.wd .nil)) (by rw [dEs_len]; omega) (fun s' k => k.get _ _ (by have := lt_of_get hq6; omega) hq6) ?_ ?_
      · intro i x s7 Q' hx k7 hQ
        unfold l_law_es_1
        simp only [wipeS]
        walk_at "run"
        exact ⟨by decide, hQ s7 (Kp.refl _ _)⟩
      · intro s7 k7 hg7
        have em : List.mapIdx (fun (_ : Nat) (_ : D) => dE (.wd .nil)) (dEs es) = dEs (es.map fun _ => .wd .nil) := by
          rw [dEs_map, dEs_map, List.map_map]
          apply List.ext_getElem?
          intro i
          rw [List.getElem?_mapIdx, List.getElem?_map, List.getElem?_map]
          cases es[i]? <;> rfl
        rw [em] at hg7
        have k57 : Kp (fun _ => False) s5 s7 := (k56.mono (r' := fun p => p = s6.length) fun _ _ z => z.elim).trans k7 |>.mono fun p hp z => by omega
        have hl5' := k05.len
        exact fin s7 _ s6.length s5.length _ _ (by rw [List.length_map]; exact m1) (fun e he => by
          obtain ⟨_, _, rfl⟩ := List.mem_map.mp he
          exact ⟨trivial, by decide, by decide⟩) k57 hg7 (k7.get _ _ (by omega) b6) (by omega) (by omega)
    · exact fin s5 _ s3.length bx _ es m1 eo (Kp.refl _ _) hq5 g5.box (by omega) hs3
end
end K01

namespace K01
open PySem PX Tk Sx
/-- how many draws a block makes at most -/
def Bk : Nat → Nat
  | 0 => 0
  | d + 1 => 40 * (4000 + 2 * Bk d) + 10
theorem Bk_small : ∀ d, d ≤ 6 → Bk d < 2 ^ 50 := by decide +kernel
/-- what a block's maker keeps -/
structure GB (b : Nat) (s : Sto) (r nr lr : Nat) (vs : List Nm) (a : Int) (l : Nat) : Prop where
  src : Src b s r
  nms : Nms s nr vs
  box : s[lr]? = some (.lst [.int a, .int l])
  n1 : nr ≠ r
  n2 : lr ≠ r
  n3 : nr ≠ lr
theorem GB.kp {b r nr lr l : Nat} {a : Int} {vs : List Nm} {s s' : Sto} {R : Nat → Prop} (g : GB b s r nr lr vs a l) (k : Kp R s s') (h1 : ¬ R r) (h2 : ¬ R nr) (h3 : ¬ R lr) : GB b s' r nr lr vs a l :=
  ⟨g.src.kp k h1, g.nms.kp k h2, k.get _ _ h3 g.box, g.n1, g.n2, g.n3⟩
theorem GB.dr {b b' r nr lr l : Nat} {a : Int} {vs : List Nm} {s s' : Sto} (g : GB b s r nr lr vs a l) (k : Kp (fun p => p = r) s s') (hs : Src b' s' r) : GB b' s' r nr lr vs a l :=
  ⟨hs, g.nms.kp k g.n1, k.get _ _ g.n2 g.box, g.n1, g.n2, g.n3⟩
theorem GB.mono {b b' r nr lr l : Nat} {a : Int} {vs : List Nm} {s : Sto} (g : GB b s r nr lr vs a l) (h : b ≤ b') : GB b' s r nr lr vs a l := ⟨g.src.mono h, g.nms, g.box, g.n1, g.n2, g.n3⟩
theorem GB.push {b r nr lr l : Nat} {a : Int} {vs : List Nm} {s t : Sto} (g : GB b s r nr lr vs a l) : GB b (s ++ t) r nr lr vs a l := g.kp (R := fun _ => False) Kp.push id id id
theorem GB.lt {b r nr lr l : Nat} {a : Int} {vs : List Nm} {s : Sto} (g : GB b s r nr lr vs a l) : r < s.length ∧ nr < s.length ∧ lr < s.length := ⟨g.src.lt, lt_of_get g.nms.at_, lt_of_get g.box⟩
theorem GB.set {b r nr lr l : Nat} {a a' : Int} {l' : Nat} {vs : List Nm} {s : Sto} (g : GB b s r nr lr vs a l) : GB b (s.set lr (.lst [.int a', .int l'])) r nr lr vs a' l' :=
  ⟨g.src.kp (R := fun p => p = lr) (Kp.set rfl) (by have := g.n2; omega), g.nms.kp (R := fun p => p = lr) (Kp.set rfl) g.n3, get_set g.box, g.n1, g.n2, g.n3⟩
def mN (p : Nat) : Nat := [0, 1, 1, 1, 1, 1, 2, 2, 3, 0, 1, 1, 0].getD p 0
def nN (p : Nat) : Nat := if p ≤ 9 then 1 else if p ≤ 11 then 2 else 3
section
variable {j : Nat}
abbrev MakeB (r nr lr : Nat) (vs : List Nm) (d k : Nat) : Prop := ∀ (b : Nat) (a : Int) (l : Nat) (s : Sto) (Q : QE) (E : XQ), GB b s r nr lr vs a l → b + Bk (d + 1) < 2 ^ 56 → l ≤ 38 →
  (∀ s' blk a' l', WSs vs blk → bds blk ≤ d → lls blk + l' = l → Kp (fun p => p = r ∨ p = lr) s s' → GB (b + Bk (d + 1)) s' r nr lr vs a' l' → Q (.tup (dSs blk)) s') → Lv TT k i_law_block [.ref r, .ref lr, .int d, .ref nr] s Q E
theorem len1 {es : List Ex} (h : es.length = 1) : ∃ e, es = [e] := List.length_eq_one_iff.mp h
theorem len2 {es : List Ex} (h : es.length = 2) : ∃ e f, es = [e, f] := by
  match es, h with
  | [e, f], _ => exact ⟨e, f, rfl⟩
theorem len3 {es : List Ex} (h : es.length = 3) : ∃ e f g, es = [e, f, g] := by
  match es, h with
  | [e, f, g], _ => exact ⟨e, f, g, rfl⟩
set_option maxHeartbeats 0 in
theorem whole_ok {r nr lr : Nat} {vs : List Nm} {d : Nat} (hd : d ≤ 5) (mk : ∀ d', d = d' + 1 → MakeB r nr lr vs d' (j + 2 * d' + 18)) {b p m q l : Nat} {a : Int} {es : List Ex} {s : Sto} {Q : QE} {E : XQ} (g : GB b s r nr lr vs a l) (hb : b + 100 + 2 * Bk d < 2 ^ 56) (hp : p ≤ 12) (hm : p ≠ 9 → m = mN p) (hm3 : m ≤ 3) (hpd : 9 < p → 1 ≤ d) (hl : l + nN p ≤ 38)
    (hq : s[q]? = some (.lst (dEs es))) (hqr : q ≠ r) (hql : q ≠ lr) (hes : es.length = m) (heo : ∀ e ∈ es, EO vs e)
    (h : ∀ s' st a' l', WS vs st → bd st ≤ d → ll st + l' = l + nN p → Kp (fun p => p = r ∨ p = lr) s s' → GB (b + 100 + 2 * Bk d) s' r nr lr vs a' l' → Q (dS st) s') : Lv TT (j + 2 * d + 17) i_law_whole [.ref r, .ref lr, .int d, .ref nr, .int p, .ref q] s Q E := by
  refine lv_in (fn := d_law_whole.fn) rfl rfl ?_
  dsimp only [d_law_whole, b_law_whole_1]
  have e24 := size24
  walk_at "run"
  have kr : ∀ {s' : Sto}, Kp (fun p => p = r) s s' → Kp (fun p => p = r ∨ p = lr) s s' := fun k => k.mono fun _ _ z => .inl z
  -- statements of one line
  have one : ∀ {st : St} {s' : Sto} {b' : Nat}, p ≤ 9 → WS vs st → ll st = 1 → bd st = 0 → Kp (fun p => p = r) s s' → GB b' s' r nr lr vs a l → b' ≤ b + 100 → Q (dS st) s' := fun {st s' b'} h1 h2 h3 h4 h5 h6 h7 => by
    refine h s' st a l h2 (by omega) (by unfold nN; rw [if_pos h1]; omega) (kr h5) (h6.mono (by omega))
  refine br_dec (fun hp5 => ?_) (fun hp5 => ?_)
  · unfold b_law_whole_10
    walk_at "run"
    refine ⟨by decide, ?_⟩
    have hq1 := get_old (r := [Ob.lst [D.str [114, 101, 115, 116], D.str [114, 101, 116, 117, 114, 110], D.str [116, 104, 114, 111, 119], D.str [115, 97, 121], D.str [100, 111]]]) hq
    have hm' := hm (by omega)
    have : p = 0 ∨ p = 1 ∨ p = 2 ∨ p = 3 ∨ p = 4 := by omega
    rcases this with rfl | rfl | rfl | rfl | rfl
    · have : es = [] := List.length_eq_zero_iff.mp (by rw [hes, hm']; rfl)
      subst this
      exact ix_ref get_new (i := 0) atI_z ⟨by decide, tup_ref hq1 ⟨by simp [dEs]; omega, one (st := .rest) (by omega) trivial rfl rfl Kp.push g.push (by omega)⟩⟩
    · obtain ⟨e, rfl⟩ := len1 (es := es) (by rw [hes, hm']; rfl)
      exact ix_ref get_new (i := 1) atI_o ⟨by decide, tup_ref hq1 ⟨by simp [dEs]; omega, one (st := .one .ret e) (by omega) (heo e (by simp)) rfl rfl Kp.push g.push (by omega)⟩⟩
    · obtain ⟨e, rfl⟩ := len1 (es := es) (by rw [hes, hm']; rfl)
      exact ix_ref get_new (i := 2) atI_t ⟨by decide, tup_ref hq1 ⟨by simp [dEs]; omega, one (st := .one .throw e) (by omega) (heo e (by simp)) rfl rfl Kp.push g.push (by omega)⟩⟩
    · obtain ⟨e, rfl⟩ := len1 (es := es) (by rw [hes, hm']; rfl)
      exact ix_ref get_new (i := 3) atI_3 ⟨by decide, tup_ref hq1 ⟨by simp [dEs]; omega, one (st := .one .say e) (by omega) (heo e (by simp)) rfl rfl Kp.push g.push (by omega)⟩⟩
    · obtain ⟨e, rfl⟩ := len1 (es := es) (by rw [hes, hm']; rfl)
      exact ix_ref get_new (i := 4) (v := .str [100, 111]) rfl ⟨by decide, tup_ref hq1 ⟨by simp [dEs]; omega, one (st := .one .do_ e) (by omega) (heo e (by simp)) rfl rfl Kp.push g.push (by omega)⟩⟩
  unfold b_law_whole_1_1
  walk_at "run"
  refine br_dec (fun hp5 => ?_) (fun hp5' => ?_)
  · have : p = 5 := by omega
    subst this
    obtain ⟨e, rfl⟩ := len1 (es := es) (by rw [hes, hm (by omega)]; rfl)
    unfold b_law_whole_9
    walk_at "run"
    refine var_ok g.src (by omega) g.nms g.n1 fun s1 x hx k1 hs1 => ?_
    exact ix_ref (k1.get _ _ hqr hq) atI_z ⟨by decide, one (st := .set x e) (by omega) ⟨hx, heo e (by simp)⟩ rfl rfl k1 (g.dr k1 hs1) (by omega)⟩
  unfold b_law_whole_1_2
  walk_at "run"
  refine br_dec (fun hp6 => ?_) (fun hp6' => ?_)
  · have : p = 6 := by omega
    subst this
    obtain ⟨e, f, rfl⟩ := len2 (es := es) (by rw [hes, hm (by omega)]; rfl)
    unfold b_law_whole_8
    walk_at "run"
    exact ix_ref hq atI_z (ix_ref hq atI_o ⟨by decide, one (st := .push e f) (by omega) ⟨heo e (by simp), heo f (by simp)⟩ rfl rfl (Kp.refl _ _) g (by omega)⟩)
  unfold b_law_whole_1_3
  walk_at "run"
  refine br_dec (fun hp7 => ?_) (fun hp7' => ?_)
  · have : p = 7 := by omega
    subst this
    obtain ⟨e, f, rfl⟩ := len2 (es := es) (by rw [hes, hm (by omega)]; rfl)
    unfold b_law_whole_7
    walk_at "run"
    refine ix_ref hq atI_z (Lv_le (k := j + 3) (by omega) (pick_nm g.src (by omega) g.nms g.n1 fun s1 x hx k1 hs1 => ?_))
    exact ix_ref (k1.get _ _ hqr hq) atI_o ⟨by decide, one (st := .store e x f) (by omega) ⟨heo e (by simp), hx, heo f (by simp)⟩ rfl rfl k1 (g.dr k1 hs1) (by omega)⟩
  unfold b_law_whole_1_4
  walk_at "run"
  refine br_dec (fun hp8 => ?_) (fun hp8' => ?_)
  · have : p = 8 := by omega
    subst this
    obtain ⟨e, f, e3, rfl⟩ := len3 (es := es) (by rw [hes, hm (by omega)]; rfl)
    unfold b_law_whole_6
    walk_at "run"
    exact ix_ref hq atI_z (ix_ref hq atI_o (ix_ref hq atI_t ⟨by decide, one (st := .place e f e3) (by omega) ⟨heo e (by simp), heo f (by simp), heo e3 (by simp)⟩ rfl rfl (Kp.refl _ _) g (by omega)⟩))
  unfold b_law_whole_1_5
  walk_at "run"
  refine br_dec (fun hp9 => ?_) (fun hp9' => ?_)
  · have : p = 9 := by omega
    subst this
    unfold b_law_whole_5
    walk_at "run"
    refine Lv_le (k := j + 3) (by omega) (pick_nm g.src (by omega) g.nms g.n1 fun s1 x hx k1 hs1 => ?_)
    exact tup_ref (k1.get _ _ hqr hq) ⟨by decide, one (st := .go x es) (by omega) ⟨hx, by omega, heo⟩ rfl rfl k1 (g.dr k1 hs1) (by omega)⟩
  -- statements with blocks
  have hp10 : 9 < p := by omega
  obtain ⟨d', rfl⟩ : ∃ d', d = d' + 1 := ⟨d - 1, by have := hpd hp10; omega⟩
  have mk' : MakeB r nr lr vs d' (j + 2 * (d' + 1) + 16) := fun b a l s Q E h1 h2 h3 h4 => Lv_le (k := j + 2 * d' + 18) (by omega) (mk d' rfl b a l s Q E h1 h2 h3 h4)
  have hnl : l ≤ 36 := by unfold nN at hl; rw [if_neg (by omega)] at hl; split at hl <;> omega
  have hd1 : (((d' + 1 : Nat) : Int) - 1) = (d' : Int) := by omega
  unfold b_law_whole_1_6
  walk_at "run"
  rw [hd1]
  refine mk' b a l s _ _ g (by omega) (by omega) fun s1 one1 a1 l1 w1 w2 w3 k1 g1 => ?_
  have hq1 := k1.get _ _ (by omega) hq
  unfold b_law_whole_1_7
  walk_at "run"
  refine br_dec (fun hp11 => ?_) (fun hp11' => ?_)
  · have : p = 11 := by omega
    subst this
    obtain ⟨e, rfl⟩ := len1 (es := es) (by rw [hes, hm (by omega)]; rfl)
    unfold b_law_whole_4
    walk_at "run"
    exact ix_ref hq1 atI_z ⟨by decide, h s1 (.whl e one1) a1 l1 ⟨heo e (by simp), w1⟩ (by simp only [bd]; omega) (by simp only [ll]; show _ = l + 2; omega) k1 (g1.mono (by omega))⟩
  unfold b_law_whole_1_8
  walk_at "run"
  refine br_dec (fun hp12 => ?_) (fun hp12' => ?_)
  · have : p = 12 := by omega
    subst this
    unfold b_law_whole_3
    walk_at "run"
    refine var_ok g1.src (by omega) g1.nms g1.n1 fun s2 x hx k2 hs2 => ?_
    rw [hd1]
    refine mk' _ a1 l1 s2 _ _ (g1.dr k2 hs2) (by omega) (by omega) fun s3 two a3 l3 v1 v2 v3 k3 g3 => ?_
    exact ⟨by decide, h s3 (.try_ one1 x two) a3 l3 ⟨w1, hx, v1⟩ (by simp only [bd]; omega) (by simp only [ll]; show _ = l + 3; omega) (k1.trans ((k2.mono fun _ _ z => .inl z).trans k3)) (g3.mono (by omega))⟩
  have : p = 10 := by omega
  subst this
  obtain ⟨e, rfl⟩ := len1 (es := es) (by rw [hes, hm (by omega)]; rfl)
  have he := heo e (by simp)
  have last : ∀ (s2 : Sto) (two : List St) (a2 : Int) (l2 : Nat), WSs vs two → bds two ≤ d' → lls two + (if two = [] then 0 else 1) + l2 = l1 → Kp (fun p => p = r ∨ p = lr) s1 s2 → GB (b + 1 + 2 * Bk (d' + 1)) s2 r nr lr vs a2 l2 → xSs (Lv TT (j + 2 * (d' + 1) + 16)) b_law_whole_1_10 [some (.ref r), some (.ref lr), some (.int ((d' + 1 : Nat) : Int)), some (.ref nr), some (.int ((10 : Nat) : Int)), some (.ref q), some (.tup (dSs one1)), some (.tup (dSs two))] s2 { nx := fun σ s' => Q .non s', rt := Q, bk := fun σ s => False, ct := fun σ s => False, ex := fun c fs σ s' => E c fs s' } := fun s2 two a2 l2 v1 v2 v3 k2 g2 => by
    unfold b_law_whole_1_10
    walk_at "run"
    refine ix_ref (k2.get _ _ (by omega) hq1) atI_z ⟨by decide, h s2 (.ite e one1 two) a2 l2 ⟨he, w1, v1⟩ (by simp only [bd]; omega) ?_ (k1.trans k2) (g2.mono (by omega))⟩
    show _ = l + 2
    cases two with
    | nil => simp only [ll, lls] at v3 ⊢; simp at v3; omega
    | cons c cs => rw [if_neg (by simp)] at v3; simp only [ll, lls] at v3 ⊢; omega
  unfold b_law_whole_1_9
  walk_at "run"
  refine ⟨by decide, ?_⟩
  refine ix_ref g1.box atI_o ?_
  walk_at "run"
  refine br_dec (fun hl1 => ?_) (fun hl1 => ?_)
  · unfold b_law_whole_2
    walk_at "run"
    refine ix_ref g1.box atI_o ?_
    walk_at "run"
    refine set_ref g1.box (ixn_k (k := 1) (by simp)) ?_
    have g2 := g1.set (a' := a1) (l' := l1 - 1)
    have k2 : Kp (fun p => p = r ∨ p = lr) s1 (s1.set lr (.lst [.int a1, .int ((l1 - 1 : Nat) : Int)])) := Kp.set (.inr rfl)
    rw [show ([D.int a1, D.int (l1 : Int)].set 1 (D.int ((l1 : Int) - 1))) = [.int a1, .int ((l1 - 1 : Nat) : Int)] by rw [show (l1 : Int) - 1 = ((l1 - 1 : Nat) : Int) by omega]; rfl]
    generalize s1.set lr (.lst [.int a1, .int ((l1 - 1 : Nat) : Int)]) = s2 at g2 k2 ⊢
    walk_at "run"
    rw [hd1]
    refine mk' _ a1 (l1 - 1) s2 _ _ g2 (by omega) (by omega) fun s3 two a3 l3 v1 v2 v3 k3 g3 => ?_
    unfold b_law_whole_2_1
    walk_at "run"
    refine ix_ref g3.box atI_o ?_
    walk_at "run"
    refine ⟨by decide, ?_⟩
    have eqt : ∃ t : Nat, cmpD s3 .Eq (.tup (dSs two)) (.tup []) = some (decide (two = [])) ∧ t = (if two = [] then 1 else 0) := ⟨_, by
      cases two with
      | nil => rfl
      | cons c cs =>
        have hne := unit_ne (s := s3) (fun r => res_dSs (c :: cs)) (by
          show nobs 39 (dSs (c :: cs)) = true
          exact nobs_dS (vs := vs) _ 39 v1 (by omega)) (by simp [dSs])
        have hne2 : (eqD s3 (.tup (dSs (c :: cs))) (.tup [])).map (fun b => !b) = some true := hne
        show eqD s3 (.tup (dSs (c :: cs))) (.tup []) = some (decide ((c :: cs) = []))
        cases hq : eqD s3 (.tup (dSs (c :: cs))) (.tup []) with
        | none => rw [hq] at hne2; cases hne2
        | some b =>
          rw [hq] at hne2
          cases b with
          | true => cases hne2
          | false => rfl, rfl⟩
    obtain ⟨t, ht1, ht2⟩ := eqt
    rw [ht1]
    walk_at "run"
    refine set_ref g3.box (ixn_k (k := 1) (by simp)) ?_
    have ht3 : (if decide (two = []) = true then (1 : Int) else 0) = (t : Int) := by
      rw [ht2]
      by_cases z : two = []
      · rw [if_pos z, decide_eq_true z]; rfl
      · rw [if_neg z, decide_eq_false z]; rfl
    rw [ht3, show ([D.int a3, D.int (l3 : Int)].set 1 (D.int ((l3 : Int) + t))) = [.int a3, .int ((l3 + t : Nat) : Int)] by rw [show (l3 : Int) + t = ((l3 + t : Nat) : Int) by omega]; rfl]
    have g4 := g3.set (a' := a3) (l' := l3 + t)
    have k4 : Kp (fun p => p = r ∨ p = lr) s3 (s3.set lr (.lst [.int a3, .int ((l3 + t : Nat) : Int)])) := Kp.set (.inr rfl)
    refine last _ two a3 (l3 + t) v1 v2 ?_ (k2.trans (k3.trans k4)) (g4.mono (by omega))
    rw [ht2]
    by_cases z : two = []
    · subst z; simp only [lls] at v3 ⊢; simp; omega
    · rw [if_neg z, if_neg z]; omega
  · exact last s1 [] a1 l1 trivial (Nat.zero_le _) (by simp [lls]) (Kp.refl _ _) (g1.mono (by omega))
end
end K01

namespace K01
open PySem PX Tk Sx
theorem dSs_snoc {es : List St} {e : St} : dSs es ++ [dS e] = dSs (es ++ [e]) := by rw [dSs_map, dSs_map, List.map_append]; rfl
theorem WSs_snoc {vs : List Nm} {b : List St} {s : St} (h : WSs vs b) (h' : WS vs s) : WSs vs (b ++ [s]) := WSs_all.mpr fun x hx => by
  rcases List.mem_append.mp hx with hx | hx
  · exact WSs_all.mp h x hx
  · rw [List.mem_singleton.mp hx]; exact h'
theorem bds_snoc {b : List St} {s : St} {d : Nat} (h : bds b ≤ d) (h' : bd s ≤ d) : bds (b ++ [s]) ≤ d := bds_of fun x hx => by
  rcases List.mem_append.mp hx with hx | hx
  · exact bds_le h x hx
  · rw [List.mem_singleton.mp hx]; exact h'
theorem ov_at {p m : Nat} (hp : p ≤ 12) (hm : m ≤ 3) : ∃ o : Nat, L2.atI [D.int 1, D.int 1, D.int 1, D.int 1, D.int 0, D.int 2, D.int 2, D.int 3, D.int 3, D.int (3 + (if (m : Int) > 1 then (m : Int) else 1)), D.int 1, D.int 1, D.int 1] (p : Int) = some (.int o) ∧ o ≤ 10 := by
  have : ∃ y : Nat, (3 + (if (m : Int) > 1 then (m : Int) else 1)) = (y : Int) ∧ y ≤ 6 := by
    split
    · exact ⟨3 + m, by omega, by omega⟩
    · exact ⟨4, rfl, by decide⟩
  obtain ⟨y, e, hy⟩ := this
  rw [e]
  have : p = 0 ∨ p = 1 ∨ p = 2 ∨ p = 3 ∨ p = 4 ∨ p = 5 ∨ p = 6 ∨ p = 7 ∨ p = 8 ∨ p = 9 ∨ p = 10 ∨ p = 11 ∨ p = 12 := by omega
  rcases this with rfl | rfl | rfl | rfl | rfl | rfl | rfl | rfl | rfl | rfl | rfl | rfl | rfl
  · exact ⟨1, rfl, by decide⟩
  · exact ⟨1, rfl, by decide⟩
  · exact ⟨1, rfl, by decide⟩
  · exact ⟨1, rfl, by decide⟩
  · exact ⟨0, rfl, by decide⟩
  · exact ⟨2, rfl, by decide⟩
  · exact ⟨2, rfl, by decide⟩
  · exact ⟨3, rfl, by decide⟩
  · exact ⟨3, rfl, by decide⟩
  · exact ⟨y, rfl, by omega⟩
  · exact ⟨1, rfl, by decide⟩
  · exact ⟨1, rfl, by decide⟩
  · exact ⟨1, rfl, by decide⟩
theorem mN_at {p : Nat} (hp : p ≤ 12) : L2.atI [D.int 0, D.int 1, D.int 1, D.int 1, D.int 1, D.int 1, D.int 2, D.int 2, D.int 3, D.int 0, D.int 1, D.int 1, D.int 0] (p : Int) = some (.int (mN p)) ∧ mN p ≤ 3 := by
  have : p = 0 ∨ p = 1 ∨ p = 2 ∨ p = 3 ∨ p = 4 ∨ p = 5 ∨ p = 6 ∨ p = 7 ∨ p = 8 ∨ p = 9 ∨ p = 10 ∨ p = 11 ∨ p = 12 := by omega
  rcases this with rfl | rfl | rfl | rfl | rfl | rfl | rfl | rfl | rfl | rfl | rfl | rfl | rfl <;> exact ⟨rfl, by decide⟩
theorem in2 {s : Sto} {p a b : Nat} : cmpD s .In (.int (p : Int)) (.tup [.int (a : Int), .int (b : Int)]) = some (decide (p = a ∨ p = b)) := by
  show (if flatD (.int (p : Int)) && [D.int (a : Int), D.int (b : Int)].all flatD then some ([D.int (a : Int), D.int (b : Int)].any fun z => eqF z (.int (p : Int))) else none) = _
  have e1 : (flatD (.int (p : Int)) && [D.int (a : Int), D.int (b : Int)].all flatD) = true := rfl
  rw [e1, if_pos rfl]
  congr 1
  rw [Bool.eq_iff_iff, decide_eq_true_eq]
  simp only [List.any_cons, List.any_nil, Bool.or_false, Bool.or_eq_true, eqF, beq_iff_eq]
  omega
section
variable {j : Nat}
set_option maxHeartbeats 0 in
theorem block_ok2 {r nr lr : Nat} {vs : List Nm} : ∀ d, d ≤ 5 → MakeB r nr lr vs d (j + 2 * d + 18) := by
  intro d
  induction d using Nat.strongRecOn with
  | ind d ih =>
  intro hd5 b a l s Q E g hb hl38 h
  refine lv_in (fn := d_law_block.fn) rfl rfl ?_
  dsimp only [d_law_block, b_law_block_1]
  have e24 := size24
  have hB : Bk (d + 1) = 40 * (4000 + 2 * Bk d) + 10 := rfl
  have mk : ∀ d', d = d' + 1 → MakeB r nr lr vs d' (j + 2 * d' + 18) := fun d' e => ih d' (by omega) (by omega)
  walk_at "run"
  have g1 := g.push (t := [Ob.lst []])
  have k1 : Kp (fun _ => False) s (s ++ [Ob.lst []]) := Kp.push
  have h1 : (s ++ [Ob.lst []])[s.length]? = some (.lst (dSs [])) := get_new
  have l1 : (s ++ [Ob.lst []]).length = s.length + 1 := by simp
  generalize s ++ [Ob.lst []] = s1 at g1 k1 h1 l1 ⊢
  refine ⟨by decide, by decide, ?_⟩
  refine pick_ok hDraw g1.src (by omega) rfl (by simp) (by simp) fun x s2 hx k2 l2 hs2 => ?_
  have : ∃ n : Nat, x = .int n ∧ 0 < n ∧ n ≤ 39 := by
    simp only [List.mem_cons, List.not_mem_nil, or_false] at hx
    rcases hx with rfl | rfl | rfl | rfl
    · exact ⟨3, rfl, by decide, by decide⟩
    · exact ⟨4, rfl, by decide, by decide⟩
    · exact ⟨6, rfl, by decide, by decide⟩
    · exact ⟨39, rfl, by decide, by decide⟩
  obtain ⟨n, rfl, hn0, hn⟩ := this
  have g2 := g1.dr k2 hs2
  refine draw_kp hDraw g2.src (by omega) (div_nat hn0 (by omega)) fun t s3 t0 t1 k3 l3 hs3 => ?_
  obtain ⟨t, rfl⟩ := Int.eq_ofNat_of_zero_le t0
  have g3 := g2.dr k3 hs3
  have k13 : Kp (fun p => p = r) s1 s3 := k2.trans k3
  obtain ⟨q1, q2, q3⟩ := g.lt
  have h3 := k13.get _ _ (by omega) h1
  refine ⟨⟨by decide, by decide, by omega, by omega⟩, ?_⟩
  refine for_at (I := fun i σ s' => ∃ (blk : List St) (a' : Int) (l' : Nat) (v5 v6 v7 v8 v9 v10 : Option D), σ = [some (.ref r), some (.ref lr), some (.int d), some (.ref nr), some (.ref s.length), v5, v6, v7, v8, v9, v10] ∧ WSs vs blk ∧ bds blk ≤ d ∧ lls blk + l' = l ∧ s'[s.length]? = some (.lst (dSs blk)) ∧ Kp (fun p => p = r ∨ p = lr ∨ p = s.length) s3 s' ∧ GB (b + 2 + i * (4000 + 2 * Bk d)) s' r nr lr vs a' l') ⟨[], a, l, _, _, _, _, _, _, rfl, trivial, Nat.zero_le _, by simp [lls], h3, Kp.refl _ _, g3.mono (by omega)⟩ ?_ ?_
  · rintro i it σ s4 N' hit ⟨blk, a', l', v5, v6, v7, v8, v9, v10, rfl, w1, w2, w3, h4, k4, g4⟩ hN
    obtain ⟨hi, rfl⟩ := rngN_of hit
    refine ⟨trivial, ?_⟩
    have hbi : b + 2 + i * (4000 + 2 * Bk d) + (4000 + 2 * Bk d) ≤ b + Bk (d + 1) := by
      rw [hB]
      have : i * (4000 + 2 * Bk d) + (4000 + 2 * Bk d) ≤ 40 * (4000 + 2 * Bk d) := by
        have : (i + 1) * (4000 + 2 * Bk d) ≤ 40 * (4000 + 2 * Bk d) := Nat.mul_le_mul_right _ (by omega)
        rw [Nat.add_mul, Nat.one_mul] at this
        exact this
      omega
    have hnx : b + 2 + (i + 1) * (4000 + 2 * Bk d) = b + 2 + i * (4000 + 2 * Bk d) + (4000 + 2 * Bk d) := by rw [Nat.add_mul, Nat.one_mul]; omega
    generalize hbb : b + 2 + i * (4000 + 2 * Bk d) = bb at g4 hbi hnx
    obtain ⟨r4, nr4, lr4⟩ := g4.lt
    have sl4 := lt_of_get h4
    -- a turn ends
    have done : ∀ {blk' : List St} {a' : Int} {l' : Nat} {v5 v6 v7 v8 v9 v10 : Option D} {s' : Sto} {b' : Nat}, WSs vs blk' → bds blk' ≤ d → lls blk' + l' = l → s'[s.length]? = some (.lst (dSs blk')) → Kp (fun p => p = r ∨ p = lr ∨ p = s.length) s4 s' → GB b' s' r nr lr vs a' l' → b' ≤ bb + 4000 + 2 * Bk d → N'.nx [some (.ref r), some (.ref lr), some (.int d), some (.ref nr), some (.ref s.length), v5, v6, v7, v8, v9, v10] s' := fun {blk' a' l' v5 v6 v7 v8 v9 v10 s' b'} e1 e2 e3 e4 e5 e6 e7 => hN.nx _ _ ⟨blk', a', l', _, _, _, _, _, _, rfl, e1, e2, e3, e4, k4.trans e5, by rw [hnx]; exact e6.mono (by omega)⟩
    -- what the pick wants is known
    have rest : ∀ (p m u : Nat) (s5 : Sto) (nd' : Nat) (v9 v10 : Option D), p ≤ 12 → (p ≠ 9 → m = mN p) → m ≤ 3 → (9 < p → 1 ≤ d) → (p ≤ 9 ∨ nN p ≤ l') → s5[u]? = some (.lst [.int nd', .int (nN p)]) → s4.length ≤ u → Kp (fun p => p = r) s4 s5 → GB (bb + 2) s5 r nr lr vs a' l' → xSs (Lv TT (j + 2 * d + 17)) b_law_block_2_3 [some (.ref r), some (.ref lr), some (.int d), some (.ref nr), some (.ref s.length), some (.int i), some (.int p), some (.int m), some (.ref u), v9, v10] s5 N' := fun p m u s5 nd' v9 v10 hp hm hm3 hpd hnl hu hul k5 g5 => by
      have h5 := k5.get _ _ (by omega) h4
      have k5' : Kp (fun p => p = r ∨ p = lr ∨ p = s.length) s4 s5 := k5.mono fun _ _ z => .inl z
      have skip : N'.nx [some (.ref r), some (.ref lr), some (.int d), some (.ref nr), some (.ref s.length), some (.int i), some (.int p), some (.int m), some (.ref u), v9, v10] s5 := done w1 w2 w3 h5 k5' g5 (by omega)
      unfold b_law_block_2_3
      walk_at "run"
      refine ix_ref g5.box atI_z ?_
      walk_at "run"
      refine br_dec (fun ha => ?_) (fun z => br_no z skip)
      refine ix_ref g5.box atI_o ?_
      walk_at "run"
      refine br_dec (fun hl0 => ?_) (fun _ => skip)
      have hnp : nN p ≤ l' := by
        rcases hnl with z | z
        · unfold nN; rw [if_pos z]; omega
        · exact z
      have hn1 : 1 ≤ nN p := by
        unfold nN
        repeat' split
        all_goals omega
      unfold b_law_block_3
      walk_at "run"
      refine ix_ref g5.box atI_z (ix_ref hu atI_z ?_)
      walk_at "run"
      refine set_ref g5.box (ixn_z (by simp)) ?_
      have g6 := g5.set (a' := a' - nd') (l' := l')
      have k6 : Kp (fun p => p = lr) s5 (s5.set lr (.lst [.int (a' - nd'), .int l'])) := Kp.set rfl
      rw [show ([D.int a', D.int (l' : Int)].set 0 (D.int (a' - nd'))) = [.int (a' - nd'), .int l'] from rfl]
      have hu6 := get_ne (o' := .lst [.int (a' - nd'), .int (l' : Int)]) hu (show u ≠ lr by omega)
      generalize s5.set lr (.lst [.int (a' - nd'), .int l']) = s6 at g6 k6 hu6 ⊢
      walk_at "run"
      refine ix_ref g6.box atI_o (ix_ref hu6 atI_o ?_)
      walk_at "run"
      refine set_ref g6.box (ixn_k (k := 1) (by simp)) ?_
      have g7 := g6.set (a' := a' - nd') (l' := l' - nN p)
      have k7 : Kp (fun p => p = lr) s6 (s6.set lr (.lst [.int (a' - nd'), .int ((l' - nN p : Nat) : Int)])) := Kp.set rfl
      rw [show ([D.int (a' - nd'), D.int (l' : Int)].set 1 (D.int ((l' : Int) - (nN p : Nat)))) = [.int (a' - nd'), .int ((l' - nN p : Nat) : Int)] by rw [show (l' : Int) - (nN p : Nat) = ((l' - nN p : Nat) : Int) by omega]; rfl]
      generalize s6.set lr (.lst [.int (a' - nd'), .int ((l' - nN p : Nat) : Int)]) = s7 at g7 k7 ⊢
      walk_at "run"
      refine ⟨by decide, ?_⟩
      obtain ⟨o, ho1, ho2⟩ := ov_at (p := p) (m := m) hp hm3
      refine ix_ref get_new ho1 ?_
      have k78 : Kp (fun _ => False) s7 (s7 ++ [Ob.lst [D.int 1, D.int 1, D.int 1, D.int 1, D.int 0, D.int 2, D.int 2, D.int 3, D.int 3, D.int (3 + (if (m : Int) > 1 then (m : Int) else 1)), D.int 1, D.int 1, D.int 1]]) := Kp.push
      have g8 := g7.kp k78 id id id
      generalize s7 ++ [Ob.lst [D.int 1, D.int 1, D.int 1, D.int 1, D.int 0, D.int 2, D.int 2, D.int 3, D.int 3, D.int (3 + (if (m : Int) > 1 then (m : Int) else 1)), D.int 1, D.int 1, D.int 1]] = s8 at k78 g8 ⊢
      walk_at "run"
      refine ⟨by decide, ?_⟩
      rw [show cmpD s8 .In (.int (p : Int)) (.tup [.int 7, .int 8]) = some (decide (p = 7 ∨ p = 8)) from in2 (a := 7) (b := 8)]
      walk_at "run"
      obtain ⟨pl, hpl, hpl4⟩ : ∃ pl : Nat, (4 : Int) * (if decide (p = 7 ∨ p = 8) = true then 1 else 0) = pl ∧ pl ≤ 4 := by
        by_cases c : p = 7 ∨ p = 8
        · rw [decide_eq_true c, if_pos rfl]; exact ⟨4, rfl, by decide⟩
        · rw [decide_eq_false c, if_neg (by decide)]; exact ⟨0, rfl, by decide⟩
      rw [hpl]
      refine ⟨mul_small (by decide) (by decide) (by split <;> decide) (by split <;> decide), ?_⟩
      have kA : Kp (fun p => p = r ∨ p = lr) s4 s8 := (k5.mono fun _ _ z => .inl z).trans ((k6.trans k7).mono (fun _ _ z => .inr z) |>.trans k78.none)
      refine Lv_le (k := j + 16) (by omega) (mkes_ok g8.src (by omega) g8.nms g8.box g8.n1 g8.n2 g8.n3 hm3 hpl4 ho2 fun s9 q es a9 e1 e2 k9 hs9 hb9 hq9 hql => ?_)
      have g9 : GB (bb + 2 + 3000) s9 r nr lr vs a9 (l' - nN p) := ⟨hs9, g8.nms.kp k9 (by have := g8.n1; have := g8.n3; omega), hb9, g8.n1, g8.n2, g8.n3⟩
      have k49 := kA.trans k9
      have h9 := k49.get _ _ (by omega) h4
      unfold b_law_block_3_1
      walk_at "run"
      have l48 := kA.len
      refine ⟨mty_ref h9 rfl, ?_⟩
      refine whole_ok hd5 mk g9 (by omega) hp hm hm3 hpd (by omega) hq9 (by omega) (by omega) e1 e2 fun s10 st a10 l10 f1 f2 f3 k10 g10 => ?_
      have k410 := k49.trans k10
      have h10 := k10.get _ _ (by omega) h9
      have hbl := lls_len blk
      refine app_ref h10 (by rw [dSs_len]; omega) ?_
      rw [dSs_snoc]
      refine done (blk' := blk ++ [st]) (WSs_snoc w1 f1) (bds_snoc w2 f2) (by rw [lls_app]; simp only [lls]; omega) (get_set h10) ((k410.mono fun p _ z => z.elim .inl fun z => .inr (.inl z)).trans (Kp.set (.inr (.inr rfl)))) (g10.kp (R := fun p => p = s.length) (Kp.set rfl) (by omega) (by omega) (by omega)) (by omega)
    unfold b_law_block_2
    walk_at "run"
    refine draw_kp hDraw g4.src (by omega) (dv 13) fun p s5 p0 p1 k5 l5 hs5 => ?_
    obtain ⟨p, rfl⟩ := Int.eq_ofNat_of_zero_le p0
    have g5 := g4.dr k5 hs5
    unfold b_law_block_2_1
    walk_at "run"
    refine ⟨by decide, ?_⟩
    obtain ⟨m1, m2⟩ := mN_at (p := p) (by omega)
    refine ix_ref get_new m1 ?_
    have k56 : Kp (fun _ => False) s5 (s5 ++ [Ob.lst [D.int 0, D.int 1, D.int 1, D.int 1, D.int 1, D.int 1, D.int 2, D.int 2, D.int 3, D.int 0, D.int 1, D.int 1, D.int 0]]) := Kp.push
    have g6 := g5.kp k56 id id id
    generalize s5 ++ [Ob.lst [D.int 0, D.int 1, D.int 1, D.int 1, D.int 1, D.int 1, D.int 2, D.int 2, D.int 3, D.int 0, D.int 1, D.int 1, D.int 0]] = s6 at k56 g6 ⊢
    walk_at "run"
    -- the number of expressions is known
    have two : ∀ (m : Nat) (s7 : Sto), (p ≠ 9 → m = mN p) → m ≤ 3 → Kp (fun p => p = r) s4 s7 → GB (bb + 2) s7 r nr lr vs a' l' → xSs (Lv TT (j + 2 * d + 17)) b_law_block_2_2 [some (.ref r), some (.ref lr), some (.int d), some (.ref nr), some (.ref s.length), some (.int i), some (.int p), some (.int m), v8, v9, v10] s7 N' := fun m s7 hm hm3 k7 g7 => by
      unfold b_law_block_2_2
      walk_at "run"
      refine ⟨by decide, ?_⟩
      rw [show cmpD s7 .In (.int (p : Int)) (.tup [.int 10, .int 11]) = some (decide (p = 10 ∨ p = 11)) from in2 (a := 10) (b := 11)]
      walk_at "run"
      refine ⟨by decide, ?_⟩
      have hnn : L2.atI [D.int 1, D.int 2, D.int 3] ((if decide ((9 : Int) < p) = true then 1 else 0) + (if decide ((11 : Int) < p) = true then 1 else 0)) = some (.int (nN p)) := by
        unfold nN
        by_cases c1 : p ≤ 9
        · rw [if_pos c1, decide_eq_false (show ¬ (9 : Int) < p by omega), decide_eq_false (show ¬ (11 : Int) < p by omega)]; rfl
        · by_cases c2 : p ≤ 11
          · rw [if_neg c1, if_pos c2, decide_eq_true (show (9 : Int) < p by omega), decide_eq_false (show ¬ (11 : Int) < p by omega)]; rfl
          · rw [if_neg c1, if_neg c2, decide_eq_true (show (9 : Int) < p by omega), decide_eq_true (show (11 : Int) < p by omega)]; rfl
      refine ix_ref get_new hnn ?_
      have k78 : Kp (fun _ => False) s7 (s7 ++ [Ob.lst [D.int 1, D.int 2, D.int 3]]) := Kp.push
      have g8 := g7.kp k78 id id id
      generalize s7 ++ [Ob.lst [D.int 1, D.int 2, D.int 3]] = s8 at k78 g8 ⊢
      walk_at "run"
      obtain ⟨n0, hn0⟩ : ∃ n0 : Nat, (1 : Int) + (if decide (p = 10 ∨ p = 11) = true then 1 else 0) = n0 := by
        split
        · exact ⟨2, rfl⟩
        · exact ⟨1, rfl⟩
      rw [hn0]
      refine ⟨by decide, ?_⟩
      have k89 : Kp (fun _ => False) s8 (s8 ++ [Ob.lst [D.int n0, D.int (nN p)]]) := Kp.push
      have hu : (s8 ++ [Ob.lst [D.int n0, D.int (nN p)]])[s8.length]? = some (.lst [.int n0, .int (nN p)]) := get_new
      have g9 := g8.kp k89 id id id
      have l89 : (s8 ++ [Ob.lst [D.int n0, D.int (nN p)]]).length = s8.length + 1 := by simp
      generalize s8 ++ [Ob.lst [D.int n0, D.int (nN p)]] = s9 at k89 hu g9 l89 ⊢
      have kB : Kp (fun p => p = r) s4 s9 := k7.trans (k78.none.trans k89.none)
      have hl8 : s4.length ≤ s8.length := by have := (k7.trans k78.none).len; omega
      -- too little is left
      have plain : xSs (Lv TT (j + 2 * d + 17)) b_law_block_4 [some (.ref r), some (.ref lr), some (.int d), some (.ref nr), some (.ref s.length), some (.int i), some (.int p), some (.int m), some (.ref s8.length), v9, v10] s9 { nx := fun σ s => xSs (Lv TT (j + 2 * d + 17)) b_law_block_2_3 σ s N', rt := N'.rt, bk := N'.bk, ct := N'.ct, ex := N'.ex } := by
        unfold b_law_block_4
        walk_at "run"
        refine ⟨by decide, ?_⟩
        exact rest 0 0 s9.length _ 1 _ _ (by decide) (fun _ => rfl) (by decide) (fun z => by omega) (.inl (by decide)) get_new (by omega) (kB.trans Kp.push) g9.push
      walk_at "run"
      refine ix_ref g9.box atI_z (ix_ref hu atI_z ?_)
      walk_at "run"
      refine br_dec (fun _ => br_yes ‹_› plain) (fun _ => ?_)
      refine ix_ref g9.box atI_o (ix_ref hu atI_o ?_)
      walk_at "run"
      have rx := rest p m s8.length s9 n0 v9 v10 (by omega) hm hm3
      refine br_dec (fun _ => br_yes ‹_› plain) (fun hl9 => ?_)
      by_cases c9 : 9 < p
      · refine br_yes (by omega) ?_
        refine br_dec (fun _ => plain) (fun hd1 => ?_)
        exact rx (fun _ => by omega) (.inr (by omega)) hu hl8 kB g9
      · refine br_no (by omega) ?_
        refine br_no (by omega) ?_
        exact rx (fun z => by omega) (.inl (by omega)) hu hl8 kB g9
    refine br_dec (fun h9 => ?_) (fun h9 => ?_)
    · unfold b_law_block_5
      walk_at "run"
      refine draw_kp hDraw g6.src (by omega) (dv 4) fun m s7 m0 m1' k7 l7 hs7 => ?_
      obtain ⟨m, rfl⟩ := Int.eq_ofNat_of_zero_le m0
      exact two m s7 (fun z => absurd (by omega) z) (by omega) (k5.trans (k56.none.trans k7)) (g6.dr k7 hs7)
    · exact two (mN p) s6 (fun _ => rfl) m2 (k5.trans k56.none) (g6.mono (by omega))
  · rintro σ s4 ⟨blk, a', l', v5, v6, v7, v8, v9, v10, rfl, w1, w2, w3, h4, k4, g4⟩
    rw [rngN_len] at g4
    refine ⟨trivial, ?_⟩
    unfold b_law_block_1_1
    walk_at "run"
    refine tup_ref h4 (h s4 blk a' l' w1 w2 w3 ?_ (g4.mono ?_))
    · exact (k1.none.trans ((k13.mono fun _ _ z => .inl z).trans k4)).mono fun p hp z => z.elim .inl fun z => z.elim .inr fun z => absurd z (by omega)
    · rw [hB]
      have : t * (4000 + 2 * Bk d) ≤ 39 * (4000 + 2 * Bk d) := Nat.mul_le_mul_right _ (by omega)
      omega
end
end K01

namespace K01
open PySem PX Tk Sx
theorem nin_ref {s : Sto} {n : Nat} {w : List Nat} {l : List (List Nat)} (hs : s[n]? = some (.lst (l.map .str))) : cmpD s .NotIn (.str w) (.ref n) = some (!decide (w ∈ l)) := by
  have h := in_strs (s := s) (w := w) (l := l)
  have e : inD s (.str w) (.ref n) = inD s (.str w) (.tup (l.map .str)) := by
    simp only [inD, dicOf, hs, inS, seqOf]
  show (inD s (.str w) (.ref n)).map _ = _
  rw [e, h]
  rfl
theorem sl_to {s : Sto} {n : Nat} {xs : List D} {i : Int} {p : Nat} {Q : QE} (hs : s[n]? = some (.lst xs)) (h0 : 0 ≤ i) (h : Q (.ref s.length) (s ++ [.lst (xs.take i.toNat)])) : xSl (.ref n) (.kd p) (.int i) s Q := by
  simp only [xSl, partD, hs, cut_to h0]
  exact h
theorem ins_ref {s : Sto} {n i : Nat} {xs : List D} {v : D} {Q : QE} (hs : s[n]? = some (.lst xs)) (hl : xs.length < sizeLine) (hi : i < 1000000) (h : Q .non (s.set n (.lst (xs.take i ++ [v] ++ xs.drop i)))) : xMeth .insert (.ref n) [.int i, v] s Q := by
  simp only [xMeth, hs]
  refine ⟨⟨hl, by omega, by omega⟩, ?_⟩
  rw [Int.toNat_natCast]
  exact h
theorem atI_last {α : Type} {xs : List α} {n : Nat} (hl : xs.length = n) (h0 : 0 < n) : L2.atI xs (-1) = xs[n - 1]? := by
  unfold L2.atI L2.ixN
  rw [if_neg (by decide), if_pos (by omega)]
  show xs[((xs.length : Int) + -1).toNat]? = _
  congr 1
  omega
section
variable {j : Nat}
set_option maxHeartbeats 0 in
theorem fun_ok {b r lnr N : Nat} {w : Nm} {s : Sto} {Q : QE} {E : XQ} (hs : Src b s r) (hb : b < 2 ^ 55) (hln : s[lnr]? = some (.lst [.int N])) (hne : lnr ≠ r) (hN : N ≤ 1000) (hw : Name w)
    (h : ∀ s' f N', f.name = w → WF f → N' ≤ 1000 → Kp (fun p => p = r ∨ p = lnr) s s' → Src (b + 1000 + Bk 6) s' r → s'[lnr]? = some (.lst [.int (N' : Nat)]) → Q (dF f) s') : Lv TT (j + 29) i_law_fun [.ref r, .str w, .ref lnr] s Q E := by
  refine lv_in (fn := d_law_fun.fn) rfl rfl ?_
  dsimp only [d_law_fun, b_law_fun_1]
  have e24 := size24
  have hB6 := Bk_small 6 (by decide)
  have hll := lt_of_get hln
  have hrl := hs.lt
  walk_at "run"
  refine Lv_le (k := j + 2) (by omega) (name_ok hs (by omega) fun s1 x hx k1 hs1 => ?_)
  refine ⟨by decide, ?_⟩
  have n1 : (s1 ++ [Ob.lst [D.str x]])[s1.length]? = some (.lst ([x].map .str)) := get_new
  have k01 : Kp (fun p => p = r) s (s1 ++ [Ob.lst [D.str x]]) := k1.trans Kp.push
  have hs1' : Src (b + 12) (s1 ++ [Ob.lst [D.str x]]) r := hs1.push
  have hl1 := k1.len
  generalize hnr : s1.length = nr at n1 hl1 ⊢
  generalize s1 ++ [Ob.lst [D.str x]] = s2 at n1 k01 hs1' ⊢
  unfold b_law_fun_1_1
  walk_at "run"
  refine draw_kp hDraw hs1' (by omega) (dv 8) fun u s3 u0 u1 k3 l3 hs3 => ?_
  refine ⟨by decide, ?_⟩
  refine pick_ok hDraw hs3 (by omega) rfl (by simp) (by simp) fun y s4 hy k4 l4 hs4 => ?_
  have : ∃ n : Nat, y = .int n ∧ n ≤ 7 := by
    simp only [List.mem_cons, List.not_mem_nil, or_false] at hy
    rcases hy with rfl | rfl | rfl | rfl | rfl | rfl
    · exact ⟨0, rfl, by decide⟩
    · exact ⟨1, rfl, by decide⟩
    · exact ⟨2, rfl, by decide⟩
    · exact ⟨3, rfl, by decide⟩
    · exact ⟨4, rfl, by decide⟩
    · exact ⟨u.toNat, by rw [Int.toNat_of_nonneg u0], by omega⟩
  obtain ⟨n, rfl, hn⟩ := this
  have k24 := k3.trans k4
  have n4 := k24.get _ _ (by omega) n1
  walk_at "run"
  refine ⟨⟨by decide, by decide, by omega, by omega⟩, ?_⟩
  refine for_at (I := fun i σ s' => ∃ (vs : List Nm) (v4 v5 : Option D), σ = [some (.ref r), some (.str w), some (.ref lnr), some (.ref nr), v4, v5, none, none, none] ∧ 0 < vs.length ∧ vs.length ≤ 1 + i ∧ (∀ x ∈ vs, Name x) ∧ s'[nr]? = some (.lst (vs.map .str)) ∧ Kp (fun p => p = r ∨ p = nr) s4 s' ∧ Src (b + 20 + 12 * i) s' r) ⟨[x], _, _, rfl, by simp, by simp, fun z hz => by rw [List.mem_singleton.mp hz]; exact hx, n4, Kp.refl _ _, hs4.mono (by omega)⟩ ?_ ?_
  · rintro i it σ s5 N' hit ⟨vs, v4, v5, rfl, p1, p2, p3, n5, k5, hs5⟩ hNN
    obtain ⟨hi, rfl⟩ := rngN_of hit
    refine ⟨trivial, ?_⟩
    unfold b_law_fun_2
    walk_at "run"
    refine Lv_le (k := j + 2) (by omega) (name_ok hs5 (by omega) fun s6 z hz k6 hs6 => ?_)
    have n6 := k6.get _ _ (by omega) n5
    unfold b_law_fun_2_1
    walk_at "run"
    rw [nin_ref n6]
    refine br_ndec (fun hni => ?_) (fun hin => ?_)
    · unfold b_law_fun_3
      walk_at "run"
      refine ⟨mty_ref n6 rfl, app_ref n6 (by rw [List.length_map]; omega) ?_⟩
      refine hNN.nx _ _ ⟨vs ++ [z], _, _, rfl, by simp, by rw [List.length_append, List.length_singleton]; omega, fun t ht => ?_, by rw [get_set n6, List.map_append]; rfl, (k5.trans (k6.mono fun _ _ z => .inl z)).trans (Kp.set (.inr rfl)), (hs6.kp (R := fun p => p = nr) (Kp.set rfl) (by omega)).mono (by omega)⟩
      rcases List.mem_append.mp ht with ht | ht
      · exact p3 t ht
      · rw [List.mem_singleton.mp ht]; exact hz
    · exact hNN.nx _ _ ⟨vs, _, _, rfl, p1, by omega, p3, n6, k5.trans (k6.mono fun _ _ z => .inl z), hs6.mono (by omega)⟩
  rintro σ s5 ⟨vs, v4, v5, rfl, p1, p2, p3, n5, k5, hs5⟩
  rw [rngN_len] at p2 hs5
  refine ⟨trivial, ?_⟩
  unfold b_law_fun_1_2
  walk_at "run"
  refine ⟨rfl, len_ref n5 ?_⟩
  rw [List.length_map]
  walk_at "run"
  obtain ⟨M, hM, hM5⟩ : ∃ M : Nat, (if (vs.length : Int) < 5 then (vs.length : Int) else 5) + 1 = M ∧ 1 ≤ M ∧ M ≤ 6 := by
    split
    · exact ⟨vs.length + 1, by omega, by omega, by omega⟩
    · exact ⟨6, rfl, by decide, by decide⟩
  rw [hM]
  refine draw_kp hDraw hs5 (by omega) (dv M ⟨by omega, by omega⟩) fun g s6 g0 g1 k6 l6 hs6 => ?_
  obtain ⟨g, rfl⟩ := Int.eq_ofNat_of_zero_le g0
  have n6 := k6.get _ _ (by omega) n5
  refine ⟨rfl, sl_to n6 g0 ?_⟩
  refine tup_ref get_new ?_
  rw [Int.toNat_natCast]
  have k67 : Kp (fun _ => False) s6 (s6 ++ [Ob.lst ((vs.map D.str).take g)]) := Kp.push
  generalize s6 ++ [Ob.lst ((vs.map D.str).take g)] = s7 at k67 ⊢
  have n7 := k67.get _ _ id n6
  have hs7 := hs6.kp k67 id
  have k27 : Kp (fun p => p = r ∨ p = nr) s2 s7 := (k24.mono fun _ _ z => .inl z).trans (k5.trans ((k6.mono fun _ _ z => .inl z).trans k67.none))
  have k07 : Kp (fun p => p = r) s s7 := ((k01.mono (r' := fun p => p = r ∨ p = nr) fun _ _ z => .inl z).trans k27).mono fun p hp z => z.resolve_right (by omega)
  unfold b_law_fun_1_3
  walk_at "run"
  have ln7 := k07.get _ _ hne hln
  refine ix_ref ln7 atI_z ?_
  refine ⟨by decide, ?_⟩
  refine pick_ok hDraw hs7 (by omega) rfl (by simp) (by simp) fun y s8 hy k8 l8 hs8 => ?_
  have : ∃ c : Nat, y = .int c ∧ c ≤ 38 := by
    simp only [List.mem_cons, List.not_mem_nil, or_false] at hy
    rcases hy with rfl | rfl | rfl | rfl | rfl | rfl | rfl | rfl | rfl | rfl | rfl | rfl
    · exact ⟨1, rfl, by decide⟩
    · exact ⟨1, rfl, by decide⟩
    · exact ⟨2, rfl, by decide⟩
    · exact ⟨2, rfl, by decide⟩
    · exact ⟨3, rfl, by decide⟩
    · exact ⟨3, rfl, by decide⟩
    · exact ⟨4, rfl, by decide⟩
    · exact ⟨4, rfl, by decide⟩
    · exact ⟨6, rfl, by decide⟩
    · exact ⟨6, rfl, by decide⟩
    · exact ⟨8, rfl, by decide⟩
    · exact ⟨38, rfl, by decide⟩
  obtain ⟨c, rfl, hc⟩ := this
  walk_at "run"
  obtain ⟨l0, hl0, hl1', hl2'⟩ : ∃ l0 : Nat, (if (c : Int) < (N : Int) then (c : Int) else (N : Int)) = l0 ∧ l0 ≤ 38 ∧ l0 ≤ N := by
    by_cases z : (c : Int) < N
    · rw [if_pos z]; exact ⟨c, rfl, hc, by omega⟩
    · rw [if_neg z]; exact ⟨N, rfl, by omega, Nat.le_refl _⟩
  rw [hl0]
  refine ⟨by decide, ?_⟩
  have b9 : (s8 ++ [Ob.lst [D.int 158, D.int l0]])[s8.length]? = some (.lst [.int 158, .int l0]) := get_new
  have k89 : Kp (fun _ => False) s8 (s8 ++ [Ob.lst [D.int 158, D.int l0]]) := Kp.push
  have k09 : Kp (fun p => p = r) s (s8 ++ [Ob.lst [D.int 158, D.int l0]]) := k07.trans (k8.trans k89.none)
  have hl8 := (k07.trans k8).len
  have n9 := k89.get _ _ id (k8.get _ _ (by omega) n7)
  have hs9 := hs8.kp k89 id
  have l89 : (s8 ++ [Ob.lst [D.int 158, D.int l0]]).length = s8.length + 1 := by simp
  have hnr8 : nr < s8.length := lt_of_get (k8.get _ _ (by omega) n7)
  generalize hlr : s8.length = lr at b9 l89 hl8 hnr8 ⊢
  generalize s8 ++ [Ob.lst [D.int 158, D.int l0]] = s9 at b9 k89 k09 n9 hs9 l89 ⊢
  unfold b_law_fun_1_4
  walk_at "run"
  have ln9 := k09.get _ _ hne hln
  refine ix_ref ln9 atI_z (ix_ref b9 atI_o ?_)
  walk_at "run"
  refine set_ref ln9 (ixn_z (by simp)) ?_
  rw [show ([D.int (N : Int)].set 0 (D.int ((N : Int) - l0))) = [.int ((N - l0 : Nat) : Int)] by rw [show (N : Int) - l0 = ((N - l0 : Nat) : Int) by omega]; rfl]
  have k910 : Kp (fun p => p = lnr) s9 (s9.set lnr (.lst [.int ((N - l0 : Nat) : Int)])) := Kp.set rfl
  have ln10 := get_set (o' := .lst [D.int ((N - l0 : Nat) : Int)]) ln9
  generalize s9.set lnr (.lst [.int ((N - l0 : Nat) : Int)]) = s10 at k910 ln10 ⊢
  have gb : GB (b + 20 + 12 * n + 1 + 1) s10 r nr lr vs 158 l0 := ⟨hs9.kp k910 (by omega), ⟨k910.get _ _ (by omega) n9, p3, p1, by omega⟩, k910.get _ _ (by omega) b9, by omega, by omega, by omega⟩
  walk_at "run"
  refine Lv_le (k := j + 2 * 5 + 18) (by omega) (block_ok2 5 (by decide) _ 158 l0 s10 _ _ gb (by show _ + Bk 6 < _; omega) hl1' fun s11 blk a' l' w1 w2 w3 k11 g11 => ?_)
  unfold b_law_fun_1_5
  walk_at "run"
  have ln11 := k11.get _ _ (by omega) ln10
  refine ix_ref ln11 atI_z (ix_ref g11.box atI_o ?_)
  walk_at "run"
  refine set_ref ln11 (ixn_z (by simp)) ?_
  rw [show ([D.int ((N - l0 : Nat) : Int)].set 0 (D.int (((N - l0 : Nat) : Int) + l'))) = [.int ((N - l0 + l' : Nat) : Int)] by rw [show ((N - l0 : Nat) : Int) + l' = ((N - l0 + l' : Nat) : Int) by omega]; rfl]
  have hps : (vs.map D.str).take g = (vs.take g).map .str := by rw [List.map_take]
  rw [hps]
  refine ⟨by decide, h _ ⟨w, vs.take g, blk⟩ (N - l0 + l') rfl ⟨hw, ⟨vs, p3, w1⟩, ⟨by show (vs.take g).length ≤ 5; rw [List.length_take]; omega, fun z hz => p3 z (List.mem_of_mem_take hz)⟩, by show bds blk ≤ 6; omega, by show lls blk ≤ 38; omega⟩ (by omega) ?_ ?_ (get_set ln11)⟩
  · have : Kp (fun p => p = r ∨ p = lnr ∨ p = lr) s s11 := (k09.mono fun _ _ z => .inl z).trans ((k910.mono fun _ _ z => .inr (.inl z)).trans (k11.mono fun _ _ z => z.elim .inl fun z => .inr (.inr z)))
    exact (this.mono (r' := fun p => p = r ∨ p = lnr) fun p hp z => z.elim .inl fun z => z.elim .inr fun z => absurd z (by omega)).trans (Kp.set (.inr rfl))
  · refine (g11.src.kp (R := fun p => p = lnr) (Kp.set rfl) (by omega)).mono ?_
    show _ + Bk 6 ≤ _
    omega
set_option maxHeartbeats 0 in
theorem prog_ok {b r : Nat} {s : Sto} {Q : QE} {E : XQ} (hs : Src b s r) (hb : b < 100)
    (h : ∀ (s' : Sto) (fs : List Fu), 0 < fs.length → fs.length ≤ 12 → (∀ f ∈ fs, WF f) → Q (.tup (fs.map dF)) s') : Lv TT (j + 30) i_law_prog [.ref r] s Q E := by
  refine lv_in (fn := d_law_prog.fn) rfl rfl ?_
  dsimp only [d_law_prog, b_law_prog_1]
  have e24 := size24
  have hB6 := Bk_small 6 (by decide)
  have hrl := hs.lt
  walk_at "run"
  refine ⟨by decide, ?_⟩
  have n1 : (s ++ [Ob.lst []])[s.length]? = some (.lst (([] : List Nm).map .str)) := get_new
  have hs1 : Src b (s ++ [Ob.lst []]) r := hs.push
  generalize hnr : s.length = nr at n1 hrl ⊢
  generalize s ++ [Ob.lst []] = s1 at n1 hs1 ⊢
  refine draw_kp hDraw hs1 (by omega) (dv 12) fun u s3 u0 u1 k3 l3 hs3 => ?_
  refine ⟨by decide, ?_⟩
  refine pick_ok hDraw hs3 (by omega) rfl (by simp) (by simp) fun y s4 hy k4 l4 hs4 => ?_
  have : ∃ n : Nat, y = .int n ∧ n ≤ 11 := by
    simp only [List.mem_cons, List.not_mem_nil, or_false] at hy
    rcases hy with rfl | rfl | rfl | rfl | rfl | rfl | rfl | rfl | rfl | rfl | rfl | rfl
    · exact ⟨0, rfl, by decide⟩
    · exact ⟨0, rfl, by decide⟩
    · exact ⟨0, rfl, by decide⟩
    · exact ⟨0, rfl, by decide⟩
    · exact ⟨0, rfl, by decide⟩
    · exact ⟨1, rfl, by decide⟩
    · exact ⟨1, rfl, by decide⟩
    · exact ⟨1, rfl, by decide⟩
    · exact ⟨2, rfl, by decide⟩
    · exact ⟨2, rfl, by decide⟩
    · exact ⟨3, rfl, by decide⟩
    · exact ⟨u.toNat, by rw [Int.toNat_of_nonneg u0], by omega⟩
  obtain ⟨n, rfl, hn⟩ := this
  have n4 := (k3.trans k4).get _ _ (by omega) n1
  walk_at "run"
  refine ⟨⟨by decide, by decide, by omega, by omega⟩, ?_⟩
  refine for_at (I := fun i σ s' => ∃ (vs : List Nm) (v2 v3 : Option D), σ = [some (.ref r), some (.ref nr), v2, v3, none] ∧ vs.length ≤ i ∧ (∀ x ∈ vs, Name x) ∧ s'[nr]? = some (.lst (vs.map .str)) ∧ Src (b + 20 + 12 * i) s' r) ⟨[], _, _, rfl, by simp, fun z hz => absurd hz List.not_mem_nil, n4, hs4.mono (by omega)⟩ ?_ ?_
  · rintro i it σ s5 N' hit ⟨vs, v4, v5, rfl, p2, p3, n5, hs5⟩ hNN
    obtain ⟨hi, rfl⟩ := rngN_of hit
    refine ⟨trivial, ?_⟩
    unfold b_law_prog_2
    walk_at "run"
    refine Lv_le (k := j + 2) (by omega) (name_ok hs5 (by omega) fun s6 z hz k6 hs6 => ?_)
    have n6 := k6.get _ _ (by omega) n5
    have skip : N'.nx [some (.ref r), some (.ref nr), some (.int i), some (.str z), none] s6 := hNN.nx _ _ ⟨vs, _, _, rfl, by omega, p3, n6, hs6.mono (by omega)⟩
    unfold b_law_prog_2_1
    walk_at "run"
    rw [nin_ref n6]
    refine br_ndec (fun hni => ?_) (fun hin => br_nyes hin skip)
    refine br_ndec (fun hmm => ?_) (fun _ => skip)
    unfold b_law_prog_3
    walk_at "run"
    refine ⟨mty_ref n6 rfl, app_ref n6 (by rw [List.length_map]; omega) ?_⟩
    refine hNN.nx _ _ ⟨vs ++ [z], _, _, rfl, by rw [List.length_append, List.length_singleton]; omega, fun t ht => ?_, by rw [get_set n6, List.map_append]; rfl, (hs6.kp (R := fun p => p = nr) (Kp.set rfl) (by omega)).mono (by omega)⟩
    rcases List.mem_append.mp ht with ht | ht
    · exact p3 t ht
    · rw [List.mem_singleton.mp ht]; exact hz
  rintro σ s5 ⟨vs, v4, v5, rfl, p2, p3, n5, hs5⟩
  rw [rngN_len] at p2 hs5
  refine ⟨trivial, ?_⟩
  unfold b_law_prog_1_1
  walk_at "run"
  refine ⟨mty_ref n5 rfl, len_ref n5 ?_⟩
  rw [List.length_map]
  walk_at "run"
  rw [show (vs.length : Int) + 1 = ((vs.length + 1 : Nat) : Int) by omega]
  refine draw_kp hDraw hs5 (by omega) (div_nat (by omega) (by omega)) fun a s6 a0 a1 k6 l6 hs6 => ?_
  obtain ⟨a, rfl⟩ := Int.eq_ofNat_of_zero_le a0
  have n6 := k6.get _ _ (by omega) n5
  refine ins_ref n6 (by rw [List.length_map]; omega) (by omega) ?_
  have em : (vs.map D.str).take a ++ [.str [109, 97, 105, 110]] ++ (vs.map D.str).drop a = (vs.take a ++ [[109, 97, 105, 110]] ++ vs.drop a).map .str := by
    rw [List.map_append, List.map_append, List.map_take, List.map_drop]
    rfl
  rw [em]
  have n7 := get_set (o' := .lst ((vs.take a ++ [[109, 97, 105, 110]] ++ vs.drop a).map .str)) n6
  have hs7 := hs6.kp (R := fun p => p = nr) (Kp.set (o := .lst ((vs.take a ++ [[109, 97, 105, 110]] ++ vs.drop a).map .str)) rfl) (by omega)
  have hnm : ∀ x ∈ vs.take a ++ [[109, 97, 105, 110]] ++ vs.drop a, Name x := fun x hx => by
    simp only [List.mem_append, List.mem_singleton] at hx
    rcases hx with (hx | rfl) | hx
    · exact p3 x (List.mem_of_mem_take hx)
    · exact ⟨109, [97, 105, 110], rfl, by decide, by decide, by decide⟩
    · exact p3 x (List.mem_of_mem_drop hx)
  have hlen : (vs.take a ++ [[109, 97, 105, 110]] ++ vs.drop a).length = vs.length + 1 := by
    simp only [List.length_append, List.length_take, List.length_drop, List.length_singleton]
    omega
  generalize vs.take a ++ [[109, 97, 105, 110]] ++ vs.drop a = ws at n7 hs7 hnm hlen ⊢
  generalize s6.set nr (.lst (ws.map .str)) = s7 at n7 hs7 ⊢
  unfold b_law_prog_1_2
  walk_at "run"
  refine len_ref n7 ?_
  rw [List.length_map]
  walk_at "run"
  refine ⟨mul_small (by decide) (by decide) (by omega) (by omega), by decide, ?_⟩
  rw [show (200 : Int) - 2 * (ws.length : Int) = ((200 - 2 * ws.length : Nat) : Int) by omega]
  have ln8 : (s7 ++ [Ob.lst [D.int ((200 - 2 * ws.length : Nat) : Int)]])[s7.length]? = some (.lst [.int ((200 - 2 * ws.length : Nat) : Int)]) := get_new
  have n8 := get_old (r := [Ob.lst [D.int ((200 - 2 * ws.length : Nat) : Int)]]) n7
  have hs8 : Src (b + 20 + 12 * n + 1) (s7 ++ [Ob.lst [D.int ((200 - 2 * ws.length : Nat) : Int)]]) r := hs7.push
  have l78 : (s7 ++ [Ob.lst [D.int ((200 - 2 * ws.length : Nat) : Int)]]).length = s7.length + 1 := by simp
  have hnr7 := lt_of_get n7
  have hr7 := hs7.lt
  generalize hlnr : s7.length = lnr at ln8 l78 hnr7 hr7 ⊢
  generalize s7 ++ [Ob.lst [D.int ((200 - 2 * ws.length : Nat) : Int)]] = s8 at ln8 n8 hs8 l78 ⊢
  refine it_ref n8 ?_
  unfold i_law_prog_1
  refine lc_at (I := fun i acc s' => s'[s8.length]? = some (.lst acc) ∧ ∃ fs N, acc = fs.map dF ∧ fs.length = i ∧ i ≤ ws.length ∧ (∀ f ∈ fs, WF f) ∧ N ≤ 1000 ∧ s'[lnr]? = some (.lst [.int (N : Nat)]) ∧ s'[nr]? = some (.lst (ws.map .str)) ∧ Src (b + 200 + i * (1000 + Bk 6)) s' r ∧ s8.length < s'.length) (fun i acc s h => h.1) ⟨get_new, [], _, rfl, rfl, Nat.zero_le _, fun f hf => absurd hf List.not_mem_nil, by omega, get_old ln8, get_old n8, (hs8.push).mono (by omega), by simp⟩ ?_ ?_
  · rintro i it acc s9 hit ⟨hg, fs, N, rfl, f1, f2, f3, f4, ln9, n9, hs9, l9⟩
    rw [List.getElem?_map] at hit
    cases e : ws[i]? with
    | none => rw [e] at hit; cases hit
    | some w =>
    rw [e] at hit
    cases hit
    have hi := (List.getElem?_eq_some_iff.mp e).1
    refine ⟨n9, ?_⟩
    unfold l_law_prog_1
    simp only [wipeS]
    walk_at "run"
    have hmul : i * (1000 + Bk 6) ≤ 12 * (1000 + Bk 6) := Nat.mul_le_mul_right _ (by omega)
    have hmul2 : (i + 1) * (1000 + Bk 6) = i * (1000 + Bk 6) + (1000 + Bk 6) := by rw [Nat.add_mul, Nat.one_mul]
    refine Lv_le (k := j + 29) (by omega) (fun_ok hs9 (by omega) ln9 (by omega) f4 (hnm w (List.mem_of_getElem? e)) fun s10 f N' g1 g2 g3 k10 hs10 ln10 => ?_)
    have hg10 := k10.get _ _ (by omega) hg
    have l10 := k10.len
    refine ⟨hg10, by rw [List.length_map]; omega, get_set hg10, fs ++ [f], N', by rw [List.map_append]; rfl, by rw [List.length_append, f1]; rfl, hi, fun x hx => ?_, g3, get_ne ln10 (by omega), get_ne (k10.get _ _ (by omega) n9) (by omega), (hs10.kp (R := fun p => p = s8.length) (Kp.set rfl) (by omega)).mono (by omega), by rw [List.length_set]; omega⟩
    rcases List.mem_append.mp hx with hx | hx
    · exact f3 x hx
    · rw [List.mem_singleton.mp hx]; exact g2
  · rintro acc s9 ⟨hg, fs, N, rfl, f1, f2, f3, f4, ln9, n9, hs9, l9⟩
    rw [List.length_map] at f1
    refine ⟨n9, tup_ref hg (h s9 fs (by omega) (by omega) f3)⟩
theorem law_holds (ns : List Int) (hl : ns.length ≤ 63) : Lv TT (j + 50) i_law [.fl (ns.map .int)] [] (fun v _ => v = .bl true) (fun _ _ _ => False) := by
  refine lv_in (fn := d_law.fn) rfl rfl ?_
  dsimp only [d_law, b_law_1]
  have e24 := size24
  walk_at "run"
  refine src_kp (k := 0) rfl rfl (by decide) fun s1 k1 l1 hs1 => ?_
  refine Lv_le (k := j + 30) (by omega) (prog_ok hs1 (by decide) fun s2 fs h0 h12 hw => ?_)
  unfold b_law_1_1 i_law_1
  walk_at "run"
  refine lc_strs (fs.map tFn) (by rw [List.length_map, List.length_map]) (by rw [List.length_map]; omega) (fun _ _ => trivial) (fun i x t s3 Q hx ht k3 hq => ?_) fun s3 k3 hg3 => ?_
  · rw [List.getElem?_map] at hx ht
    cases e : fs[i]? with
    | none => rw [e] at hx; cases hx
    | some f =>
    rw [e] at hx ht
    cases hx
    cases ht
    have hf := hw f (List.mem_of_getElem? e)
    unfold l_law_1
    simp only [wipeS]
    walk_at "run"
    refine ⟨trivial, by decide, by decide, ?_⟩
    refine Lv_le (k := j + 12 + 6 + 2) (by omega) (ltext_ok hf get_new fun s4 q k4 hq4 => ?_)
    have hsum := hf.sum
    have hlen := hf.len
    unfold tFn at hlen
    rw [List.length_append, List.length_singleton] at hlen
    refine join_ref (l := tF f) hq4 (by simp only [List.length_singleton]; omega) ?_
    walk_at "run"
    exact ⟨by omega, hq s4 (Kp.push.trans k4)⟩
  unfold b_law_1_2
  walk_at "run"
  refine ⟨⟨by decide, by decide, by decide, by decide⟩, ?_⟩
  have dsum : ((fs.map tFn).map List.length).sum + (fs.map tFn).length * 0 ≤ 16777216 := by
    have := sum_le (l := fs.map tFn) (K := 190001) fun t ht => by
      obtain ⟨f, hf, rfl⟩ := List.mem_map.mp ht
      exact (hw f hf).len
    rw [List.length_map] at this
    have : fs.length * 190001 ≤ 12 * 190001 := Nat.mul_le_mul_right _ h12
    omega
  refine for_at (I := fun i σ s' => (∃ v3 v4 v5 v6, σ = [some (.fl (ns.map .int)), some (.tup (fs.map dF)), some (.ref s2.length), v3, v4, v5, v6]) ∧ s'[s2.length]? = some (.lst ((fs.map tFn).map .str))) ⟨⟨_, _, _, _, rfl⟩, hg3⟩ ?_ ?_
  · rintro i it σ s4 N' hit ⟨⟨v3, v4, v5, v6, rfl⟩, hg4⟩ hN
    refine ⟨trivial, ?_⟩
    unfold b_law_2
    walk_at "run"
    refine Lv_le (k := j + 39 + 6 + 3) (by omega) (show_ok h12 hw fun s5 k5 => ?_)
    have hg5 := k5.get _ _ id hg4
    unfold b_law_2_1
    walk_at "run"
    refine ⟨trivial, join_ref hg5 dsum ?_⟩
    walk_at "run"
    refine br_nyes rfl ?_
    unfold b_law_2_2
    walk_at "run"
    rw [List.length_map]
    refine ⟨⟨by decide, by decide, by omega, by omega⟩, ?_⟩
    refine for_at (I := fun i' σ s' => (∃ v5 v6, σ = [some (.fl (ns.map .int)), some (.tup (fs.map dF)), some (.ref s2.length), v3, some it, v5, v6]) ∧ s'[s2.length]? = some (.lst ((fs.map tFn).map .str))) ⟨⟨_, _, rfl⟩, hg5⟩ ?_ ?_
    · rintro k it' σ s6 N2 hit' ⟨⟨v5, v6, rfl⟩, hg6⟩ hN2
      obtain ⟨hk, rfl⟩ := rngN_of hit'
      refine ⟨trivial, ?_⟩
      have hf := hw fs[k] (List.getElem_mem hk)
      unfold b_law_3
      walk_at "run"
      refine ix_tup (v := dF fs[k]) (by rw [atI_k, List.getElem?_map, List.getElem?_eq_getElem hk]; rfl) ?_
      refine Lv_le (k := j + 39 + 6 + 2) (by omega) (showf_ok hf fun s7 k7 => ?_)
      have hg7 := k7.get _ _ id hg6
      unfold b_law_3_1
      walk_at "run"
      refine ix_ref hg7 (v := .str (tFn fs[k])) (by rw [atI_k, List.getElem?_map, List.getElem?_map, List.getElem?_eq_getElem hk]; rfl) ?_
      walk_at "run"
      refine br_nyes rfl ?_
      exact hN2.nx _ _ ⟨⟨_, _, rfl⟩, hg7⟩
    · rintro σ s6 ⟨⟨v5, v6, rfl⟩, hg6⟩
      exact ⟨trivial, hN.nx _ _ ⟨⟨_, _, _, _, rfl⟩, hg6⟩⟩
  · rintro σ s4 ⟨⟨v3, v4, v5, v6, rfl⟩, hg4⟩
    refine ⟨trivial, ?_⟩
    have hlast : fs.length - 1 < fs.length := by omega
    have hf := hw fs[fs.length - 1] (List.getElem_mem hlast)
    unfold b_law_1_3
    walk_at "run"
    refine ix_tup (v := dF fs[fs.length - 1]) (by rw [atI_last (n := fs.length) (by rw [List.length_map]) h0, List.getElem?_map, List.getElem?_eq_getElem hlast]; rfl) ?_
    refine ⟨by decide, ?_⟩
    refine Lv_le (k := j + 39 + 6 + 3) (by omega) (show_ok (fs := [fs[fs.length - 1]]) (by simp) (fun f hf' => by rw [List.mem_singleton.mp hf']; exact hf) fun s5 k5 => ?_)
    have hg5 := k5.get _ _ id hg4
    unfold b_law_1_4
    walk_at "run"
    refine ix_ref hg5 (v := .str (tFn fs[fs.length - 1])) (by rw [atI_last (n := fs.length) (by rw [List.length_map, List.length_map]) h0, List.getElem?_map, List.getElem?_map, List.getElem?_eq_getElem hlast]; rfl) ?_
    walk_at "run"
    show D.bl (decide (tFn fs[fs.length - 1] = tFn fs[fs.length - 1])) = _
    rw [decide_eq_true rfl]
end
end K01

namespace K01
open PySem PySem.Spec PyProof.Rows L2 PX
theorem defs_ok : DefsL ly tbl := ⟨o_expression_text, o_arguments_text, o_bare_text, o_statement_text, o_block_lines, o_show_function, o_show, o_law_cell, o_law_src, o_law_draw, o_law_word, o_law_tokens, o_law_text_e, o_law_lines, o_law_text, o_law_name, o_law_pick, o_law_e, o_law_es, o_law_whole, o_law_block, o_law_fun, o_law_prog, o_law, trivial⟩
theorem mdefs_ok : MDefsL ly mts := trivial
theorem few_ok : decide (tbl.length < 1000000) = true := by decide +kernel
theorem gl_ok : glChk tbl cts ly.gl = true := by decide +kernel
theorem mc_ok : mcChk mts ly.mc = true := by decide +kernel
theorem ids_ok : ids mts [] = true := by decide +kernel
theorem ct_ok : ctChk mts cts [] = true := by decide +kernel
def TB (w : World) (K : PySem.W.Frag) : Tb := ⟨K, w.params, fun c => ([] : List Addr)[c]?, ly.at_⟩
theorem all_mk {l : PySem.W.OpenLaw} {w : World} {K : PySem.W.Frag} {h : Heap} {mg : Str → Option Value} {fa : Addr} (X : K.In h) (G : h.Ns mainGlobals mg) (hfa : mg "law" = some (.ref fa))
    (f0 : FnFact K d_expression_text)
    (f1 : FnFact K d_arguments_text)
    (f2 : FnFact K d_bare_text)
    (f3 : FnFact K d_statement_text)
    (f4 : FnFact K d_block_lines)
    (f5 : FnFact K d_show_function)
    (f6 : FnFact K d_show)
    (f7 : FnFact K d_law_cell)
    (f8 : FnFact K d_law_src)
    (f9 : FnFact K d_law_draw)
    (f10 : FnFact K d_law_word)
    (f11 : FnFact K d_law_tokens)
    (f12 : FnFact K d_law_text_e)
    (f13 : FnFact K d_law_lines)
    (f14 : FnFact K d_law_text)
    (f15 : FnFact K d_law_name)
    (f16 : FnFact K d_law_pick)
    (f17 : FnFact K d_law_e)
    (f18 : FnFact K d_law_es)
    (f19 : FnFact K d_law_whole)
    (f20 : FnFact K d_law_block)
    (f21 : FnFact K d_law_fun)
    (f22 : FnFact K d_law_prog)
    (f23 : FnFact K d_law)
    (n0 : ∃ v u, PySem.W.nsIn K mainGlobals "SIGNS" = some (some u) ∧ RelV v u ∧ ∀ H ρ, RelD (TB w K) H ρ c_SIGNS v)
    (n1 : ∃ v u, PySem.W.nsIn K mainGlobals "LEVELS" = some (some u) ∧ RelV v u ∧ ∀ H ρ, RelD (TB w K) H ρ c_LEVELS v)
    (n2 : ∃ v u, PySem.W.nsIn K mainGlobals "HIGHEST_LEVEL" = some (some u) ∧ RelV v u ∧ ∀ H ρ, RelD (TB w K) H ρ c_HIGHEST_LEVEL v)
    (n3 : ∃ v u, PySem.W.nsIn K mainGlobals "OPERAND_LEVELS" = some (some u) ∧ RelV v u ∧ ∀ H ρ, RelD (TB w K) H ρ c_OPERAND_LEVELS v)
    (n4 : ∃ v u, PySem.W.nsIn K mainGlobals "PREFIX_LEVEL" = some (some u) ∧ RelV v u ∧ ∀ H ρ, RelD (TB w K) H ρ c_PREFIX_LEVEL v)
    (n5 : ∃ v u, PySem.W.nsIn K mainGlobals "SUFFIX_LEVEL" = some (some u) ∧ RelV v u ∧ ∀ H ρ, RelD (TB w K) H ρ c_SUFFIX_LEVEL v)
    (n6 : ∃ v u, PySem.W.nsIn K mainGlobals "INDENT" = some (some u) ∧ RelV v u ∧ ∀ H ρ, RelD (TB w K) H ρ c_INDENT v)
    (n7 : PySem.W.nsIn K mainGlobals "abs" = some none)
    (n8 : PySem.W.nsIn K mainGlobals "int" = some none)
    (n9 : PySem.W.nsIn K mainGlobals "isinstance" = some none)
    (n10 : PySem.W.nsIn K mainGlobals "len" = some none)
    (n11 : PySem.W.nsIn K mainGlobals "max" = some none)
    (n12 : PySem.W.nsIn K mainGlobals "min" = some none)
    (n13 : PySem.W.nsIn K mainGlobals "range" = some none)
    (n14 : PySem.W.nsIn K mainGlobals "str" = some none)
    (n15 : PySem.W.nsIn K mainGlobals "tuple" = some none) :
    ∃ fd : FuncData, (∀ (s : Shared) (v : Value), BindsTo s fd ⟨[v], []⟩ [("script", v)]) ∧ ∀ base : Heap, K.In base → base.Ns mainGlobals mg → FnOk l.prog w K mg base CX0 50 fa fd ["script"] (spLaw K) := by
  have O : ClsOk (TB w K) K ly.nf := clsOk_of (Cs := []) rfl (show ly.at_.Nodup by decide +kernel) trivial
  obtain ⟨fd, h1, h2⟩ := law_ok (P := l.prog) (w := w) (k := 50) (d := d_law) (id := 23) (tab_mk (B := (TB w K)) (ly := ly) (tbl := tbl) (mts := mts) (cts := cts) rfl rfl O rfl defs_ok ⟨f0, f1, f2, f3, f4, f5, f6, f7, f8, f9, f10, f11, f12, f13, f14, f15, f16, f17, f18, f19, f20, f21, f22, f23, trivial⟩ mdefs_ok trivial trivial few_ok gl_ok mc_ok ids_ok ct_ok ⟨n0, n1, n2, n3, n4, n5, n6, n7, n8, n9, n10, n11, n12, n13, n14, n15, trivial⟩) X G rfl rfl hfa fun ns hl => law_holds ns hl
  exact ⟨fd, h1, fun base _ _ => h2 base⟩
end K01
open PySem PySem.W PyProof.Rows
set_option maxRecDepth 100000 in
set_option maxHeartbeats 0 in
theorem PySem.Challenge.cw_warmmill_k01_one_form_shown_holds : PySem.Challenge.rw_warmmill_k01_one_form_shown.Holds := by
  w_on; o_law; k_head; (case hw => w_witness2)
  k_fill
  refine PX.walk_ok (l := PySem.Challenge.rw_warmmill_k01_one_form_shown) (k := 50) rfl rfl ⟨rfl, by decide, by decide⟩ (fun w h Y => PySem.W.kIn_of Y) ?F
  case F =>
    intro w mg fa h KX G hmg
    refine' K01.all_mk KX G hmg ?f0 ?f1 ?f2 ?f3 ?f4 ?f5 ?f6 ?f7 ?f8 ?f9 ?f10 ?f11 ?f12 ?f13 ?f14 ?f15 ?f16 ?f17 ?f18 ?f19 ?f20 ?f21 ?f22 ?f23 ?n0 ?n1 ?n2 ?n3 ?n4 ?n5 ?n6 ?n7 ?n8 ?n9 ?n10 ?n11 ?n12 ?n13 ?n14 ?n15
    (case f0 => refine' PX.fact_mk ?a ?l ?c ?k; (case a => k_is); (case l => k_is); (case c => k_is); (case k => k_is))
    (case f1 => refine' PX.fact_mk ?a ?l ?c ?k; (case a => k_is); (case l => k_is); (case c => k_is); (case k => k_is))
    (case f2 => refine' PX.fact_mk ?a ?l ?c ?k; (case a => k_is); (case l => k_is); (case c => k_is); (case k => k_is))
    (case f3 => refine' PX.fact_mk ?a ?l ?c ?k; (case a => k_is); (case l => k_is); (case c => k_is); (case k => k_is))
    (case f4 => refine' PX.fact_mk ?a ?l ?c ?k; (case a => k_is); (case l => k_is); (case c => k_is); (case k => k_is))
    (case f5 => refine' PX.fact_mk ?a ?l ?c ?k; (case a => k_is); (case l => k_is); (case c => k_is); (case k => k_is))
    (case f6 => refine' PX.fact_mk ?a ?l ?c ?k; (case a => k_is); (case l => k_is); (case c => k_is); (case k => k_is))
    (case f7 => refine' PX.fact_mk ?a ?l ?c ?k; (case a => k_is); (case l => k_is); (case c => k_is); (case k => k_is))
    (case f8 => refine' PX.fact_mk ?a ?l ?c ?k; (case a => k_is); (case l => k_is); (case c => k_is); (case k => k_is))
    (case f9 => refine' PX.fact_mk ?a ?l ?c ?k; (case a => k_is); (case l => k_is); (case c => k_is); (case k => k_is))
    (case f10 => refine' PX.fact_mk ?a ?l ?c ?k; (case a => k_is); (case l => k_is); (case c => k_is); (case k => k_is))
    (case f11 => refine' PX.fact_mk ?a ?l ?c ?k; (case a => k_is); (case l => k_is); (case c => k_is); (case k => k_is))
    (case f12 => refine' PX.fact_mk ?a ?l ?c ?k; (case a => k_is); (case l => k_is); (case c => k_is); (case k => k_is))
    (case f13 => refine' PX.fact_mk ?a ?l ?c ?k; (case a => k_is); (case l => k_is); (case c => k_is); (case k => k_is))
    (case f14 => refine' PX.fact_mk ?a ?l ?c ?k; (case a => k_is); (case l => k_is); (case c => k_is); (case k => k_is))
    (case f15 => refine' PX.fact_mk ?a ?l ?c ?k; (case a => k_is); (case l => k_is); (case c => k_is); (case k => k_is))
    (case f16 => refine' PX.fact_mk ?a ?l ?c ?k; (case a => k_is); (case l => k_is); (case c => k_is); (case k => k_is))
    (case f17 => refine' PX.fact_mk ?a ?l ?c ?k; (case a => k_is); (case l => k_is); (case c => k_is); (case k => k_is))
    (case f18 => refine' PX.fact_mk ?a ?l ?c ?k; (case a => k_is); (case l => k_is); (case c => k_is); (case k => k_is))
    (case f19 => refine' PX.fact_mk ?a ?l ?c ?k; (case a => k_is); (case l => k_is); (case c => k_is); (case k => k_is))
    (case f20 => refine' PX.fact_mk ?a ?l ?c ?k; (case a => k_is); (case l => k_is); (case c => k_is); (case k => k_is))
    (case f21 => refine' PX.fact_mk ?a ?l ?c ?k; (case a => k_is); (case l => k_is); (case c => k_is); (case k => k_is))
    (case f22 => refine' PX.fact_mk ?a ?l ?c ?k; (case a => k_is); (case l => k_is); (case c => k_is); (case k => k_is))
    (case f23 => refine' PX.fact_mk ?a ?l ?c ?k; (case a => k_is); (case l => k_is); (case c => k_is); (case k => k_is))
    (case n0 => refine' PX.co_dct2 ?hk ?a ?l ?lo ?kl ?kc ?dv; (case hk => rfl); (case a => k_is); (case l => k_is); (case lo => rfl); (case kl => exact ⟨⟨_, _, rfl, rfl⟩, ⟨_, _, rfl, rfl⟩, ⟨_, _, rfl, rfl⟩, ⟨_, _, rfl, rfl⟩, ⟨_, _, rfl, rfl⟩, trivial⟩); (case kc => rfl); (case dv => refine' ⟨rfl, rfl, rfl, rfl, rfl, trivial⟩; skip))
    (case n1 => refine' PX.co_dct2 ?hk ?a ?l ?lo ?kl ?kc ?dv; (case hk => rfl); (case a => k_is); (case l => k_is); (case lo => rfl); (case kl => exact ⟨⟨_, _, rfl, rfl⟩, ⟨_, _, rfl, rfl⟩, ⟨_, _, rfl, rfl⟩, ⟨_, _, rfl, rfl⟩, ⟨_, _, rfl, rfl⟩, ⟨_, _, rfl, rfl⟩, ⟨_, _, rfl, rfl⟩, trivial⟩); (case kc => rfl); (case dv => refine' ⟨rfl, rfl, rfl, rfl, rfl, rfl, rfl, trivial⟩; skip))
    (case n2 => refine' PX.co_int ?a; (case a => k_is))
    (case n3 => refine' PX.co_dct2 ?hk ?a ?l ?lo ?kl ?kc ?dv; (case hk => rfl); (case a => k_is); (case l => k_is); (case lo => rfl); (case kl => exact ⟨⟨_, _, rfl, rfl⟩, ⟨_, _, rfl, rfl⟩, ⟨_, _, rfl, rfl⟩, ⟨_, _, rfl, rfl⟩, ⟨_, _, rfl, rfl⟩, trivial⟩); (case kc => rfl); (case dv => refine' ⟨PX.dv_tup ?t0 ?c0 ?z0, PX.dv_tup ?t1 ?c1 ?z1, PX.dv_tup ?t2 ?c2 ?z2, PX.dv_tup ?t3 ?c3 ?z3, PX.dv_tup ?t4 ?c4 ?z4, trivial⟩; (case t0 => k_is); (case c0 => rfl); (case z0 => rfl); (case t1 => k_is); (case c1 => rfl); (case z1 => rfl); (case t2 => k_is); (case c2 => rfl); (case z2 => rfl); (case t3 => k_is); (case c3 => rfl); (case z3 => rfl); (case t4 => k_is); (case c4 => rfl); (case z4 => rfl)))
    (case n4 => refine' PX.co_int ?a; (case a => k_is))
    (case n5 => refine' PX.co_int ?a; (case a => k_is))
    (case n6 => refine' PX.co_str ?a ?e ?c; (case a => k_is); (case e => rfl); (case c => decide +kernel))
    (case n7 => k_is)
    (case n8 => k_is)
    (case n9 => k_is)
    (case n10 => k_is)
    (case n11 => k_is)
    (case n12 => k_is)
    (case n13 => k_is)
    (case n14 => k_is)
    (case n15 => k_is)
