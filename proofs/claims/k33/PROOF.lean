import PyProof.Rows.All
import Wide.All
import OpenK.AllK
import Wide.FinOn
import HandS.ForMost
import HandS.ForExc
import HandS.Deep
import HandS.Wide
import HandS.Flow
import HandS.IsInst
import HandS.Codes
import HandS.TupAny
import HandS.Dict
import HandS.SortInts
import HandS.More
import KE.KIndexOf
import HandS.Comp
import HandS.Iter
import HandS.CallSlots
import HandS.Small
import HandS.DictComp
import HandS.Style
import KE.GoesEnum
import PySem.Challenge.RW_warmmill_k33_long_ways
set_option Elab.async false
set_option linter.all false
set_option maxRecDepth 100000
/-! PX: a small language with a plain meaning (values as trees, a store of lists and objects), into which the defs of a text are turned. -/
namespace PX
open PySem

inductive D where
  | non | bl (b : Bool) | int (i : Int) | str (s : List Nat) | tup (xs : List D) | fl (xs : List D) | kd (n : Nat) | ref (n : Nat) | fd (ks vs : List D)
  deriving Inhabited

mutual
def D.beq : D → D → Bool
  | .non, .non => true
  | .bl a, .bl b => a == b
  | .int a, .int b => a == b
  | .str a, .str b => a == b
  | .tup a, .tup b => D.beqs a b
  | .fl a, .fl b => D.beqs a b
  | .kd a, .kd b => a == b
  | .ref a, .ref b => a == b
  | .fd a b, .fd c d => D.beqs a c && D.beqs b d
  | _, _ => false
def D.beqs : List D → List D → Bool
  | [], [] => true
  | x :: xs, y :: ys => D.beq x y && D.beqs xs ys
  | _, _ => false
end
mutual
theorem D.eq_of_beq : ∀ {x y : D}, D.beq x y = true → x = y
  | .non, y, h => by cases y <;> simp_all [D.beq]
  | .bl a, y, h => by cases y <;> simp_all [D.beq]
  | .int a, y, h => by cases y <;> simp_all [D.beq]
  | .str a, y, h => by cases y <;> simp_all [D.beq]
  | .tup a, y, h => by cases y <;> first | (simp only [D.beq] at h; exact congrArg D.tup (D.eqs_of_beqs h)) | simp [D.beq] at h
  | .fl a, y, h => by cases y <;> first | (simp only [D.beq] at h; exact congrArg D.fl (D.eqs_of_beqs h)) | simp [D.beq] at h
  | .kd a, y, h => by cases y <;> simp_all [D.beq]
  | .ref a, y, h => by cases y <;> simp_all [D.beq]
  | .fd a b, y, h => by
    cases y with
    | fd c d =>
      simp only [D.beq, Bool.and_eq_true] at h
      rw [D.eqs_of_beqs h.1, D.eqs_of_beqs h.2]
    | _ => simp [D.beq] at h
theorem D.eqs_of_beqs : ∀ {xs ys : List D}, D.beqs xs ys = true → xs = ys
  | [], ys, h => by cases ys <;> simp_all [D.beqs]
  | x :: xs, ys, h => by
    cases ys with
    | nil => simp [D.beqs] at h
    | cons y ys =>
      simp only [D.beqs, Bool.and_eq_true] at h
      rw [D.eq_of_beq h.1, D.eqs_of_beqs h.2]
end
mutual
theorem D.beq_refl : ∀ x : D, D.beq x x = true
  | .non => rfl
  | .bl a => by simp [D.beq]
  | .int a => by simp [D.beq]
  | .str a => by simp [D.beq]
  | .tup a => by simp only [D.beq]; exact D.beqs_refl a
  | .fl a => by simp only [D.beq]; exact D.beqs_refl a
  | .kd a => by simp [D.beq]
  | .ref a => by simp [D.beq]
  | .fd a b => by simp only [D.beq, D.beqs_refl a, D.beqs_refl b, Bool.and_self]
theorem D.beqs_refl : ∀ xs : List D, D.beqs xs xs = true
  | [] => rfl
  | x :: xs => by simp only [D.beqs, D.beq_refl x, D.beqs_refl xs, Bool.and_self]
end
theorem D.beq_iff {x y : D} : D.beq x y = true ↔ x = y := ⟨D.eq_of_beq, fun e => e ▸ D.beq_refl x⟩
instance : DecidableEq D := fun x y => decidable_of_iff _ (D.beq_iff (x := x) (y := y))

/-- what stands in the store -/
inductive Ob where
  | lst (xs : List D) | ins (c : Nat) (fs : List (Nat × D)) | dic (kvs : List (D × D)) | ldic (kvs : List (D × D))
  deriving Inhabited
abbrev Sto := List Ob
abbrev Sl := List (Option D)
abbrev QE := D → Sto → Prop
abbrev XQ := Nat → List (Nat × D) → Sto → Prop
abbrev FS := Nat → List D → Sto → QE → XQ → Prop

/-- built-in functions; methods of built-in types -/
inductive BF where
  | len | int | abs | str | tuple | list | max2 | min2 | isi (t : Nat) | sorted | sum | min1 | max1 | set | repr
  deriving DecidableEq
inductive MF where
  | append | pop0 | pop1 | extend | index | join | insert | reverse | get1 | get2 | rstrip | count | split
  deriving DecidableEq
/-- what a for walks -/
inductive IK where
  | seq | rng1 | rng2 | enum | enum1 | zip | rev
  deriving DecidableEq
/-- which list must stay as it is while it is walked, and what is handed out of it -/
inductive WK where
  | free | lst (n : Nat) | enu (b : Int) (n : Nat) | rvd (n : Nat) | key (n : Nat) (kvs : List (D × D)) | two (m n : Nat)
inductive TG where
  | nm (i : Nat) | tp (ts : List TG)
inductive EX where
  | lit (d : D)
  | var (i : Nat)
  | bin (op : Operator) (a b : EX)
  | neg (a : EX)
  | cmp (op : CmpOp) (a b : EX)
  | chn (op op' : CmpOp) (a b c : EX)
  | and (a b : EX) | or (a b : EX) | not (a : EX)
  | ite (c a b : EX)
  | tup (es : List EX) | lst (es : List EX) | dct (es : List EX)
  | ix (a b : EX)
  | sl (a lo hi : EX)
  | call (f : Nat) (es : List EX)
  | blt (f : BF) (es : List EX)
  | meth (m : MF) (o : EX) (es : List EX)
  | lc (own : List Nat) (tg : TG) (ik : IK) (its : List EX) (ifs : List EX) (elt : EX)
  | dc (own : List Nat) (tg : TG) (ik : IK) (its : List EX) (ifs : List EX) (k v : EX)
  | fld (o : EX) (f : Nat)
  | mcall (m : Nat) (cs : List Nat) (o : EX) (es : List EX)
  | rvs (a : EX)
inductive ST where
  | expr (e : EX)
  | asg (tg : TG) (e : EX)
  | aset (o i e : EX)
  | aug (i : Nat) (op : Operator) (e : EX)
  | ite (c : EX) (a b : List ST)
  | whl (c : EX) (b : List ST)
  | for_ (tg : TG) (ik : IK) (its : List EX) (b : List ST)
  | ret (e : EX)
  | brk | cnt | pass
  | fset (o : EX) (f : Nat) (e : EX)
  | faug (o : EX) (f : Nat) (op : Operator) (e : EX)
  | forK (tg : TG) (i : Nat) (b : List ST)
  | ctor (c i : Nat)

/-! ### values -/
def tru (s : Sto) : D → Option Bool
  | .non => some false
  | .bl b => some b
  | .int i => some (i != 0)
  | .str x => some (!x.isEmpty)
  | .tup xs => some (!xs.isEmpty)
  | .fl xs => some (!xs.isEmpty)
  | .ref n => match s[n]? with
    | some (.lst xs) => some (!xs.isEmpty)
    | _ => none
  | .kd _ => none
  | .fd _ _ => none
/-- one way or the other -/
def br (o : Option Bool) (A B : Prop) : Prop := match o with
  | some true => A
  | some false => B
  | none => False
def obl (o : Option Bool) (K : Bool → Prop) : Prop := match o with
  | some b => K b
  | none => False
/-- a list or a tuple that is read -/
def seqOf (s : Sto) : D → Option (List D)
  | .tup xs => some xs
  | .fl xs => some xs
  | .ref n => match s[n]? with
    | some (.lst xs) => some xs
    | _ => none
  | _ => none
mutual
/-- the lists resolved -/
def resW (r : Nat → Option D) : D → Option D
  | .tup xs => (resWs r xs).map .tup
  | .fl xs => (resWs r xs).map .fl
  | .ref n => r n
  | .kd _ => none
  | .fd _ _ => none
  | .non => some .non
  | .bl b => some (.bl b)
  | .int i => some (.int i)
  | .str x => some (.str x)
def resWs (r : Nat → Option D) : List D → Option (List D)
  | [] => some []
  | x :: xs => match resW r x, resWs r xs with
    | some y, some ys => some (y :: ys)
    | _, _ => none
end
def res (s : Sto) : Nat → D → Option D
  | 0 => resW (fun _ => none)
  | k + 1 => resW (fun n => match s[n]? with
    | some (.lst xs) => (resWs (fun m => res s k (.ref m)) xs).map .fl
    | _ => none)
mutual
/-- no bool, no def; not too deep -/
def nob : Nat → D → Bool
  | _, .non => true
  | _, .int _ => true
  | _, .str _ => true
  | k + 1, .tup xs => nobs k xs
  | k + 1, .fl xs => nobs k xs
  | _, _ => false
def nobs : Nat → List D → Bool
  | _, [] => true
  | k, x :: xs => nob k x && nobs k xs
end
def eqDeep (s : Sto) (x y : D) : Option Bool := match res s 3 x, res s 3 y with
  | some a, some b => if nob 40 a && nob 40 b then some (decide (a = b)) else none
  | _, _ => none
def eqD (s : Sto) : D → D → Option Bool
  | .int i, .int j => some (decide (i = j))
  | .str a, .str b => some (decide (a = b))
  | .bl a, .bl b => some (decide (a = b))
  | x, y => eqDeep s x y
def flatD : D → Bool
  | .non | .bl _ | .int _ | .str _ => true
  | _ => false
def eqF : D → D → Bool
  | .non, .non => true
  | .bl a, .bl b => a == b
  | .bl a, .int b => (if a then 1 else 0) == b
  | .int a, .bl b => a == (if b then 1 else 0)
  | .int a, .int b => a == b
  | .str a, .str b => a == b
  | _, _ => false
def subS (a b : List Nat) : Bool := !(Builtin.Str.occurrences ⟨b.toArray⟩ ⟨a.toArray⟩ 0 b.length 1).isEmpty
/-- a key -/
def keyOk : D → Bool
  | .int _ | .str _ => true
  | _ => false
/-- .. for this dict (those of the module have texts) -/
def kOk : D → D → Bool
  | .fd _ _, .str _ => true
  | .fd _ _, _ => false
  | _, k => keyOk k
def dGet (kvs : List (D × D)) (k : D) : Option D := (kvs.find? fun p => decide (p.1 = k)).map (·.2)
def dPut (kvs : List (D × D)) (k v : D) : List (D × D) := if (kvs.any fun p => decide (p.1 = k)) = true then kvs.map fun p => if p.1 = k then (p.1, v) else p else kvs ++ [(k, v)]
/-- a dict that is read -/
def dicOf (s : Sto) : D → Option (List (D × D))
  | .fd ks vs => some (ks.zip vs)
  | .ref n => match s[n]? with
    | some (.dic kvs) => some kvs
    | some (.ldic kvs) => some kvs
    | _ => none
  | _ => none
def pairUp : List D → Option (List (D × D))
  | [] => some []
  | k :: v :: r => if keyOk k then (pairUp r).map fun l => (k, v) :: l else none
  | [_] => none
def inS (s : Sto) (x y : D) : Option Bool := match y with
  | .str b => match x with
    | .str a => some (subS a b)
    | _ => none
  | y => match seqOf s y with
    | some ys => if flatD x && ys.all flatD then some (ys.any fun z => eqF z x) else none
    | none => none
def inD (s : Sto) (x y : D) : Option Bool := match dicOf s y with
  | some kvs => if kOk y x then some (dGet kvs x).isSome else none
  | none => inS s x y
def isNon : D → Bool
  | .non => true
  | _ => false
def cmpD (s : Sto) : CmpOp → D → D → Option Bool
  | .Eq, x, y => eqD s x y
  | .NotEq, x, y => (eqD s x y).map fun b => !b
  | .Lt, .int i, .int j => some (decide (i < j))
  | .LtE, .int i, .int j => some (decide (i ≤ j))
  | .Gt, .int i, .int j => some (decide (j < i))
  | .GtE, .int i, .int j => some (decide (j ≤ i))
  | .Is, x, .non => some (isNon x)
  | .IsNot, x, .non => some (!isNon x)
  | .In, x, y => inD s x y
  | .NotIn, x, y => (inD s x y).map fun b => !b
  | _, _, _ => none
def mulOk (i j : Int) : Prop := i.natAbs.log2 + j.natAbs.log2 < 1000000
def divOk (j : Int) : Prop := 0 < j ∧ j.natAbs.log2 < 9000
def powOk (i j : Int) : Prop := 0 ≤ j ∧ j ≤ 1000000 ∧ i.natAbs < 2 ^ 64
/-- what is new in the store stands at its end -/
def mk (o : Ob) (s : Sto) (Q : QE) : Prop := Q (.ref s.length) (s ++ [o])
def xBin (op : Operator) (x y : D) (s : Sto) (Q : QE) : Prop := match op, x, y with
  | .Add, .int i, .int j => Q (.int (i + j)) s
  | .Sub, .int i, .int j => Q (.int (i - j)) s
  | .Mult, .int i, .int j => mulOk i j ∧ Q (.int (i * j)) s
  | .FloorDiv, .int i, .int j => divOk j ∧ Q (.int (i / j)) s
  | .Mod, .int i, .int j => 0 < j ∧ Q (.int (i % j)) s
  | .Pow, .int i, .int j => powOk i j ∧ Q (.int (i ^ j.toNat)) s
  | .Add, .str a, .str b => a.length + b.length ≤ sizeLine ∧ Q (.str (a ++ b)) s
  | .Mult, .str a, .int j => (0 ≤ j ∧ j ≤ 16777216 ∧ a.length * j.toNat ≤ 16777216) ∧ Q (.str (List.replicate j.toNat a).flatten) s
  | .Add, .tup a, .tup b => a.length + b.length ≤ sizeLine ∧ Q (.tup (a ++ b)) s
  | .Add, .ref m, .ref n => match s[m]?, s[n]? with
    | some (.lst a), some (.lst b) => a.length + b.length ≤ sizeLine ∧ mk (.lst (a ++ b)) s Q
    | _, _ => False
  | .Mult, .ref m, .int j => match s[m]? with
    | some (.lst a) => (-(2 ^ 63) ≤ j ∧ j < 2 ^ 63 ∧ a.length * j.toNat ≤ sizeLine) ∧ mk (.lst (List.replicate j.toNat a).flatten) s Q
    | _ => False
  | _, _, _ => False
/-- an index of either sign -/
def ixn (n : Nat) (i : Int) : Option Nat := L2.ixN n i
def xIs (x y : D) (s : Sto) (Q : QE) : Prop := match y with
  | .int i => match x with
    | .str a => match L2.atI a i with
      | some c => Q (.str [c]) s
      | none => False
    | x => match seqOf s x with
      | some xs => match L2.atI xs i with
        | some v => Q v s
        | none => False
      | none => False
  | _ => False
def xIx (x y : D) (s : Sto) (Q : QE) : Prop := match dicOf s x with
  | some kvs => kOk x y = true ∧ match dGet kvs y with
    | some v => Q v s
    | none => False
  | none => xIs x y s Q
def cut {α : Type} (xs : List α) (lo hi : Option Int) : List α := (xs.drop (HT.sIx xs.length 0 lo)).take (HT.sIx xs.length xs.length hi - HT.sIx xs.length 0 lo)
/-- a slice's part -/
def partD : D → Option (Option Int)
  | .kd _ => some none
  | .int i => some (some i)
  | _ => none
def xSl (x l h : D) (s : Sto) (Q : QE) : Prop := match partD l, partD h with
  | some lo, some hi => match x with
    | .str a => Q (.str (cut a lo hi)) s
    | .tup a => Q (.tup (cut a lo hi)) s
    | .fl a => mk (.lst (cut a lo hi)) s Q
    | .ref n => match s[n]? with
      | some (.lst a) => mk (.lst (cut a lo hi)) s Q
      | _ => False
    | _ => False
  | _, _ => False
def rngL (a b : Int) : List D := (List.range (b - a).toNat).map fun i => .int (a + (i : Nat))
def rngOk (a b : Int) : Prop := -(2 ^ 62) ≤ a ∧ a < 2 ^ 62 ∧ -(2 ^ 62) ≤ b ∧ b < 2 ^ 62
/-- the digits of a number, as str gives them -/
def strI (i : Int) : List Nat := ((toString i : Str)).cps.toList
/-- a value's type: int 0, bool 1, str 2, tuple 3, list 4, None 5 -/
def tyD (s : Sto) : D → Option Nat
  | .int _ => some 0
  | .bl _ => some 1
  | .str _ => some 2
  | .tup _ => some 3
  | .fl _ => some 4
  | .non => some 5
  | .ref n => match s[n]? with
    | some (.lst _) => some 4
    | _ => none
  | .kd _ => none
  | .fd _ _ => none
def isiD (t : Nat) (s : Sto) (d : D) : Option Bool := match tyD s d with
  | some k => some (k == t || (k == 1 && t == 0))
  | none => none
def bLen (x : D) (s : Sto) (Q : QE) : Prop := match x with
  | .str a => Q (.int a.length) s
  | x => match seqOf s x with
    | some xs => Q (.int xs.length) s
    | none => False
def bInt (x : D) (s : Sto) (Q : QE) : Prop := match x with
  | .int i => Q (.int i) s
  | .bl b => Q (.int (if b then 1 else 0)) s
  | _ => False
def bAbs (x : D) (s : Sto) (Q : QE) : Prop := match x with
  | .int i => Q (.int (if i < 0 then -i else i)) s
  | _ => False
def bStr (x : D) (s : Sto) (Q : QE) : Prop := match x with
  | .int i => (0 ≤ i ∧ i < 10 ^ 10) ∧ Q (.str (strI i)) s
  | _ => False
def bTup (x : D) (s : Sto) (Q : QE) : Prop := match x with
  | .tup a => Q (.tup a) s
  | x => match seqOf s x with
    | some xs => Q (.tup xs) s
    | none => False
def bLst (x : D) (s : Sto) (Q : QE) : Prop := match seqOf s x with
  | some xs => mk (.lst xs) s Q
  | none => False
def bMax (x y : D) (s : Sto) (Q : QE) : Prop := match x, y with
  | .int i, .int j => Q (.int (if j > i then j else i)) s
  | _, _ => False
def bMin (x y : D) (s : Sto) (Q : QE) : Prop := match x, y with
  | .int i, .int j => Q (.int (if j < i then j else i)) s
  | _, _ => False
def intsOf : List D → Option (List Int)
  | [] => some []
  | .int i :: r => (intsOf r).map fun l => i :: l
  | _ :: _ => none
/-- the least, the greatest of a list of ints -/
def bMin1 (x : D) (s : Sto) (Q : QE) : Prop := match x with
  | .ref n => match s[n]? with
    | some (.lst xs) => match intsOf xs with
      | some ns => 0 < ns.length ∧ ∀ m, m ∈ ns → (∀ i ∈ ns, m ≤ i) → Q (.int m) s
      | none => False
    | _ => False
  | _ => False
def bSum (x : D) (s : Sto) (Q : QE) : Prop := match x with
  | .ref n => match s[n]? with
    | some (.lst xs) => match intsOf xs with
      | some ns => Q (.int ns.sum) s
      | none => False
    | _ => False
  | _ => False
def bSorted (x : D) (s : Sto) (Q : QE) : Prop := match x with
  | .ref n => match s[n]? with
    | some (.lst xs) => match intsOf xs with
      | some ns => ∀ ms : List Int, ms.Perm ns → ms.Pairwise (· ≤ ·) → mk (.lst (ms.map .int)) s Q
      | none => False
    | _ => False
  | _ => False
def bMax1 (x : D) (s : Sto) (Q : QE) : Prop := match x with
  | .ref n => match s[n]? with
    | some (.lst xs) => match intsOf xs with
      | some ns => 0 < ns.length ∧ ∀ m, m ∈ ns → (∀ i ∈ ns, i ≤ m) → Q (.int m) s
      | none => False
    | _ => False
  | _ => False
def xBlt (f : BF) (vs : List D) (s : Sto) (Q : QE) : Prop := match f, vs with
  | .len, [x] => bLen x s Q
  | .int, [x] => bInt x s Q
  | .abs, [x] => bAbs x s Q
  | .str, [x] => bStr x s Q
  | .tuple, [x] => bTup x s Q
  | .list, [x] => bLst x s Q
  | .max2, [x, y] => bMax x y s Q
  | .min2, [x, y] => bMin x y s Q
  | .min1, [x] => bMin1 x s Q
  | .max1, [x] => bMax1 x s Q
  | .sum, [x] => bSum x s Q
  | .sorted, [x] => bSorted x s Q
  | .isi t, [x] => match isiD t s x with
    | some b => Q (.bl b) s
    | none => False
  | _, _ => False
def strsOf : List D → Option (List (List Nat))
  | [] => some []
  | .str a :: r => (strsOf r).map fun l => a :: l
  | _ :: _ => none
def joinS (sep : List Nat) : List (List Nat) → List Nat
  | [] => []
  | [a] => a
  | a :: b :: r => a ++ sep ++ joinS sep (b :: r)
def rstripL (a : List Nat) : List Nat := (Txt.rstrip ⟨a.toArray⟩).cps.toList
/-- the receiver is of the method's type -/
def mTy (m : MF) (x : D) (s : Sto) : Prop := match m, x with
  | .join, .str _ => True
  | .join, _ => False
  | .rstrip, .str _ => True
  | .rstrip, _ => False
  | .get1, x => (dicOf s x).isSome = true
  | .get2, x => (dicOf s x).isSome = true
  | _, .ref n => match s[n]? with
    | some (.lst _) => True
    | _ => False
  | _, _ => False
def xMeth (m : MF) (o : D) (vs : List D) (s : Sto) (Q : QE) : Prop := match m, o, vs with
  | .append, .ref n, [v] => match s[n]? with
    | some (.lst xs) => xs.length < sizeLine ∧ Q .non (s.set n (.lst (xs ++ [v])))
    | _ => False
  | .pop0, .ref n, [] => match s[n]? with
    | some (.lst xs) => match xs[xs.length - 1]? with
      | some y => Q y (s.set n (.lst xs.dropLast))
      | none => False
    | _ => False
  | .extend, .ref n, [.ref m] => match s[n]?, s[m]? with
    | some (.lst xs), some (.lst ys) => xs.length + ys.length ≤ sizeLine ∧ Q .non (s.set n (.lst (xs ++ ys)))
    | _, _ => False
  | .reverse, .ref n, [] => match s[n]? with
    | some (.lst xs) => Q .non (s.set n (.lst xs.reverse))
    | _ => False
  | .join, .str sep, [x] => match seqOf s x with
    | some xs => match strsOf xs with
      | some l => (l.map List.length).sum + l.length * sep.length ≤ 16777216 ∧ Q (.str (joinS sep l)) s
      | none => False
    | none => False
  | .insert, .ref n, [.int i, v] => match s[n]? with
    | some (.lst xs) => (xs.length < sizeLine ∧ 0 ≤ i ∧ i < 2 ^ 63) ∧ Q .non (s.set n (.lst (xs.take i.toNat ++ [v] ++ xs.drop i.toNat)))
    | _ => False
  | .index, .ref n, [.int k] => match s[n]? with
    | some (.lst xs) => match intsOf xs with
      | some ns => (k ∈ ns ∧ ns.length ≤ sizeLine) ∧ Q (.int (ns.idxOf k : Nat)) s
      | none => False
    | _ => False
  | .rstrip, .str a, [] => Q (.str (rstripL a)) s
  | .get1, x, [k] => match dicOf s x with
    | some kvs => kOk x k = true ∧ Q ((dGet kvs k).getD .non) s
    | none => False
  | .get2, x, [k, d] => match dicOf s x with
    | some kvs => kOk x k = true ∧ Q ((dGet kvs k).getD d) s
    | none => False
  | _, _, _ => False
/-- o[i] = v; x op= y -/
def xAset (x y v : D) (s : Sto) (K : Sto → Prop) : Prop := match x with
  | .ref n => match s[n]? with
    | some (.lst xs) => match y with
      | .int k => match L2.ixN xs.length k with
        | some j => K (s.set n (.lst (xs.set j v)))
        | none => False
      | _ => False
    | some (.dic kvs) => keyOk y = true ∧ kvs.length < sizeLine ∧ K (s.set n (.dic (dPut kvs y v)))
    | _ => False
  | _ => False
def xIp (op : Operator) (x y : D) (s : Sto) (Q : QE) : Prop := match op, x, y with
  | .Add, .int a, .int b => Q (.int (a + b)) s
  | .Sub, .int a, .int b => Q (.int (a - b)) s
  | .Add, .str a, .str b => a.length + b.length ≤ sizeLine ∧ Q (.str (a ++ b)) s
  | _, _, _ => False
/-- an object's fields -/
def fGet (fs : List (Nat × D)) (f : Nat) : Option D := (fs.find? fun p => decide (p.1 = f)).map (·.2)
def fPut : List (Nat × D) → Nat → D → List (Nat × D)
  | [], f, v => [(f, v)]
  | (g, d) :: r, f, v => if g = f then (f, v) :: r else (g, d) :: fPut r f v
def insOf (s : Sto) : D → Option (Nat × Nat × List (Nat × D))
  | .ref n => match s[n]? with
    | some (.ins c fs) => some (n, c, fs)
    | _ => none
  | _ => none
def xFld (x : D) (f : Nat) (s : Sto) (Q : QE) : Prop := match insOf s x with
  | some (_, _, fs) => match fGet fs f with
    | some v => Q v s
    | none => False
  | none => False
def xFset (x : D) (f : Nat) (v : D) (s : Sto) (K : Sto → Prop) : Prop := match insOf s x with
  | some (n, c, fs) => fs.length < 1000 ∧ K (s.set n (.ins c (fPut fs f v)))
  | none => False
/-- an object's method: the class decides -/
def mid (c m : Nat) : Nat := 1000000 + 1000 * c + m
def cid (c : Nat) : Nat := 2000000 + c
/-- the class, where the object has no field of the method's name -/
def clsM (s : Sto) (x : D) (m : Nat) : Option Nat := match insOf s x with
  | some (_, c, fs) => if (fGet fs m).isNone then some c else none
  | none => none
def xMc (s : Sto) (x : D) (m : Nat) (cs : List Nat) (K : Nat → Prop) : Prop := match clsM s x m with
  | some c => c ∈ cs ∧ K c
  | none => False
def xRvs (x : D) (s : Sto) (Q : QE) : Prop := match seqOf s x with
  | some xs => (∀ ys, x ≠ .tup ys) ∧ mk (.lst xs.reverse) s Q
  | none => False
/-- x.f op= .. : what is there, what is put -/
def xFa1 (x : D) (f : Nat) (s : Sto) (K : Nat → Nat → D → Prop) : Prop := match insOf s x with
  | some (n, c, fs) => match fGet fs f with
    | some v => K n c v
    | none => False
  | none => False
def xFa2 (op : Operator) (n c f : Nat) (v y : D) (s : Sto) (K : Sto → Prop) : Prop := match v, y with
  | .int i, .int j => match op with
    | .Add => match s[n]? with
      | some (.ins c' fs') => c' = c ∧ fs'.length < 1000 ∧ K (s.set n (.ins c (fPut fs' f (.int (i + j)))))
      | _ => False
    | .Sub => match s[n]? with
      | some (.ins c' fs') => c' = c ∧ fs'.length < 1000 ∧ K (s.set n (.ins c (fPut fs' f (.int (i - j)))))
      | _ => False
    | _ => False
  | _, _ => False
/-- the dict at a slot -/
def xFk (σ : Sl) (i : Nat) (s : Sto) (K : Nat → List (D × D) → Prop) : Prop := match σ[i]? with
  | some (some (.ref n)) => match s[n]? with
    | some (.dic kvs) => K n kvs
    | _ => False
  | _ => False
def slotVs : Sl → Option (List D)
  | [] => some []
  | some d :: r => (slotVs r).map fun l => d :: l
  | none :: _ => none
/-- what is walked: the items, and the list that must stay as it is -/
def enumL (b : Int) : List D → List D
  | [] => []
  | x :: r => .tup [.int b, x] :: enumL (b + 1) r
def zipL : List D → List D → List D
  | x :: r, y :: q => .tup [x, y] :: zipL r q
  | _, _ => []
def xIt (ik : IK) (vs : List D) (s : Sto) (K : List D → WK → Prop) : Prop := match ik, vs with
  | .seq, [.str a] => K (a.map fun c => .str [c]) .free
  | .seq, [.ref n] => match s[n]? with
    | some (.lst xs) => K xs (.lst n)
    | _ => False
  | .seq, [.tup xs] => K xs .free
  | .seq, [.fl xs] => K xs .free
  | .rng1, [.int j] => rngOk 0 j ∧ K (rngL 0 j) .free
  | .rng2, [.int i, .int j] => rngOk i j ∧ K (rngL i j) .free
  | .enum, [.ref n] => match s[n]? with
    | some (.lst xs) => K (enumL 0 xs) (.enu 0 n)
    | _ => False
  | _, _ => False
def chk (o : WK) (xs : List D) (s : Sto) : Prop := match o with
  | .free => True
  | .lst n => s[n]? = some (.lst xs)
  | .enu b n => ∃ ys, s[n]? = some (.lst ys) ∧ xs = enumL b ys
  | .rvd n => ∃ ys, s[n]? = some (.lst ys) ∧ xs = ys.reverse
  | .key n kvs => s[n]? = some (.ldic kvs)
  | .two m n => ∃ ys zs, s[m]? = some (.lst ys) ∧ s[n]? = some (.lst zs) ∧ xs = zipL ys zs
mutual
def xTg : TG → D → Sl → (Sl → Prop) → Prop
  | .nm i, d, σ, Q => Q (σ.set i (some d))
  | .tp ts, d, σ, Q => match d with
    | .tup xs => xTgs ts xs σ Q
    | _ => False
def xTgs : List TG → List D → Sl → (Sl → Prop) → Prop
  | [], [], σ, Q => Q σ
  | t :: ts, x :: xs, σ, Q => xTg t x σ fun σ' => xTgs ts xs σ' Q
  | _, _, _, _ => False
end
def wipeS (σ : Sl) : List Nat → Sl
  | [] => σ
  | v :: vs => (wipeS σ vs).set v none

abbrev SE := Sl → Sto → QE → XQ → Prop
structure En where
  nx : Sl → Sto → Prop
  rt : QE
  bk : Sl → Sto → Prop
  ct : Sl → Sto → Prop
  ex : Nat → List (Nat × D) → Sl → Sto → Prop
abbrev SS := Sl → Sto → En → Prop

/-- a comprehension's turns: at n the list that grows -/
def lcGo (tg : TG) (o : WK) (all : List D) (n : Nat) (t : Sl → Sto → (Bool → Sto → Prop) → Prop) (f : Sl → Sto → QE → Prop) (own : List Nat) (σ : Sl) : List D → Sto → (Sto → Prop) → Prop
  | [], s, K => chk o all s ∧ K s
  | x :: r, s, K => chk o all s ∧ xTg tg x (wipeS σ own) fun σ' => t σ' s fun b s1 =>
    if b = true then f σ' s1 fun y s2 => match s2[n]? with
      | some (.lst acc) => acc.length < sizeLine ∧ lcGo tg o all n t f own σ r (s2.set n (.lst (acc ++ [y]))) K
      | _ => False
    else lcGo tg o all n t f own σ r s1 K
/-- a dict comprehension's turns: at n the dict that grows -/
def dcGo (tg : TG) (o : WK) (all : List D) (n : Nat) (t : Sl → Sto → (Bool → Sto → Prop) → Prop) (fk fv : Sl → Sto → QE → Prop) (own : List Nat) (σ : Sl) : List D → Sto → (Sto → Prop) → Prop
  | [], s, K => chk o all s ∧ K s
  | x :: r, s, K => chk o all s ∧ xTg tg x (wipeS σ own) fun σ' => t σ' s fun b s1 =>
    if b = true then fk σ' s1 fun y s2 => fv σ' s2 fun z s3 => match s3[n]? with
      | some (.dic kvs) => keyOk y = true ∧ kvs.length < sizeLine ∧ dcGo tg o all n t fk fv own σ r (s3.set n (.dic (dPut kvs y z))) K
      | _ => False
    else dcGo tg o all n t fk fv own σ r s1 K
/-- a for's turns -/
def forGo (tg : TG) (o : WK) (all : List D) (b : SS) (N : En) : List D → Sl → Sto → Prop
  | [], σ, s => chk o all s ∧ N.nx σ s
  | x :: r, σ, s => chk o all s ∧ xTg tg x σ fun σ' => b σ' s { nx := fun σ s => forGo tg o all b N r σ s, ct := fun σ s => forGo tg o all b N r σ s, bk := N.nx, rt := N.rt, ex := N.ex }
/-- a while, by its invariant -/
def whlGo (c : SE) (b : SS) (N : En) (σ : Sl) (s : Sto) : Prop := ∃ W : Nat → Sl → Sto → Prop, (∃ m, W m σ s) ∧ ∀ m σ s, W m σ s →
  c σ s (fun d s1 => br (tru s1 d) (b σ s1 { nx := fun σ s => ∃ m', m' < m ∧ W m' σ s, ct := fun σ s => ∃ m', m' < m ∧ W m' σ s, bk := N.nx, rt := N.rt, ex := N.ex }) (N.nx σ s1)) (fun e fs s1 => N.ex e fs σ s1)

mutual
def xE (G : FS) : EX → Sl → Sto → QE → XQ → Prop
  | .lit d, _, s, Q, _ => Q d s
  | .var i, σ, s, Q, _ => match σ[i]? with
    | some (some d) => Q d s
    | _ => False
  | .bin op a b, σ, s, Q, E => xE G a σ s (fun x s1 => xE G b σ s1 (fun y s2 => xBin op x y s2 Q) E) E
  | .neg a, σ, s, Q, E => xE G a σ s (fun x s1 => match x with
    | .int i => Q (.int (-i)) s1
    | _ => False) E
  | .cmp op a b, σ, s, Q, E => xE G a σ s (fun x s1 => xE G b σ s1 (fun y s2 => obl (cmpD s2 op x y) fun c => Q (.bl c) s2) E) E
  | .chn op op' a b c, σ, s, Q, E => xE G a σ s (fun x s1 => xE G b σ s1 (fun y s2 => br (cmpD s2 op x y) (xE G c σ s2 (fun z s3 => obl (cmpD s3 op' y z) fun c => Q (.bl c) s3) E) (Q (.bl false) s2)) E) E
  | .and a b, σ, s, Q, E => xE G a σ s (fun x s1 => br (tru s1 x) (xE G b σ s1 Q E) (Q x s1)) E
  | .or a b, σ, s, Q, E => xE G a σ s (fun x s1 => br (tru s1 x) (Q x s1) (xE G b σ s1 Q E)) E
  | .not a, σ, s, Q, E => xE G a σ s (fun x s1 => obl (tru s1 x) fun c => Q (.bl (!c)) s1) E
  | .ite c a b, σ, s, Q, E => xE G c σ s (fun x s1 => br (tru s1 x) (xE G a σ s1 Q E) (xE G b σ s1 Q E)) E
  | .tup es, σ, s, Q, E => xEs G es σ s (fun vs s1 => vs.length ≤ sizeLine ∧ Q (.tup vs) s1) E
  | .lst es, σ, s, Q, E => xEs G es σ s (fun vs s1 => vs.length ≤ sizeLine ∧ mk (.lst vs) s1 Q) E
  | .dct es, σ, s, Q, E => xEs G es σ (s ++ [.dic []]) (fun vs s1 => match pairUp vs with
    | some kvs => s1[s.length]? = some (.dic []) ∧ kvs.length ≤ 15 ∧ Q (.ref s.length) (s1.set s.length (.dic (kvs.foldl (fun acc p => dPut acc p.1 p.2) [])))
    | none => False) E
  | .ix a b, σ, s, Q, E => xE G a σ s (fun x s1 => xE G b σ s1 (fun y s2 => xIx x y s2 Q) E) E
  | .sl a l h, σ, s, Q, E => xE G a σ s (fun x s1 => xE G l σ s1 (fun y s2 => (partD y).isSome = true ∧ xE G h σ s2 (fun z s3 => (partD z).isSome = true ∧ xSl x y z s3 Q) E) E) E
  | .call f es, σ, s, Q, E => xEs G es σ s (fun vs s1 => G f vs s1 Q E) E
  | .blt f es, σ, s, Q, E => xEs G es σ s (fun vs s1 => xBlt f vs s1 Q) E
  | .meth m o es, σ, s, Q, E => xE G o σ s (fun x s1 => mTy m x s1 ∧ xEs G es σ s1 (fun vs s2 => xMeth m x vs s2 Q) E) E
  | .lc own tg ik its ifs elt, σ, s, Q, E => xEs G its σ s (fun vs s1 => xIt ik vs s1 fun items o =>
      lcGo tg o items s1.length (fun σ' s' K => xIf G ifs σ' s' K) (fun σ' s' K => xE G elt σ' s' K (fun _ _ _ => False)) own σ items (s1 ++ [.lst []]) fun s' => Q (.ref s1.length) s') E
  | .dc own tg ik its ifs k v, σ, s, Q, E => xEs G its σ s (fun vs s1 => xIt ik vs s1 fun items o =>
      dcGo tg o items s1.length (fun σ' s' K => xIf G ifs σ' s' K) (fun σ' s' K => xE G k σ' s' K (fun _ _ _ => False)) (fun σ' s' K => xE G v σ' s' K (fun _ _ _ => False)) own σ items (s1 ++ [.dic []]) fun s' => Q (.ref s1.length) s') E
  | .fld o f, σ, s, Q, E => xE G o σ s (fun x s1 => xFld x f s1 Q) E
  | .mcall m cs o es, σ, s, Q, E => xE G o σ s (fun x s1 => xMc s1 x m cs fun c => xEs G es σ s1 (fun vs s2 => G (mid c m) (x :: vs) s2 Q E) E) E
  | .rvs a, σ, s, Q, E => xE G a σ s (fun x s1 => xRvs x s1 Q) E
def xEs (G : FS) : List EX → Sl → Sto → (List D → Sto → Prop) → XQ → Prop
  | [], _, s, Q, _ => Q [] s
  | e :: es, σ, s, Q, E => xE G e σ s (fun x s1 => xEs G es σ s1 (fun xs s2 => Q (x :: xs) s2) E) E
def xIf (G : FS) : List EX → Sl → Sto → (Bool → Sto → Prop) → Prop
  | [], _, s, K => K true s
  | e :: es, σ, s, K => xE G e σ s (fun x s1 => br (tru s1 x) (xIf G es σ s1 K) (K false s1)) (fun _ _ _ => False)
end
mutual
def xS (G : FS) : ST → SS
  | .expr e, σ, s, N => xE G e σ s (fun _ s1 => N.nx σ s1) (fun c fs s1 => N.ex c fs σ s1)
  | .asg tg e, σ, s, N => xE G e σ s (fun x s1 => xTg tg x σ fun σ' => N.nx σ' s1) (fun c fs s1 => N.ex c fs σ s1)
  | .aset o i e, σ, s, N => xE G e σ s (fun v s1 => xE G o σ s1 (fun x s2 => xE G i σ s2 (fun y s3 => xAset x y v s3 fun s4 => N.nx σ s4) (fun c fs s1 => N.ex c fs σ s1)) (fun c fs s1 => N.ex c fs σ s1)) (fun c fs s1 => N.ex c fs σ s1)
  | .aug i op e, σ, s, N => match σ[i]? with
    | some (some x) => xE G e σ s (fun y s1 => xIp op x y s1 fun z s2 => N.nx (σ.set i (some z)) s2) (fun c fs s1 => N.ex c fs σ s1)
    | _ => False
  | .ite c a b, σ, s, N => xE G c σ s (fun x s1 => br (tru s1 x) (xSs G a σ s1 N) (xSs G b σ s1 N)) (fun c fs s1 => N.ex c fs σ s1)
  | .whl c b, σ, s, N => whlGo (fun σ s Q E => xE G c σ s Q E) (fun σ s N => xSs G b σ s N) N σ s
  | .for_ tg ik its b, σ, s, N => xEs G its σ s (fun vs s1 => xIt ik vs s1 fun items o => forGo tg o items (fun σ s N => xSs G b σ s N) N items σ s1) (fun c fs s1 => N.ex c fs σ s1)
  | .ret e, σ, s, N => xE G e σ s N.rt (fun c fs s1 => N.ex c fs σ s1)
  | .brk, σ, s, N => N.bk σ s
  | .cnt, σ, s, N => N.ct σ s
  | .pass, σ, s, N => N.nx σ s
  | .fset o f e, σ, s, N => xE G e σ s (fun v s1 => xE G o σ s1 (fun x s2 => xFset x f v s2 fun s3 => N.nx σ s3) (fun c fs s1 => N.ex c fs σ s1)) (fun c fs s1 => N.ex c fs σ s1)
  | .faug o f op e, σ, s, N => xE G o σ s (fun x s1 => xFa1 x f s1 fun n c v => xE G e σ s1 (fun y s2 => xFa2 op n c f v y s2 fun s3 => N.nx σ s3) (fun c fs s1 => N.ex c fs σ s1)) (fun c fs s1 => N.ex c fs σ s1)
  | .forK tg i b, σ, s, N => xFk σ i s fun n kvs => forGo tg (.key n kvs) (kvs.map (·.1)) (fun σ s N => xSs G b σ s N)
        { nx := fun σ s => s[n]? = some (.ldic kvs) ∧ N.nx σ (s.set n (.dic kvs)), bk := fun σ s => s[n]? = some (.ldic kvs) ∧ N.bk σ (s.set n (.dic kvs)), ct := fun σ s => s[n]? = some (.ldic kvs) ∧ N.ct σ (s.set n (.dic kvs)),
          rt := fun d s => s[n]? = some (.ldic kvs) ∧ N.rt d (s.set n (.dic kvs)), ex := fun _ _ _ _ => False } (kvs.map (·.1)) σ (s.set n (.ldic kvs))
  | .ctor c i, σ, s, N => match slotVs σ with
    | some vs => G i (.ref s.length :: vs) (s ++ [.ins c []]) (fun v s' => v = .non ∧ N.rt (.ref s.length) s') (fun e fs s' => N.ex e fs σ s')
    | none => False
def xSs (G : FS) : List ST → SS
  | [], σ, s, N => N.nx σ s
  | st :: r, σ, s, N => xS G st σ s { N with nx := fun σ s => xSs G r σ s N }
end
structure Fn where
  ar : Nat
  sl : Nat
  body : List ST
/-- the meaning of the defs of a table, by the depth of calls -/
def Lv (T : Nat → Option Fn) : Nat → FS
  | 0 => fun _ _ _ _ _ => False
  | k + 1 => fun f vs s Q E => match T f with
    | none => False
    | some fn => vs.length = fn.ar ∧ xSs (Lv T k) fn.body (vs.map some ++ List.replicate (fn.sl - fn.ar) none) s
      { nx := fun _ s' => Q .non s', rt := Q, bk := fun _ _ => False, ct := fun _ _ => False, ex := fun c fs _ s' => E c fs s' }
end PX

/-! PX: what follows may be weakened. -/
namespace PX
open PySem

theorem br_mono {o : Option Bool} {A B A' B' : Prop} (h : br o A B) (ha : A → A') (hb : B → B') : br o A' B' := by
  match o, h with
  | some true, h => exact ha h
  | some false, h => exact hb h
theorem obl_mono {o : Option Bool} {K K' : Bool → Prop} (h : obl o K) (hk : ∀ b, K b → K' b) : obl o K' := by
  match o, h with
  | some b, h => exact hk b h
section
variable {s : Sto} {Q Q' : QE}
theorem mk_mono {o : Ob} (hQ : ∀ d s, Q d s → Q' d s) (h : mk o s Q) : mk o s Q' := hQ _ _ h
theorem xBin_mono (op : Operator) (x y : D) (hQ : ∀ d s, Q d s → Q' d s) : xBin op x y s Q → xBin op x y s Q' := by
  unfold xBin
  repeat' split
  all_goals first
    | (intro h; exact absurd h id)
    | (intro h; exact hQ _ _ h)
    | (intro h; exact mk_mono hQ h)
    | (intro h; exact ⟨h.1, hQ _ _ h.2⟩)
    | (intro h; exact ⟨h.1, mk_mono hQ h.2⟩)
theorem xIx_mono (x y : D) (hQ : ∀ d s, Q d s → Q' d s) : xIx x y s Q → xIx x y s Q' := by
  unfold xIx xIs
  repeat' split
  all_goals first
    | (intro h; exact absurd h id)
    | (intro h; exact absurd h.2 id)
    | (intro h; exact hQ _ _ h)
    | (intro h; exact mk_mono hQ h)
    | (intro h; exact ⟨h.1, hQ _ _ h.2⟩)
    | (intro h; exact ⟨h.1, mk_mono hQ h.2⟩)
theorem xSl_mono (x l h : D) (hQ : ∀ d s, Q d s → Q' d s) : xSl x l h s Q → xSl x l h s Q' := by
  unfold xSl
  repeat' split
  all_goals first
    | (intro h; exact absurd h id)
    | (intro h; exact hQ _ _ h)
    | (intro h; exact mk_mono hQ h)
    | (intro h; exact ⟨h.1, hQ _ _ h.2⟩)
    | (intro h; exact ⟨h.1, mk_mono hQ h.2⟩)
theorem xBlt_mono (f : BF) (vs : List D) (hQ : ∀ d s, Q d s → Q' d s) : xBlt f vs s Q → xBlt f vs s Q' := by
  unfold xBlt bLen bInt bAbs bStr bTup bLst bMax bMin bMin1 bMax1 bSum bSorted
  repeat' split
  all_goals first
    | (intro h; exact absurd h id)
    | (intro h; exact ⟨h.1, fun m h1 h2 => hQ _ _ (h.2 m h1 h2)⟩)
    | (intro h; exact fun m h1 h2 => mk_mono hQ (h m h1 h2))
    | (intro h; exact hQ _ _ h)
    | (intro h; exact mk_mono hQ h)
    | (intro h; exact ⟨h.1, hQ _ _ h.2⟩)
    | (intro h; exact ⟨h.1, mk_mono hQ h.2⟩)
theorem xMeth_mono (m : MF) (o : D) (vs : List D) (hQ : ∀ d s, Q d s → Q' d s) : xMeth m o vs s Q → xMeth m o vs s Q' := by
  unfold xMeth
  repeat' split
  all_goals first
    | (intro h; exact absurd h id)
    | (intro h; exact hQ _ _ h)
    | (intro h; exact mk_mono hQ h)
    | (intro h; exact ⟨h.1, hQ _ _ h.2⟩)
    | (intro h; exact ⟨h.1, mk_mono hQ h.2⟩)
theorem xIp_mono (op : Operator) (x y : D) (hQ : ∀ d s, Q d s → Q' d s) : xIp op x y s Q → xIp op x y s Q' := by
  unfold xIp
  repeat' split
  all_goals first
    | (intro h; exact absurd h id)
    | (intro h; exact hQ _ _ h)
    | (intro h; exact ⟨h.1, hQ _ _ h.2⟩)
theorem bMin1_mono (x : D) (hQ : ∀ d s, Q d s → Q' d s) : bMin1 x s Q → bMin1 x s Q' := by
  unfold bMin1
  repeat' split
  all_goals first
    | (intro h; exact absurd h id)
    | (intro h; exact ⟨h.1, fun m h1 h2 => hQ _ _ (h.2 m h1 h2)⟩)
theorem bMax1_mono (x : D) (hQ : ∀ d s, Q d s → Q' d s) : bMax1 x s Q → bMax1 x s Q' := by
  unfold bMax1
  repeat' split
  all_goals first
    | (intro h; exact absurd h id)
    | (intro h; exact ⟨h.1, fun m h1 h2 => hQ _ _ (h.2 m h1 h2)⟩)
theorem xFld_mono (x : D) (f : Nat) (hQ : ∀ d s, Q d s → Q' d s) : xFld x f s Q → xFld x f s Q' := by
  unfold xFld
  repeat' split
  all_goals first
    | (intro h; exact absurd h id)
    | (intro h; exact hQ _ _ h)
theorem xMc_mono (x : D) (m : Nat) (cs : List Nat) {K K' : Nat → Prop} (hK : ∀ c, K c → K' c) : xMc s x m cs K → xMc s x m cs K' := by
  unfold xMc
  repeat' split
  all_goals first
    | (intro h; exact absurd h id)
    | (intro h; exact ⟨h.1, hK _ h.2⟩)
theorem xRvs_mono (x : D) (hQ : ∀ d s, Q d s → Q' d s) : xRvs x s Q → xRvs x s Q' := by
  unfold xRvs
  repeat' split
  all_goals first
    | (intro h; exact absurd h id)
    | (intro h; exact ⟨h.1, mk_mono hQ h.2⟩)
theorem xFa1_mono (x : D) (f : Nat) {K K' : Nat → Nat → D → Prop} (hK : ∀ n c v, K n c v → K' n c v) : xFa1 x f s K → xFa1 x f s K' := by
  unfold xFa1
  repeat' split
  all_goals first
    | (intro h; exact absurd h id)
    | (intro h; exact hK _ _ _ h)
theorem xFa2_mono (op : Operator) (n c f : Nat) (v y : D) {K K' : Sto → Prop} (hK : ∀ s, K s → K' s) : xFa2 op n c f v y s K → xFa2 op n c f v y s K' := by
  unfold xFa2
  repeat' split
  all_goals first
    | (intro h; exact absurd h id)
    | (intro h; exact ⟨h.1, h.2.1, hK _ h.2.2⟩)
theorem xFk_mono (σ : Sl) (i : Nat) {K K' : Nat → List (D × D) → Prop} (hK : ∀ n kvs, K n kvs → K' n kvs) : xFk σ i s K → xFk σ i s K' := by
  unfold xFk
  repeat' split
  all_goals first
    | (intro h; exact absurd h id)
    | (intro h; exact hK _ _ h)
theorem xFset_mono (x : D) (f : Nat) (v : D) {K K' : Sto → Prop} (hK : ∀ s, K s → K' s) : xFset x f v s K → xFset x f v s K' := by
  unfold xFset
  repeat' split
  all_goals first
    | (intro h; exact absurd h id)
    | (intro h; exact ⟨h.1, hK _ h.2⟩)
theorem xAset_mono (x y v : D) {K K' : Sto → Prop} (hK : ∀ s, K s → K' s) : xAset x y v s K → xAset x y v s K' := by
  unfold xAset
  repeat' split
  all_goals first
    | (intro h; exact absurd h id)
    | (intro h; exact hK _ h)
    | (intro h; exact ⟨h.1, h.2.1, hK _ h.2.2⟩)
theorem xIt_mono (ik : IK) (vs : List D) {K K' : List D → WK → Prop} (hK : ∀ l o, K l o → K' l o) : xIt ik vs s K → xIt ik vs s K' := by
  unfold xIt
  repeat' split
  all_goals first
    | (intro h; exact absurd h id)
    | (intro h; exact hK _ _ h)
    | (intro h; exact ⟨h.1, hK _ _ h.2⟩)
end
mutual
theorem xTg_mono : ∀ (t : TG) {d : D} {σ : Sl} {Q Q' : Sl → Prop}, (∀ σ, Q σ → Q' σ) → xTg t d σ Q → xTg t d σ Q'
  | .nm i, _, _, _, _, hQ, h => hQ _ h
  | .tp ts, d, σ, Q, Q', hQ, h => by
    cases d with
    | tup xs => exact xTgs_mono ts hQ h
    | _ => exact absurd h id
theorem xTgs_mono : ∀ (ts : List TG) {xs : List D} {σ : Sl} {Q Q' : Sl → Prop}, (∀ σ, Q σ → Q' σ) → xTgs ts xs σ Q → xTgs ts xs σ Q'
  | [], [], _, _, _, hQ, h => hQ _ h
  | [], _ :: _, _, _, _, hQ, h => absurd h id
  | _ :: _, [], _, _, _, hQ, h => absurd h id
  | t :: ts, x :: xs, σ, Q, Q', hQ, h => xTg_mono t (fun σ' h => xTgs_mono ts hQ h) h
end
theorem lcGo_mono {tg : TG} {o : WK} {all : List D} {n : Nat} {t t' : Sl → Sto → (Bool → Sto → Prop) → Prop} {f f' : Sl → Sto → QE → Prop} {own : List Nat} {σ : Sl}
    (ht : ∀ σ s K K', (∀ b s, K b s → K' b s) → t σ s K → t' σ s K') (hf : ∀ σ s (Q Q' : QE), (∀ b s, Q b s → Q' b s) → f σ s Q → f' σ s Q') :
    ∀ (r : List D) (s : Sto) {K K' : Sto → Prop}, (∀ s, K s → K' s) → lcGo tg o all n t f own σ r s K → lcGo tg o all n t' f' own σ r s K'
  | [], s, K, K', hK, h => ⟨h.1, hK _ h.2⟩
  | x :: r, s, K, K', hK, h => ⟨h.1, xTg_mono tg (fun σ' h => ht _ _ _ _ (fun b s1 h => by
      cases b with
      | true =>
        simp only [if_true] at h ⊢
        refine hf _ _ _ _ (fun y s2 h => ?_) h
        split at h
        · exact ⟨h.1, lcGo_mono ht hf r _ hK h.2⟩
        · exact absurd h id
      | false =>
        rw [if_neg Bool.false_ne_true] at h ⊢
        exact lcGo_mono ht hf r _ hK h) h) h.2⟩
theorem dcGo_mono {tg : TG} {o : WK} {all : List D} {n : Nat} {t t' : Sl → Sto → (Bool → Sto → Prop) → Prop} {f f' g g' : Sl → Sto → QE → Prop} {own : List Nat} {σ : Sl}
    (ht : ∀ σ s K K', (∀ b s, K b s → K' b s) → t σ s K → t' σ s K') (hf : ∀ σ s (Q Q' : QE), (∀ b s, Q b s → Q' b s) → f σ s Q → f' σ s Q') (hg : ∀ σ s (Q Q' : QE), (∀ b s, Q b s → Q' b s) → g σ s Q → g' σ s Q') :
    ∀ (r : List D) (s : Sto) {K K' : Sto → Prop}, (∀ s, K s → K' s) → dcGo tg o all n t f g own σ r s K → dcGo tg o all n t' f' g' own σ r s K'
  | [], s, K, K', hK, h => ⟨h.1, hK _ h.2⟩
  | x :: r, s, K, K', hK, h => ⟨h.1, xTg_mono tg (fun σ' h => ht _ _ _ _ (fun b s1 h => by
      cases b with
      | true =>
        simp only [if_true] at h ⊢
        refine hf _ _ _ _ (fun y s2 h => hg _ _ _ _ (fun z s3 h => ?_) h) h
        split at h
        · exact ⟨h.1, h.2.1, dcGo_mono ht hf hg r _ hK h.2.2⟩
        · exact absurd h id
      | false =>
        rw [if_neg Bool.false_ne_true] at h ⊢
        exact dcGo_mono ht hf hg r _ hK h) h) h.2⟩
structure En.le (N N' : En) : Prop where
  nx : ∀ σ s, N.nx σ s → N'.nx σ s
  rt : ∀ d s, N.rt d s → N'.rt d s
  bk : ∀ σ s, N.bk σ s → N'.bk σ s
  ct : ∀ σ s, N.ct σ s → N'.ct σ s
  ex : ∀ c fs σ s, N.ex c fs σ s → N'.ex c fs σ s
theorem forGo_mono {tg : TG} {o : WK} {all : List D} {b b' : SS} (hb : ∀ σ s N N', En.le N N' → b σ s N → b' σ s N') {N N' : En} (hN : En.le N N') :
    ∀ (r : List D) (σ : Sl) (s : Sto), forGo tg o all b N r σ s → forGo tg o all b' N' r σ s
  | [], σ, s, h => ⟨h.1, hN.nx _ _ h.2⟩
  | x :: r, σ, s, h => ⟨h.1, xTg_mono tg (fun σ' h => hb _ _ { nx := fun σ s => forGo tg o all b N r σ s, ct := fun σ s => forGo tg o all b N r σ s, bk := N.nx, rt := N.rt, ex := N.ex } _ ⟨fun σ s h => forGo_mono hb hN r σ s h, hN.rt, hN.nx, fun σ s h => forGo_mono hb hN r σ s h, hN.ex⟩ h) h.2⟩
theorem whlGo_mono {c c' : SE} {b b' : SS} (hc : ∀ σ s (Q Q' : QE) (E E' : XQ), (∀ d s, Q d s → Q' d s) → (∀ e fs s, E e fs s → E' e fs s) → c σ s Q E → c' σ s Q' E')
    (hb : ∀ σ s N N', En.le N N' → b σ s N → b' σ s N') {N N' : En} (hN : En.le N N') {σ : Sl} {s : Sto} (h : whlGo c b N σ s) : whlGo c' b' N' σ s := by
  obtain ⟨W, h0, h⟩ := h
  refine ⟨W, h0, fun m σ s hw => hc _ _ _ _ _ _ (fun d s1 h => ?_) (fun e fs s1 h => hN.ex _ _ _ _ h) (h m σ s hw)⟩
  exact br_mono h (hb _ _ _ _ ⟨fun _ _ h => h, hN.rt, hN.nx, fun _ _ h => h, hN.ex⟩) (hN.nx _ _)
/-- what a meaning of the defs must bear -/
def FS.Mono (G : FS) : Prop := ∀ f vs s (Q Q' : QE) (E E' : XQ), (∀ d s, Q d s → Q' d s) → (∀ c fs s, E c fs s → E' c fs s) → G f vs s Q E → G f vs s Q' E'
section
variable {G : FS} (hG : G.Mono)
include hG
mutual
theorem xE_mono : ∀ (e : EX) {σ : Sl} {s : Sto} {Q Q' : QE} {E E' : XQ}, (∀ d s, Q d s → Q' d s) → (∀ c fs s, E c fs s → E' c fs s) → xE G e σ s Q E → xE G e σ s Q' E'
  | .lit d, _, _, _, _, _, _, hQ, hE, h => hQ _ _ h
  | .var i, σ, s, Q, Q', E, E', hQ, hE, h => by
    simp only [xE] at h ⊢
    split at h
    · exact hQ _ _ h
    · exact absurd h id
  | .bin op a b, σ, s, Q, Q', E, E', hQ, hE, h => by
    simp only [xE] at h ⊢
    exact xE_mono a (fun x s1 h => xE_mono b (fun y s2 h => xBin_mono op x y hQ h) hE h) hE h
  | .neg a, σ, s, Q, Q', E, E', hQ, hE, h => by
    simp only [xE] at h ⊢
    refine xE_mono a (fun x s1 h => ?_) hE h
    cases x <;> first | exact hQ _ _ h | exact absurd h id
  | .cmp op a b, σ, s, Q, Q', E, E', hQ, hE, h => by
    simp only [xE] at h ⊢
    exact xE_mono a (fun x s1 h => xE_mono b (fun y s2 h => obl_mono h fun _ h => hQ _ _ h) hE h) hE h
  | .chn op op' a b c, σ, s, Q, Q', E, E', hQ, hE, h => by
    simp only [xE] at h ⊢
    exact xE_mono a (fun x s1 h => xE_mono b (fun y s2 h => br_mono h (fun h => xE_mono c (fun z s3 h => obl_mono h fun _ h => hQ _ _ h) hE h) (hQ _ _)) hE h) hE h
  | .and a b, σ, s, Q, Q', E, E', hQ, hE, h => by
    simp only [xE] at h ⊢
    exact xE_mono a (fun x s1 h => br_mono h (fun h => xE_mono b hQ hE h) (hQ _ _)) hE h
  | .or a b, σ, s, Q, Q', E, E', hQ, hE, h => by
    simp only [xE] at h ⊢
    exact xE_mono a (fun x s1 h => br_mono h (hQ _ _) (fun h => xE_mono b hQ hE h)) hE h
  | .not a, σ, s, Q, Q', E, E', hQ, hE, h => by
    simp only [xE] at h ⊢
    exact xE_mono a (fun x s1 h => obl_mono h fun _ h => hQ _ _ h) hE h
  | .ite c a b, σ, s, Q, Q', E, E', hQ, hE, h => by
    simp only [xE] at h ⊢
    exact xE_mono c (fun x s1 h => br_mono h (fun h => xE_mono a hQ hE h) (fun h => xE_mono b hQ hE h)) hE h
  | .tup es, σ, s, Q, Q', E, E', hQ, hE, h => by
    simp only [xE] at h ⊢
    exact xEs_mono es (fun vs s1 h => ⟨h.1, hQ _ _ h.2⟩) hE h
  | .lst es, σ, s, Q, Q', E, E', hQ, hE, h => by
    simp only [xE] at h ⊢
    exact xEs_mono es (fun vs s1 h => ⟨h.1, mk_mono hQ h.2⟩) hE h
  | .dct es, σ, s, Q, Q', E, E', hQ, hE, h => by
    simp only [xE] at h ⊢
    refine xEs_mono es (fun vs s1 h => ?_) hE h
    cases hp : pairUp vs with
    | none => rw [hp] at h; exact absurd h id
    | some kvs => rw [hp] at h; exact ⟨h.1, h.2.1, hQ _ _ h.2.2⟩
  | .ix a b, σ, s, Q, Q', E, E', hQ, hE, h => by
    simp only [xE] at h ⊢
    exact xE_mono a (fun x s1 h => xE_mono b (fun y s2 h => xIx_mono x y hQ h) hE h) hE h
  | .sl a l u, σ, s, Q, Q', E, E', hQ, hE, h => by
    simp only [xE] at h ⊢
    exact xE_mono a (fun x s1 h => xE_mono l (fun y s2 h => ⟨h.1, xE_mono u (fun z s3 h => ⟨h.1, xSl_mono x y z hQ h.2⟩) hE h.2⟩) hE h) hE h
  | .call f es, σ, s, Q, Q', E, E', hQ, hE, h => by
    simp only [xE] at h ⊢
    exact xEs_mono es (fun vs s1 h => hG _ _ _ _ _ _ _ hQ hE h) hE h
  | .blt f es, σ, s, Q, Q', E, E', hQ, hE, h => by
    simp only [xE] at h ⊢
    exact xEs_mono es (fun vs s1 h => xBlt_mono f vs hQ h) hE h
  | .meth m o es, σ, s, Q, Q', E, E', hQ, hE, h => by
    simp only [xE] at h ⊢
    exact xE_mono o (fun x s1 h => ⟨h.1, xEs_mono es (fun vs s2 h => xMeth_mono m x vs hQ h) hE h.2⟩) hE h
  | .lc own tg ik its ifs elt, σ, s, Q, Q', E, E', hQ, hE, h => by
    simp only [xE] at h ⊢
    exact xEs_mono its (fun vs s1 h => xIt_mono ik vs (fun l o h => lcGo_mono (t := fun σ' s' K => xIf G ifs σ' s' K) (f := fun σ' s' K => xE G elt σ' s' K (fun _ _ _ => False)) (fun σ s K K' hK h => xIf_mono ifs hK h) (fun σ s Q Q' hQ h => xE_mono elt hQ (fun _ _ _ h => h) h) _ _ (fun s h => hQ _ _ h) h) h) hE h
  | .dc own tg ik its ifs k v, σ, s, Q, Q', E, E', hQ, hE, h => by
    simp only [xE] at h ⊢
    exact xEs_mono its (fun vs s1 h => xIt_mono ik vs (fun l o h => dcGo_mono (t := fun σ' s' K => xIf G ifs σ' s' K) (f := fun σ' s' K => xE G k σ' s' K (fun _ _ _ => False)) (g := fun σ' s' K => xE G v σ' s' K (fun _ _ _ => False)) (fun σ s K K' hK h => xIf_mono ifs hK h) (fun σ s Q Q' hQ h => xE_mono k hQ (fun _ _ _ h => h) h) (fun σ s Q Q' hQ h => xE_mono v hQ (fun _ _ _ h => h) h) _ _ (fun s h => hQ _ _ h) h) h) hE h
  | .fld o f, σ, s, Q, Q', E, E', hQ, hE, h => by
    simp only [xE] at h ⊢
    exact xE_mono o (fun x s1 h => xFld_mono x f hQ h) hE h
  | .mcall m cs o es, σ, s, Q, Q', E, E', hQ, hE, h => by
    simp only [xE] at h ⊢
    exact xE_mono o (fun x s1 h => xMc_mono x m cs (fun c h => xEs_mono es (fun vs s2 h => hG _ _ _ _ _ _ _ hQ hE h) hE h) h) hE h
  | .rvs a, σ, s, Q, Q', E, E', hQ, hE, h => by
    simp only [xE] at h ⊢
    exact xE_mono a (fun x s1 h => xRvs_mono x hQ h) hE h
theorem xEs_mono : ∀ (es : List EX) {σ : Sl} {s : Sto} {Q Q' : List D → Sto → Prop} {E E' : XQ}, (∀ d s, Q d s → Q' d s) → (∀ c fs s, E c fs s → E' c fs s) → xEs G es σ s Q E → xEs G es σ s Q' E'
  | [], _, _, _, _, _, _, hQ, hE, h => hQ _ _ h
  | e :: es, σ, s, Q, Q', E, E', hQ, hE, h => by
    simp only [xEs] at h ⊢
    exact xE_mono e (fun x s1 h => xEs_mono es (fun xs s2 h => hQ _ _ h) hE h) hE h
theorem xIf_mono : ∀ (es : List EX) {σ : Sl} {s : Sto} {K K' : Bool → Sto → Prop}, (∀ d s, K d s → K' d s) → xIf G es σ s K → xIf G es σ s K'
  | [], _, _, _, _, hK, h => hK _ _ h
  | e :: es, σ, s, K, K', hK, h => by
    simp only [xIf] at h ⊢
    exact xE_mono e (fun x s1 h => br_mono h (fun h => xIf_mono es hK h) (hK _ _)) (fun _ _ _ h => h) h
end
mutual
theorem xS_mono : ∀ (st : ST) {σ : Sl} {s : Sto} {N N' : En}, En.le N N' → xS G st σ s N → xS G st σ s N'
  | .expr e, σ, s, N, N', hN, h => by
    simp only [xS] at h ⊢
    exact xE_mono hG e (fun x s1 h => hN.nx _ _ h) (fun _ _ _ h => hN.ex _ _ _ _ h) h
  | .asg tg e, σ, s, N, N', hN, h => by
    simp only [xS] at h ⊢
    exact xE_mono hG e (fun x s1 h => xTg_mono tg (fun σ h => hN.nx _ _ h) h) (fun _ _ _ h => hN.ex _ _ _ _ h) h
  | .aset o i e, σ, s, N, N', hN, h => by
    simp only [xS] at h ⊢
    exact xE_mono hG e (fun v s1 h => xE_mono hG o (fun x s2 h => xE_mono hG i (fun y s3 h => xAset_mono x y v (fun _ h => hN.nx _ _ h) h) (fun _ _ _ h => hN.ex _ _ _ _ h) h) (fun _ _ _ h => hN.ex _ _ _ _ h) h) (fun _ _ _ h => hN.ex _ _ _ _ h) h
  | .aug i op e, σ, s, N, N', hN, h => by
    simp only [xS] at h ⊢
    split at h
    · exact xE_mono hG e (fun v s1 h => xIp_mono op _ _ (fun _ _ h => hN.nx _ _ h) h) (fun _ _ _ h => hN.ex _ _ _ _ h) h
    · exact absurd h id
  | .ite c a b, σ, s, N, N', hN, h => by
    simp only [xS] at h ⊢
    exact xE_mono hG c (fun x s1 h => br_mono h (fun h => xSs_mono a hN h) (fun h => xSs_mono b hN h)) (fun _ _ _ h => hN.ex _ _ _ _ h) h
  | .whl c b, σ, s, N, N', hN, h => by
    simp only [xS] at h ⊢
    exact whlGo_mono (c := fun σ s Q E => xE G c σ s Q E) (b := fun σ s N => xSs G b σ s N) (fun σ s Q Q' E E' hQ hE h => xE_mono hG c hQ hE h) (fun σ s N N' hN h => xSs_mono b hN h) hN h
  | .for_ tg ik its b, σ, s, N, N', hN, h => by
    simp only [xS] at h ⊢
    exact xEs_mono hG its (fun vs s1 h => xIt_mono ik vs (fun l o h => forGo_mono (b := fun σ s N => xSs G b σ s N) (fun σ s N N' hN h => xSs_mono b hN h) hN _ _ _ h) h) (fun _ _ _ h => hN.ex _ _ _ _ h) h
  | .ret e, σ, s, N, N', hN, h => by
    simp only [xS] at h ⊢
    exact xE_mono hG e hN.rt (fun _ _ _ h => hN.ex _ _ _ _ h) h
  | .brk, _, _, _, _, hN, h => hN.bk _ _ h
  | .cnt, _, _, _, _, hN, h => hN.ct _ _ h
  | .pass, _, _, _, _, hN, h => hN.nx _ _ h
  | .fset o f e, σ, s, N, N', hN, h => by
    simp only [xS] at h ⊢
    exact xE_mono hG e (fun v s1 h => xE_mono hG o (fun x s2 h => xFset_mono x f v (fun _ h => hN.nx _ _ h) h) (fun _ _ _ h => hN.ex _ _ _ _ h) h) (fun _ _ _ h => hN.ex _ _ _ _ h) h
  | .faug o f op e, σ, s, N, N', hN, h => by
    simp only [xS] at h ⊢
    exact xE_mono hG o (fun x s1 h => xFa1_mono x f (fun n c v h => xE_mono hG e (fun y s2 h => xFa2_mono op n c f v y (fun _ h => hN.nx _ _ h) h) (fun _ _ _ h => hN.ex _ _ _ _ h) h) h) (fun _ _ _ h => hN.ex _ _ _ _ h) h
  | .forK tg i b, σ, s, N, N', hN, h => by
    simp only [xS] at h ⊢
    refine xFk_mono σ i (fun n kvs h => forGo_mono (b := fun σ s N => xSs G b σ s N) (fun σ s N N' hN h => xSs_mono b hN h) ?_ _ _ _ h) h
    exact ⟨fun σ s h => ⟨h.1, hN.nx _ _ h.2⟩, fun d s h => ⟨h.1, hN.rt _ _ h.2⟩, fun σ s h => ⟨h.1, hN.bk _ _ h.2⟩, fun σ s h => ⟨h.1, hN.ct _ _ h.2⟩, fun _ _ _ _ h => h⟩
  | .ctor c i, σ, s, N, N', hN, h => by
    simp only [xS] at h ⊢
    split at h
    · exact hG _ _ _ _ _ _ _ (fun _ _ h => ⟨h.1, hN.rt _ _ h.2⟩) (fun _ _ _ h => hN.ex _ _ _ _ h) h
    · exact absurd h id
theorem xSs_mono : ∀ (b : List ST) {σ : Sl} {s : Sto} {N N' : En}, En.le N N' → xSs G b σ s N → xSs G b σ s N'
  | [], _, _, _, _, hN, h => hN.nx _ _ h
  | st :: r, σ, s, N, N', hN, h => by
    simp only [xSs] at h ⊢
    exact xS_mono st (N := { N with nx := fun σ s => xSs G r σ s N }) ⟨fun σ s h => xSs_mono r hN h, hN.rt, hN.bk, hN.ct, hN.ex⟩ h
end
end
theorem Lv_mono (T : Nat → Option Fn) : ∀ k, (Lv T k).Mono
  | 0 => fun _ _ _ _ _ _ _ _ _ h => absurd h id
  | k + 1 => fun f vs s Q Q' E E' hQ hE h => by
    simp only [Lv] at h ⊢
    split at h
    · exact absurd h id
    · exact ⟨h.1, xSs_mono (Lv_mono T k) _ (N := { nx := fun _ s' => Q .non s', rt := Q, bk := fun _ _ => False, ct := fun _ _ => False, ex := fun c fs _ s' => E c fs s' }) ⟨fun _ _ h => hQ _ _ h, hQ, fun _ _ h => h, fun _ _ h => h, fun _ _ _ _ h => hE _ _ _ h⟩ h.2⟩
end PX

/-! PX: how plain values and stores stand for the values and heaps of the hand layer. -/
namespace PX
open PySem PySem.Spec PyProof.Rows L2

/-- what of the text the relation leans on: the written part, the constant dicts, the classes, the attributes' names -/
structure Tb where
  K : PySem.W.Frag
  pw : Params
  cl : Nat → Option Addr
  at_ : List Str

/-- a list of the written part -/
def KL (K : PySem.W.Frag) (a : Addr) (xs : List V) : Prop :=
  ∃ (o : Obj) (its : Array Value) (n : Nat), K.lookup a = some o ∧ o.cls = .type "list" ∧ o.dict = none ∧ o.data = .seq its n ∧ its.size ≤ sizeLine ∧ Vals xs its.toList
def FrzL (K : PySem.W.Frag) (H : Hp) (a : Addr) (xs : List V) : Prop := (∃ o, H a = some (.frz o (.lst xs))) ∨ KL K a xs
theorem FrzL.sq {K : PySem.W.Frag} {H : Hp} {a : Addr} {xs : List V} (h : FrzL K H a xs) : SqL K H a xs := by
  rcases h with h | h
  · exact .inl (.inr h)
  · exact .inr h
/-- a text that fits -/
def StrOk (x : List Nat) : Prop := x.length ≤ sizeLine ∧ ∀ c ∈ x, c < 1114112
instance (x : List Nat) : Decidable (StrOk x) := inferInstanceAs (Decidable (_ ∧ _))
/-- the entries of a dict of the written part -/
def CDes : List D → List V → List DictEntry → Prop
  | [], [], [] => True
  | k :: ks, u :: us, e :: es => (∃ a t, k = .str a ∧ e.key = .str ⟨a.toArray⟩ t) ∧ RelV u e.val ∧ CDes ks us es
  | _, _, _ => False
def CD (B : Tb) (a : Addr) (ks : List D) (us : List V) : Prop :=
  ∃ (es : Array DictEntry) (n : Nat), B.K.lookup a = some ⟨.type "dict", none, .dict es n, #[]⟩ ∧ PySem.W.KeysLit B.pw es.toList ∧ (a == sysModules) = false ∧ CDes ks us es.toList
mutual
def RelD (B : Tb) (H : Hp) (ρ : List Addr) : D → V → Prop
  | .non, v => v = .non
  | .bl b, v => v = .bl b
  | .int i, v => v = .int i
  | .str x, v => v = .str ⟨x.toArray⟩ ∧ StrOk x
  | .tup xs, v => ∃ a vs, v = .ref a ∧ SqT B.K H a vs ∧ xs.length ≤ sizeLine ∧ RelDs B H ρ xs vs
  | .fl xs, v => ∃ a vs, v = .ref a ∧ FrzL B.K H a vs ∧ RelDs B H ρ xs vs
  | .kd _, _ => False
  | .ref n, v => ∃ a, v = .ref a ∧ ρ[n]? = some a
  | .fd ks vs, v => ∃ a us, v = .ref a ∧ CD B a ks us ∧ RelDs B H ρ vs us
def RelDs (B : Tb) (H : Hp) (ρ : List Addr) : List D → List V → Prop
  | [], vs => vs = []
  | x :: xs, vs => ∃ v r, vs = v :: r ∧ RelD B H ρ x v ∧ RelDs B H ρ xs r
end
/-- what never changes is kept -/
structure Keep (H H' : Hp) : Prop where
  tup : ∀ a xs, H a = some (.tup xs) → H' a = some (.tup xs)
  frz : ∀ a o u, H a = some (.frz o u) → H' a = some (.frz o u)
theorem Keep.refl (H : Hp) : Keep H H := ⟨fun _ _ h => h, fun _ _ _ h => h⟩
theorem Keep.trans {H H1 H2 : Hp} (a : Keep H H1) (b : Keep H1 H2) : Keep H H2 := ⟨fun c xs h => b.tup c xs (a.tup c xs h), fun c o u h => b.frz c o u (a.frz c o u h)⟩
theorem Keep.new {H : Hp} {p : Addr} {o : HO} (h : H p = none) : Keep H (upd H p o) :=
  ⟨fun a xs e => by rw [upd_ne (ne_of_none e h)]; exact e, fun a o u e => by rw [upd_ne (ne_of_none e h)]; exact e⟩
theorem Keep.lst {H : Hp} {p : Addr} {xs : List V} {o : HO} (h : H p = some (.lst xs)) : Keep H (upd H p o) :=
  ⟨fun a ys e => by rw [upd_ne (ne_of e h (by intro z; cases z))]; exact e, fun a o u e => by rw [upd_ne (ne_of e h (by intro z; cases z))]; exact e⟩
/-- .. as far as plain values go -/
structure KeepD (H H' : Hp) : Prop where
  tup : ∀ a xs, H a = some (.tup xs) → H' a = some (.tup xs)
  ft : ∀ a o xs, H a = some (.frz o (.tup xs)) → H' a = some (.frz o (.tup xs))
  fl : ∀ a o xs, H a = some (.frz o (.lst xs)) → H' a = some (.frz o (.lst xs))
theorem Keep.toD {H H' : Hp} (k : Keep H H') : KeepD H H' := ⟨k.tup, fun a o xs => k.frz a o _, fun a o xs => k.frz a o _⟩
theorem KeepD.sqT {K : PySem.W.Frag} {H H' : Hp} {a : Addr} {xs : List V} (k : KeepD H H') (h : SqT K H a xs) : SqT K H' a xs := by
  rcases h with (h | ⟨o, h⟩) | h
  · exact .inl (.inl (k.tup _ _ h))
  · exact .inl (.inr ⟨o, k.ft _ _ _ h⟩)
  · exact .inr h
theorem KeepD.frzL {K : PySem.W.Frag} {H H' : Hp} {a : Addr} {xs : List V} (k : KeepD H H') (h : FrzL K H a xs) : FrzL K H' a xs := by
  rcases h with ⟨o, h⟩ | h
  · exact .inl ⟨o, k.fl _ _ _ h⟩
  · exact .inr h
theorem Keep.sqT {K : PySem.W.Frag} {H H' : Hp} {a : Addr} {xs : List V} (k : Keep H H') (h : SqT K H a xs) : SqT K H' a xs := by
  rcases h with (h | ⟨o, h⟩) | h
  · exact .inl (.inl (k.tup _ _ h))
  · exact .inl (.inr ⟨o, k.frz _ _ _ h⟩)
  · exact .inr h
theorem Keep.frzL {K : PySem.W.Frag} {H H' : Hp} {a : Addr} {xs : List V} (k : Keep H H') (h : FrzL K H a xs) : FrzL K H' a xs := by
  rcases h with ⟨o, h⟩ | h
  · exact .inl ⟨o, k.frz _ _ _ h⟩
  · exact .inr h
section
variable {B : Tb} {H H' : Hp} {ρ ρ' : List Addr}
theorem pre_get {α : Type} {l m : List α} {n : Nat} {a : α} (p : l <+: m) (h : l[n]? = some a) : m[n]? = some a := by
  obtain ⟨r, rfl⟩ := p
  rw [List.getElem?_append_left (List.getElem?_eq_some_iff.mp h).1]
  exact h
mutual
theorem RelD.monoD (p : ρ <+: ρ') (k : KeepD H H') : ∀ {x : D} {v : V}, RelD B H ρ x v → RelD B H' ρ' x v
  | .non, _, h => h
  | .bl _, _, h => h
  | .int _, _, h => h
  | .str _, _, h => h
  | .tup xs, v, h => by
    obtain ⟨a, vs, e, q, z, r⟩ := h
    exact ⟨a, vs, e, k.sqT q, z, RelDs.monoD p k r⟩
  | .fl xs, v, h => by
    obtain ⟨a, vs, e, q, r⟩ := h
    exact ⟨a, vs, e, k.frzL q, RelDs.monoD p k r⟩
  | .kd _, _, h => h
  | .ref n, v, h => by
    obtain ⟨a, e, q⟩ := h
    exact ⟨a, e, pre_get p q⟩
  | .fd ks vs, v, h => by
    obtain ⟨a, us, e, q, r⟩ := h
    exact ⟨a, us, e, q, RelDs.monoD p k r⟩
theorem RelDs.monoD (p : ρ <+: ρ') (k : KeepD H H') : ∀ {xs : List D} {vs : List V}, RelDs B H ρ xs vs → RelDs B H' ρ' xs vs
  | [], _, h => h
  | x :: xs, vs, h => by
    obtain ⟨v, r, e, h1, h2⟩ := h
    exact ⟨v, r, e, RelD.monoD p k h1, RelDs.monoD p k h2⟩
end
theorem RelD.mono (p : ρ <+: ρ') (k : Keep H H') {x : D} {v : V} (h : RelD B H ρ x v) : RelD B H' ρ' x v := h.monoD p k.toD
theorem RelDs.mono (p : ρ <+: ρ') (k : Keep H H') {xs : List D} {vs : List V} (h : RelDs B H ρ xs vs) : RelDs B H' ρ' xs vs := h.monoD p k.toD
theorem RelDs.length : ∀ {xs : List D} {vs : List V}, RelDs B H ρ xs vs → xs.length = vs.length
  | [], vs, h => by
    have e : vs = [] := h
    subst e
    rfl
  | x :: xs, vs, h => by
    obtain ⟨v, r, rfl, _, h2⟩ := h
    rw [List.length_cons, List.length_cons, RelDs.length h2]
theorem RelDs.get : ∀ {xs : List D} {vs : List V}, RelDs B H ρ xs vs → ∀ {i : Nat} {x : D}, xs[i]? = some x → ∃ v, vs[i]? = some v ∧ RelD B H ρ x v
  | [], _, h, i, x, e => by simp at e
  | y :: xs, vs, h, i, x, e => by
    obtain ⟨v, r, rfl, h1, h2⟩ := h
    cases i with
    | zero =>
      have e' : y = x := Option.some.inj e
      subst e'
      exact ⟨v, rfl, h1⟩
    | succ i => exact RelDs.get h2 (i := i) e
theorem RelDs.getV : ∀ {xs : List D} {vs : List V}, RelDs B H ρ xs vs → ∀ {i : Nat} {v : V}, vs[i]? = some v → ∃ x, xs[i]? = some x ∧ RelD B H ρ x v
  | [], vs, h, i, x, e => by
    have e' : vs = [] := h
    subst e'
    simp at e
  | y :: xs, vs, h, i, x, e => by
    obtain ⟨v, r, rfl, h1, h2⟩ := h
    cases i with
    | zero =>
      have e' : v = x := Option.some.inj e
      subst e'
      exact ⟨y, rfl, h1⟩
    | succ i => exact RelDs.getV h2 (i := i) e
theorem RelDs.append : ∀ {xs ys : List D} {vs ws : List V}, RelDs B H ρ xs vs → RelDs B H ρ ys ws → RelDs B H ρ (xs ++ ys) (vs ++ ws)
  | [], ys, vs, ws, h, q => by
    have e : vs = [] := h
    subst e
    exact q
  | x :: xs, ys, vs, ws, h, q => by
    obtain ⟨v, r, rfl, h1, h2⟩ := h
    exact ⟨v, r ++ ws, rfl, h1, RelDs.append h2 q⟩
theorem RelDs.take : ∀ {xs : List D} {vs : List V} (n : Nat), RelDs B H ρ xs vs → RelDs B H ρ (xs.take n) (vs.take n)
  | _, _, 0, _ => rfl
  | [], vs, n + 1, h => by rw [show vs = [] from h]; rfl
  | x :: xs, vs, n + 1, h => by
    obtain ⟨v, r, rfl, h1, h2⟩ := h
    exact ⟨v, r.take n, rfl, h1, RelDs.take n h2⟩
theorem RelDs.drop : ∀ {xs : List D} {vs : List V} (n : Nat), RelDs B H ρ xs vs → RelDs B H ρ (xs.drop n) (vs.drop n)
  | _, _, 0, h => h
  | [], vs, n + 1, h => by rw [show vs = [] from h]; rfl
  | x :: xs, vs, n + 1, h => by
    obtain ⟨v, r, rfl, h1, h2⟩ := h
    exact RelDs.drop n h2
theorem RelDs.set {x : D} {v : V} (hx : RelD B H ρ x v) : ∀ {xs : List D} {vs : List V} (n : Nat), RelDs B H ρ xs vs → RelDs B H ρ (xs.set n x) (vs.set n v)
  | [], vs, n, h => by rw [show vs = [] from h]; rfl
  | y :: xs, vs, 0, h => by
    obtain ⟨w, r, rfl, h1, h2⟩ := h
    exact ⟨v, r, rfl, hx, h2⟩
  | y :: xs, vs, n + 1, h => by
    obtain ⟨w, r, rfl, h1, h2⟩ := h
    exact ⟨w, _, rfl, h1, RelDs.set hx n h2⟩
theorem RelDs.dropLast {xs : List D} {vs : List V} (h : RelDs B H ρ xs vs) : RelDs B H ρ xs.dropLast vs.dropLast := by
  rw [List.dropLast_eq_take, List.dropLast_eq_take, ← h.length]
  exact h.take _
theorem RelDs.reverse : ∀ {xs : List D} {vs : List V}, RelDs B H ρ xs vs → RelDs B H ρ xs.reverse vs.reverse
  | [], vs, h => by rw [show vs = [] from h]; rfl
  | x :: xs, vs, h => by
    obtain ⟨v, r, rfl, h1, h2⟩ := h
    rw [List.reverse_cons, List.reverse_cons]
    exact (RelDs.reverse h2).append ⟨v, [], rfl, h1, rfl⟩
theorem RelDs.rep {xs : List D} {vs : List V} (h : RelDs B H ρ xs vs) : ∀ k : Nat, RelDs B H ρ (List.replicate k xs).flatten (List.replicate k vs).flatten
  | 0 => rfl
  | k + 1 => by
    rw [List.replicate_succ, List.replicate_succ, List.flatten_cons, List.flatten_cons]
    exact h.append (RelDs.rep h k)
theorem RelDs.cut {xs : List D} {vs : List V} (h : RelDs B H ρ xs vs) (lo hi : Option Int) : RelDs B H ρ (PX.cut xs lo hi) (cutV vs lo hi) := by
  unfold PX.cut cutV
  rw [h.length]
  exact (h.drop _).take _
theorem RelDs.ints : ∀ {ns : List Int}, RelDs B H ρ (ns.map D.int) (ns.map V.int)
  | [] => rfl
  | n :: ns => ⟨_, _, rfl, rfl, RelDs.ints⟩
/-- a key, as the hand layer has it -/
def keyV : D → Option Key
  | .int i => some (.inl i)
  | .str a => if StrOk a then some (.inr ⟨a.toArray⟩) else none
  | _ => none
/-- the entries of a tracked dict -/
def RelKV (B : Tb) (H : Hp) (ρ : List Addr) : List (D × D) → List (Key × V) → Prop
  | [], l => l = []
  | (k, d) :: r, l => ∃ k' v l', l = (k', v) :: l' ∧ keyV k = some k' ∧ RelD B H ρ d v ∧ RelKV B H ρ r l'
theorem RelKV.monoD (p : ρ <+: ρ') (k : KeepD H H') : ∀ {kvs : List (D × D)} {l : List (Key × V)}, RelKV B H ρ kvs l → RelKV B H' ρ' kvs l
  | [], _, h => h
  | (x, d) :: r, l, h => by
    obtain ⟨k', v, l', e, h1, h2, h3⟩ := h
    exact ⟨k', v, l', e, h1, h2.monoD p k, h3.monoD p k⟩
theorem RelKV.mono (p : ρ <+: ρ') (k : Keep H H') {kvs : List (D × D)} {l : List (Key × V)} (h : RelKV B H ρ kvs l) : RelKV B H' ρ' kvs l := h.monoD p k.toD
/-- an object's fields -/
def RelF (B : Tb) (H : Hp) (ρ : List Addr) : List (Nat × D) → List (Str × V) → Prop
  | [], l => l = []
  | (f, d) :: r, l => ∃ x v l', l = (x, v) :: l' ∧ B.at_[f]? = some x ∧ RelD B H ρ d v ∧ RelF B H ρ r l'
theorem RelF.monoD (p : ρ <+: ρ') (k : KeepD H H') : ∀ {fs : List (Nat × D)} {l : List (Str × V)}, RelF B H ρ fs l → RelF B H' ρ' fs l
  | [], _, h => h
  | (x, d) :: r, l, h => by
    obtain ⟨k', v, l', e, h1, h2, h3⟩ := h
    exact ⟨k', v, l', e, h1, h2.monoD p k, h3.monoD p k⟩
theorem RelF.mono (p : ρ <+: ρ') (k : Keep H H') {fs : List (Nat × D)} {l : List (Str × V)} (h : RelF B H ρ fs l) : RelF B H' ρ' fs l := h.monoD p k.toD
theorem RelF.length : ∀ {fs : List (Nat × D)} {l : List (Str × V)}, RelF B H ρ fs l → fs.length = l.length
  | [], l, h => by rw [show l = [] from h]; rfl
  | (x, d) :: r, l, h => by
    obtain ⟨k', v, l', rfl, _, _, h3⟩ := h
    rw [List.length_cons, List.length_cons, h3.length]
/-- no two attributes of one name -/
def NmOk (B : Tb) : Prop := B.at_.Nodup
theorem nm_inj (n : NmOk B) {f g : Nat} {x : Str} (h1 : B.at_[f]? = some x) (h2 : B.at_[g]? = some x) : f = g := by
  have a := List.getElem?_eq_some_iff.mp h1
  have b := List.getElem?_eq_some_iff.mp h2
  exact (List.getElem_inj n).mp (a.2.trans b.2.symm)
theorem RelF.get (n : NmOk B) {f : Nat} {x : Str} (hx : B.at_[f]? = some x) : ∀ {fs : List (Nat × D)} {l : List (Str × V)}, RelF B H ρ fs l → (∀ d, fGet fs f = some d → ∃ v, l.lookup x = some v ∧ RelD B H ρ d v) ∧ (fGet fs f = none → l.lookup x = none)
  | [], l, h => by
    rw [show l = [] from h]
    exact ⟨fun d z => by simp [fGet] at z, fun _ => rfl⟩
  | (g, d) :: r, l, h => by
    obtain ⟨y, v, l', rfl, h1, h2, h3⟩ := h
    have ih := RelF.get n hx h3
    by_cases e : g = f
    · subst e
      rw [hx] at h1
      cases h1
      have e1 : fGet ((g, d) :: r) g = some d := by simp [fGet]
      rw [e1, List.lookup_cons, beq_self_eq_true]
      exact ⟨fun d' z => ⟨v, rfl, by cases z; exact h2⟩, fun z => by cases z⟩
    · have e1 : fGet ((g, d) :: r) f = fGet r f := by simp [fGet, e]
      have e2 : (x == y) = false := by
        rw [beq_eq_false_iff_ne]
        rintro rfl
        exact e (nm_inj n h1 hx)
      rw [e1, List.lookup_cons, e2]
      exact ih
theorem RelF.put (n : NmOk B) {f : Nat} {x : Str} {d : D} {v : V} (hx : B.at_[f]? = some x) (hd : RelD B H ρ d v) : ∀ {fs : List (Nat × D)} {l : List (Str × V)}, RelF B H ρ fs l → RelF B H ρ (fPut fs f d) (putF x v l)
  | [], l, h => by
    rw [show l = [] from h]
    exact ⟨x, v, [], rfl, hx, hd, rfl⟩
  | (g, d') :: r, l, h => by
    obtain ⟨y, v', l', rfl, h1, h2, h3⟩ := h
    have ih := RelF.put n hx hd h3
    by_cases e : g = f
    · subst e
      rw [hx] at h1
      cases h1
      have e1 : fPut ((g, d') :: r) g d = (g, d) :: r := by simp [fPut]
      have e2 : putF x v ((x, v') :: l') = (x, v) :: l' := by simp [putF]
      rw [e1, e2]
      exact ⟨x, v, l', rfl, hx, hd, h3⟩
    · have e1 : fPut ((g, d') :: r) f d = (g, d') :: fPut r f d := by simp [fPut, e]
      have e2 : putF x v ((y, v') :: l') = (y, v') :: putF x v l' := by
        have : ¬ y = x := by
          rintro rfl
          exact e (nm_inj n h1 hx)
        simp [putF, this]
      rw [e1, e2]
      exact ⟨y, v', _, rfl, h1, h2, ih⟩
/-- what an object is -/
def RelU (B : Tb) (H : Hp) (ρ : List Addr) : Ob → HO → Prop
  | .lst xs, u => ∃ vs, u = .lst vs ∧ RelDs B H ρ xs vs
  | .ins c fs, u => ∃ C dx l, B.cl c = some C ∧ u = .ins C dx l ∧ RelF B H ρ fs l
  | .dic kvs, u => ∃ l, u = .dK l ∧ RelKV B H ρ kvs l
  | .ldic kvs, u => ∃ o l, u = .frz o (.dK l) ∧ RelKV B H ρ kvs l
/-- it may be written -/
def wrO : Ob → Bool
  | .ldic _ => false
  | _ => true
theorem RelU.monoD (p : ρ <+: ρ') (k : KeepD H H') : ∀ {o : Ob} {u : HO}, RelU B H ρ o u → RelU B H' ρ' o u
  | .lst _, _, ⟨vs, e, r⟩ => ⟨vs, e, r.monoD p k⟩
  | .dic _, _, ⟨l, e, r⟩ => ⟨l, e, r.monoD p k⟩
  | .ldic _, _, ⟨o, l, e, r⟩ => ⟨o, l, e, r.monoD p k⟩
  | .ins _ _, _, ⟨C, dx, l, e1, e2, r⟩ => ⟨C, dx, l, e1, e2, r.monoD p k⟩
theorem RelU.mono (p : ρ <+: ρ') (k : Keep H H') {o : Ob} {u : HO} (h : RelU B H ρ o u) : RelU B H' ρ' o u := h.monoD p k.toD
/-- .. that may be written anew -/
theorem RelU.keep {o : Ob} {u u' : HO} {p : Addr} (hw : wrO o = true) (h : RelU B H ρ o u) (hp : H p = some u) : Keep H (upd H p u') := by
  have t : ∀ a ys, H a = some (.tup ys) → a ≠ p := fun a ys e => ne_of e hp (by
    intro z
    subst z
    cases o with
    | lst xs => obtain ⟨vs, z, _⟩ := h; cases z
    | dic kvs => obtain ⟨vs, z, _⟩ := h; cases z
    | ldic kvs => cases hw
    | ins c fs => obtain ⟨_, _, _, _, z, _⟩ := h; cases z)
  have f : ∀ a o' u', H a = some (.frz o' u') → a ≠ p := fun a o' u' e => ne_of e hp (by
    intro z
    subst z
    cases o with
    | lst xs => obtain ⟨vs, z, _⟩ := h; cases z
    | dic kvs => obtain ⟨vs, z, _⟩ := h; cases z
    | ldic kvs => cases hw
    | ins c fs => obtain ⟨_, _, _, _, z, _⟩ := h; cases z)
  exact ⟨fun a ys e => by rw [upd_ne (t a ys e)]; exact e, fun a o' u' e => by rw [upd_ne (f a o' u' e)]; exact e⟩
/-- what stands at an address -/
def RelO (B : Tb) (H : Hp) (ρ : List Addr) (a : Addr) (o : Ob) : Prop := ∃ u, H a = some u ∧ RelU B H ρ o u
theorem RelO.ne {a : Addr} {o : Ob} {p : Addr} {u : HO} (h : RelO B H ρ a o) (hp : H p = none) : RelO B (upd H p u) ρ a o := by
  obtain ⟨u', h1, h2⟩ := h
  exact ⟨u', by rw [upd_ne (ne_of_none h1 hp)]; exact h1, h2.mono (List.prefix_refl _) (.new hp)⟩
structure RelS (B : Tb) (H : Hp) (ρ : List Addr) (s : Sto) : Prop where
  len : ρ.length = s.length
  nd : ρ.Nodup
  ob : ∀ (n : Nat) (a : Addr) (o : Ob), ρ[n]? = some a → s[n]? = some o → RelO B H ρ a o
theorem RelS.lstOf {s : Sto} (S : RelS B H ρ s) {n : Nat} {a : Addr} {xs : List D} (e : ρ[n]? = some a) (h : s[n]? = some (.lst xs)) : ∃ vs, H a = some (.lst vs) ∧ RelDs B H ρ xs vs := by
  obtain ⟨u, h1, vs, rfl, h2⟩ := S.ob n a _ e h
  exact ⟨vs, h1, h2⟩
theorem RelS.dicOf {s : Sto} (S : RelS B H ρ s) {n : Nat} {a : Addr} {kvs : List (D × D)} (e : ρ[n]? = some a) (h : s[n]? = some (.dic kvs)) : ∃ l, H a = some (.dK l) ∧ RelKV B H ρ kvs l := by
  obtain ⟨u, h1, vs, rfl, h2⟩ := S.ob n a _ e h
  exact ⟨vs, h1, h2⟩
theorem RelS.ldicOf {s : Sto} (S : RelS B H ρ s) {n : Nat} {a : Addr} {kvs : List (D × D)} (e : ρ[n]? = some a) (h : s[n]? = some (.ldic kvs)) : ∃ o l, H a = some (.frz o (.dK l)) ∧ RelKV B H ρ kvs l := by
  obtain ⟨u, h1, o, vs, rfl, h2⟩ := S.ob n a _ e h
  exact ⟨o, vs, h1, h2⟩
theorem RelS.insOf {s : Sto} (S : RelS B H ρ s) {n : Nat} {a : Addr} {c : Nat} {fs : List (Nat × D)} (e : ρ[n]? = some a) (h : s[n]? = some (.ins c fs)) : ∃ C dx l, B.cl c = some C ∧ H a = some (.ins C dx l) ∧ RelF B H ρ fs l := by
  obtain ⟨u, h1, C, dx, l, h2, rfl, h3⟩ := S.ob n a _ e h
  exact ⟨C, dx, l, h2, h1, h3⟩
theorem RelS.obj {s : Sto} (S : RelS B H ρ s) {n : Nat} {a : Addr} (e : ρ[n]? = some a) : ∃ o, H a = some o := by
  have h1 : n < s.length := by rw [← S.len]; exact (List.getElem?_eq_some_iff.mp e).1
  obtain ⟨u, h, _⟩ := S.ob n a s[n] e (List.getElem?_eq_getElem h1)
  exact ⟨u, h⟩
/-- a thing that is not of the store is made -/
theorem RelS.out {s : Sto} (S : RelS B H ρ s) {p : Addr} {o : HO} (hp : H p = none) : RelS B (upd H p o) ρ s := ⟨S.len, S.nd, fun n a o' e1 e2 => (S.ob n a o' e1 e2).ne hp⟩
/-- a new object -/
theorem RelS.push {s : Sto} (S : RelS B H ρ s) {p : Addr} {o : HO} {ob : Ob} (hp : H p = none) (h : RelO B (upd H p o) (ρ ++ [p]) p ob) : RelS B (upd H p o) (ρ ++ [p]) (s ++ [ob]) := by
  refine ⟨by simp [S.len], ?_, fun n a o' e1 e2 => ?_⟩
  · refine List.nodup_append.mpr ⟨S.nd, by simp, fun x hx y hy z => ?_⟩
    obtain ⟨n, hn⟩ := List.getElem?_of_mem hx
    obtain ⟨o', ho⟩ := S.obj hn
    rw [z, List.mem_singleton.mp hy, hp] at ho
    cases ho
  · by_cases hn : n < s.length
    · rw [List.getElem?_append_left hn] at e2
      rw [List.getElem?_append_left (by rw [S.len]; exact hn)] at e1
      obtain ⟨u, h1, h2⟩ := (S.ob n a o' e1 e2).ne (u := o) hp
      exact ⟨u, h1, h2.mono (List.prefix_append _ _) (Keep.refl _)⟩
    · have hn' : n = s.length := by
        have := (List.getElem?_eq_some_iff.mp e2).1
        rw [List.length_append, List.length_singleton] at this
        omega
      subst hn'
      rw [List.getElem?_append_right (Nat.le_refl _), Nat.sub_self] at e2
      rw [List.getElem?_append_right (by rw [S.len]; exact Nat.le_refl _), S.len, Nat.sub_self] at e1
      cases Option.some.inj e1
      cases Option.some.inj e2
      exact h
/-- an object is written -/
theorem RelS.setO {s : Sto} (S : RelS B H ρ s) {n : Nat} {p : Addr} {o o' : Ob} {u u' : HO} (hw : wrO o = true) (e : ρ[n]? = some p) (hs : s[n]? = some o) (h : H p = some u) (hu : RelU B H ρ o u) (r : RelU B H ρ o' u') :
    RelS B (upd H p u') ρ (s.set n o') := by
  have k : Keep H (upd H p u') := hu.keep hw h
  refine ⟨by rw [List.length_set]; exact S.len, S.nd, fun m a o2 e1 e2 => ?_⟩
  by_cases hm : m = n
  · subst hm
    rw [List.getElem?_set_self (List.getElem?_eq_some_iff.mp hs).1] at e2
    rw [e] at e1
    cases Option.some.inj e1
    cases Option.some.inj e2
    exact ⟨u', upd_same, r.mono (List.prefix_refl _) k⟩
  · rw [List.getElem?_set_ne (Ne.symm hm)] at e2
    have hne : a ≠ p := fun z => by
      have e1' : ρ[m]? = some p := by rw [← z]; exact e1
      have h1 := List.getElem?_eq_some_iff.mp e1'
      have h2 := List.getElem?_eq_some_iff.mp e
      exact hm ((List.getElem_inj S.nd).mp (h1.2.trans h2.2.symm))
    obtain ⟨u2, h1, h2⟩ := S.ob m a o2 e1 e2
    exact ⟨u2, by rw [upd_ne hne]; exact h1, h2.mono (List.prefix_refl _) k⟩
/-- an object is exchanged for another one, the plain values stay -/
theorem RelS.setK {s : Sto} (S : RelS B H ρ s) {n : Nat} {p : Addr} {o o' : Ob} {u' : HO} (k : KeepD H (upd H p u')) (e : ρ[n]? = some p) (hs : s[n]? = some o) (r : RelU B H ρ o' u') :
    RelS B (upd H p u') ρ (s.set n o') := by
  refine ⟨by rw [List.length_set]; exact S.len, S.nd, fun m a o2 e1 e2 => ?_⟩
  by_cases hm : m = n
  · subst hm
    rw [List.getElem?_set_self (List.getElem?_eq_some_iff.mp hs).1] at e2
    rw [e] at e1
    cases Option.some.inj e1
    cases Option.some.inj e2
    exact ⟨u', upd_same, r.monoD (List.prefix_refl _) k⟩
  · rw [List.getElem?_set_ne (Ne.symm hm)] at e2
    have hne : a ≠ p := fun z => by
      have e1' : ρ[m]? = some p := by rw [← z]; exact e1
      have h1 := List.getElem?_eq_some_iff.mp e1'
      have h2 := List.getElem?_eq_some_iff.mp e
      exact hm ((List.getElem_inj S.nd).mp (h1.2.trans h2.2.symm))
    obtain ⟨u2, h1, h2⟩ := S.ob m a o2 e1 e2
    exact ⟨u2, by rw [upd_ne hne]; exact h1, h2.monoD (List.prefix_refl _) k⟩
/-- a list is written -/
theorem RelS.setL {s : Sto} (S : RelS B H ρ s) {n : Nat} {p : Addr} {xs ys : List D} {vs ws : List V} (e : ρ[n]? = some p) (hs : s[n]? = some (.lst xs)) (h : H p = some (.lst vs)) (r : RelDs B H ρ ys ws) :
    RelS B (upd H p (.lst ws)) ρ (s.set n (.lst ys)) := by
  obtain ⟨vs', h1, h2⟩ := S.lstOf e hs
  rw [h] at h1
  cases h1
  exact S.setO rfl e hs h ⟨vs, rfl, h2⟩ ⟨ws, rfl, r⟩
/-- slots -/
structure RelL (B : Tb) (H : Hp) (ρ : List Addr) (σ : Sl) (σV : L2.St) : Prop where
  len : σ.length = σV.length
  at_ : ∀ (i : Nat) (d : D), σ[i]? = some (some d) → ∃ v, σV[i]? = some (some v) ∧ RelD B H ρ d v
theorem RelL.mono {σ : Sl} {σV : L2.St} (r : RelL B H ρ σ σV) (p : ρ <+: ρ') (k : Keep H H') : RelL B H' ρ' σ σV :=
  ⟨r.len, fun i d e => let ⟨v, h1, h2⟩ := r.at_ i d e; ⟨v, h1, h2.mono p k⟩⟩
theorem RelL.set {σ : Sl} {σV : L2.St} (r : RelL B H ρ σ σV) {d : D} {v : V} (h : RelD B H ρ d v) (i : Nat) : RelL B H ρ (σ.set i (some d)) (σV.set i (some v)) := by
  refine ⟨by simp [r.len], fun j x e => ?_⟩
  by_cases hj : i = j
  · subst hj
    have hi : i < σ.length := by
      have := (List.getElem?_eq_some_iff.mp e).1
      simpa using this
    rw [List.getElem?_set_self hi] at e
    cases Option.some.inj (Option.some.inj e)
    exact ⟨v, List.getElem?_set_self (by rw [← r.len]; exact hi), h⟩
  · rw [List.getElem?_set_ne hj] at e ⊢
    exact r.at_ j x e
theorem RelL.wipe {σ : Sl} {σV : L2.St} (r : RelL B H ρ σ σV) : ∀ vs : List Nat, RelL B H ρ (wipeS σ vs) (wipe σV vs)
  | [] => r
  | v :: vs => by
    have ih := RelL.wipe r vs
    refine ⟨by simp [wipeS, L2.wipe, ih.len], fun j x e => ?_⟩
    unfold wipeS at e
    by_cases hj : v = j
    · subst hj
      by_cases hv : v < (wipeS σ vs).length
      · rw [List.getElem?_set_self hv] at e; cases e
      · rw [List.getElem?_eq_none (by simpa using hv)] at e; cases e
    · rw [List.getElem?_set_ne hj] at e
      unfold L2.wipe
      rw [List.getElem?_set_ne hj]
      exact ih.at_ j x e
end

/-- what is wanted of a plain value, as of a value -/
def Lift (B : Tb) (H : Hp) (ρ : List Addr) (Q : VK) : QE := fun d s' => ∀ ρ' H' v, ρ <+: ρ' → Keep H H' → RelD B H' ρ' d v → RelS B H' ρ' s' → Q v H'
def LiftA (B : Tb) (H : Hp) (ρ : List Addr) (Q : List V → Hp → Prop) : List D → Sto → Prop := fun ds s' => ∀ ρ' H' vs, ρ <+: ρ' → Keep H H' → RelDs B H' ρ' ds vs → RelS B H' ρ' s' → Q vs H'
/-- an exception that leaves -/
abbrev WQ := Nat → List (Nat × D) → L2.St → Hp → List Addr → Sto → Prop
def LiftX (B : Tb) (H : Hp) (ρ : List Addr) (σ : L2.St) (W : WQ) : XQ := fun c fs s' => ∀ ρ' H', ρ <+: ρ' → Keep H H' → RelS B H' ρ' s' → W c fs σ H' ρ' s'
section
variable {B : Tb} {H H' : Hp} {ρ ρ' : List Addr} {s : Sto}
theorem Lift.mono {Q : VK} {d : D} {s : Sto} (p : ρ <+: ρ') (k : Keep H H') (h : Lift B H ρ Q d s) : Lift B H' ρ' Q d s :=
  fun ρ2 H2 v p2 k2 r S => h ρ2 H2 v (p.trans p2) (k.trans k2) r S
theorem LiftX.mono {W : WQ} {σ : L2.St} {c : Nat} {fs : List (Nat × D)} {s : Sto} (p : ρ <+: ρ') (k : Keep H H') (h : LiftX B H ρ σ W c fs s) : LiftX B H' ρ' σ W c fs s :=
  fun ρ2 H2 p2 k2 S => h ρ2 H2 (p.trans p2) (k.trans k2) S
theorem Lift.here {Q : VK} {d : D} {s : Sto} {v : V} (h : Lift B H ρ Q d s) (r : RelD B H ρ d v) (S : RelS B H ρ s) : Q v H := h ρ H v (List.prefix_refl _) (Keep.refl _) r S
/-- a new list -/
theorem mk_new {Q : VK} {xs : List D} {vs : List V} (S : RelS B H ρ s) (r : RelDs B H ρ xs vs) (h : mk (.lst xs) s (Lift B H ρ Q)) {p : Addr} (hp : H p = none) : Q (.ref p) (upd H p (.lst vs)) := by
  have k : Keep H (upd H p (.lst vs)) := .new hp
  have pr : ρ <+: ρ ++ [p] := List.prefix_append _ _
  refine h (ρ ++ [p]) _ (.ref p) pr k ⟨p, rfl, ?_⟩ (S.push hp ⟨_, upd_same, vs, rfl, r.mono pr k⟩)
  rw [← S.len, List.getElem?_append_right (Nat.le_refl _), Nat.sub_self]
  rfl
/-- a new tuple -/
theorem tup_new {Q : VK} {xs : List D} {vs : List V} (S : RelS B H ρ s) (r : RelDs B H ρ xs vs) (hz : xs.length ≤ sizeLine) (h : Lift B H ρ Q (.tup xs) s) {p : Addr} (hp : H p = none) : Q (.ref p) (upd H p (.tup vs)) := by
  have k : Keep H (upd H p (.tup vs)) := .new hp
  exact h ρ _ (.ref p) (List.prefix_refl _) k ⟨p, vs, rfl, .inl (.inl upd_same), hz, r.mono (List.prefix_refl _) k⟩ (S.out hp)
/-- a list is written, and None handed back, or another thing -/
theorem set_lst {Q : VK} {d : D} {v : V} {n : Nat} {p : Addr} {xs ys : List D} {vs ws : List V} (S : RelS B H ρ s) (e : ρ[n]? = some p) (hs : s[n]? = some (.lst xs)) (hp : H p = some (.lst vs)) (r : RelDs B H ρ ys ws) (rd : RelD B H ρ d v)
    (h : Lift B H ρ Q d (s.set n (.lst ys))) : Q v (upd H p (.lst ws)) :=
  h ρ _ v (List.prefix_refl _) (.lst hp) (rd.mono (List.prefix_refl _) (.lst hp)) (S.setL e hs hp r)
/-- a sequence is read -/
theorem seq_of {x : D} {v : V} {xs : List D} (S : RelS B H ρ s) (r : RelD B H ρ x v) (h : seqOf s x = some xs) : ∃ a vs, v = .ref a ∧ (SqL B.K H a vs ∨ SqT B.K H a vs) ∧ RelDs B H ρ xs vs := by
  cases x <;> simp only [seqOf] at h
  case tup ys =>
    cases h
    obtain ⟨a, vs, e, q, _, r⟩ := r
    exact ⟨a, vs, e, .inr q, r⟩
  case fl ys =>
    cases h
    obtain ⟨a, vs, e, q, r⟩ := r
    exact ⟨a, vs, e, .inl q.sq, r⟩
  case ref n =>
    obtain ⟨a, e, q⟩ := r
    split at h
    · rename_i ys hs
      cases h
      obtain ⟨vs, h1, h2⟩ := S.lstOf q hs
      exact ⟨a, vs, e, .inl (.inl (.inl h1)), h2⟩
    · cases h
  all_goals cases h
/-- .. and no tuple: a list -/
theorem seq_list {x : D} {v : V} {xs : List D} (S : RelS B H ρ s) (r : RelD B H ρ x v) (h : seqOf s x = some xs) (hn : ∀ ys, x ≠ .tup ys) : ∃ a vs, v = .ref a ∧ SqL B.K H a vs ∧ RelDs B H ρ xs vs := by
  cases x <;> simp only [seqOf] at h
  case tup ys => exact absurd rfl (hn ys)
  case fl ys =>
    cases h
    obtain ⟨a, vs, e, q, r⟩ := r
    exact ⟨a, vs, e, q.sq, r⟩
  case ref n =>
    obtain ⟨a, e, q⟩ := r
    split at h
    · rename_i ys hs
      cases h
      obtain ⟨vs, h1, h2⟩ := S.lstOf q hs
      exact ⟨a, vs, e, .inl (.inl h1), h2⟩
    · cases h
  all_goals cases h
theorem rel_one {x : D} {v : V} (r : RelD B H ρ x v) : RelDs B H ρ [x] [v] := ⟨v, [], rfl, r, rfl⟩
end
end PX

/-! PX: the operations, sound. -/
namespace PX
open PySem PySem.Spec PyProof.Rows L2
abbrev F2 := D → D → Sto → QE → Prop
def rO (B : Tb) (f : F2) : R2 := fun vx vy H Q => ∃ (x y : D) (s : Sto) (ρ : List Addr), RelD B H ρ x vx ∧ RelD B H ρ y vy ∧ RelS B H ρ s ∧ f x y s (Lift B H ρ Q)
theorem int_of {B : Tb} {H : Hp} {ρ : List Addr} {i : Int} {v : V} (r : RelD B H ρ (.int i) v) : v = .int i := r
theorem toArr_add (a b : List Nat) : (⟨a.toArray⟩ : Str) ++ ⟨b.toArray⟩ = ⟨(a ++ b).toArray⟩ := by
  show (⟨a.toArray ++ b.toArray⟩ : Str) = _
  rw [List.append_toArray]
theorem toArr_len (a : List Nat) : (⟨a.toArray⟩ : Str).length = a.length := by
  show a.toArray.size = a.length
  exact List.size_toArray
theorem StrOk.add {a b : List Nat} (h1 : StrOk a) (h2 : StrOk b) (h : a.length + b.length ≤ sizeLine) : StrOk (a ++ b) :=
  ⟨by rw [List.length_append]; exact h, fun c hc => (List.mem_append.mp hc).elim (h1.2 c) (h2.2 c)⟩
theorem StrOk.sub {a b : List Nat} (h1 : StrOk a) (h : ∀ c ∈ b, c ∈ a) (hl : b.length ≤ a.length) : StrOk b := ⟨Nat.le_trans hl h1.1, fun c hc => h1.2 c (h c hc)⟩
theorem StrOk.rep {a : List Nat} (h1 : StrOk a) (k : Nat) (h : a.length * k ≤ sizeLine) : StrOk (List.replicate k a).flatten := by
  refine ⟨?_, fun c hc => ?_⟩
  · rw [List.length_flatten, List.map_replicate, List.sum_replicate_nat, Nat.mul_comm]
    exact h
  · obtain ⟨l, hl, hc⟩ := List.mem_flatten.mp hc
    rw [(List.mem_replicate.mp hl).2] at hc
    exact h1.2 c hc
theorem txt_mul (a : List Nat) (n : Int) : Txt.mul ⟨a.toArray⟩ n = ⟨(List.replicate n.toNat a).flatten.toArray⟩ := by
  have f0 : ∀ (m : Nat) (acc : List Nat), List.foldl (fun x1 x2 => x1 ++ x2) acc.toArray (List.replicate m a.toArray) = (acc ++ (List.replicate m a).flatten).toArray := by
    intro m
    induction m with
    | zero => intro acc; simp
    | succ m ih =>
      intro acc
      rw [List.replicate_succ, List.foldl_cons, List.replicate_succ, List.flatten_cons, List.append_toArray, ih, List.append_assoc]
  unfold Txt.mul
  by_cases h1 : n < 1
  · rw [if_pos h1, show n.toNat = 0 by omega]
    rfl
  · rw [if_neg h1]
    by_cases h2 : (n == 1 || (⟨a.toArray⟩ : Str).length == 0) = true
    · rw [if_pos h2, toArr_len] at *
      rw [Bool.or_eq_true] at h2
      rcases h2 with h2 | h2
      · have e : n = 1 := by simpa using h2
        subst e
        simp
      · have e : a = [] := by simpa using h2
        subst e
        simp
    · rw [if_neg h2]
      have := f0 n.toNat []
      rw [show ([] : List Nat).toArray = #[] from rfl, List.nil_append] at this
      rw [this]
section
variable {X : Cx} {B : Tb} (hK : B.K = X.K) (hu : X.A.units + 65 < cLine)
section
include hK
theorem or_add : OpR X (binaryOp .Add) (rO B (xBin .Add)) := by
  intro pins s σ H vx vy v u Q I rx ry h
  obtain ⟨x, y, st, ρ, r1, r2, S, h⟩ := h
  cases x <;> cases y <;> simp only [xBin] at h
  case int.int i j =>
    cases int_of r1; cases int_of r2
    exact op_add pins s σ H _ _ v u Q I rx ry ⟨i, j, rfl, rfl, h.here rfl S⟩
  case str.str a b =>
    obtain ⟨rfl, z1⟩ := r1
    obtain ⟨rfl, z2⟩ := r2
    refine op_add_str pins s σ H _ _ v u Q I rx ry ⟨_, _, rfl, rfl, by rw [toArr_len, toArr_len]; exact h.1, ?_⟩
    rw [toArr_add]
    exact h.2.here ⟨rfl, z1.add z2 h.1⟩ S
  case tup.tup a b =>
    obtain ⟨p, vs, rfl, q1, z1, d1⟩ := id r1
    obtain ⟨p2, ws, rfl, q2, z2, d2⟩ := id r2
    have l1 := d1.length
    have l2 := d2.length
    refine op_catA pins s σ H _ _ v u Q I rx ry ⟨p, p2, vs, ws, rfl, rfl, hK ▸ q1, hK ▸ q2, by rw [← l1, ← l2]; exact h.1, fun e => ?_, fun _ e => ?_, fun _ _ t ht => ?_⟩
    · subst e
      have e : a = [] := List.eq_nil_of_length_eq_zero l1
      subst e
      exact h.2.here r2 S
    · subst e
      have e : b = [] := List.eq_nil_of_length_eq_zero l2
      subst e
      rw [List.append_nil] at h
      exact h.2.here r1 S
    · exact tup_new S (d1.append d2) (by rw [List.length_append]; exact h.1) h.2 ht
  case ref.ref m n =>
    obtain ⟨p, rfl, e1⟩ := r1
    obtain ⟨p2, rfl, e2⟩ := r2
    split at h
    · rename_i a b h1 h2
      obtain ⟨vs, g1, d1⟩ := S.lstOf e1 h1
      obtain ⟨ws, g2, d2⟩ := S.lstOf e2 h2
      refine op_cat pins s σ H _ _ v u Q I rx ry ⟨p, p2, vs, ws, rfl, rfl, g1, g2, by rw [← d1.length, ← d2.length]; exact h.1, fun l hl => ?_⟩
      exact mk_new S (d1.append d2) h.2 hl
    · exact h.elim
  all_goals exact h.elim
end
theorem or_sub : OpR X (binaryOp .Sub) (rO B (xBin .Sub)) := by
  intro pins s σ H vx vy v u Q I rx ry h
  obtain ⟨x, y, st, ρ, r1, r2, S, h⟩ := h
  cases x <;> cases y <;> simp only [xBin] at h
  case int.int i j =>
    cases int_of r1; cases int_of r2
    exact op_sub pins s σ H _ _ v u Q I rx ry ⟨i, j, rfl, rfl, h.here rfl S⟩
  all_goals exact h.elim
theorem or_mul : OpR X (binaryOp .Mult) (rO B (xBin .Mult)) := by
  intro pins s σ H vx vy v u Q I rx ry h
  obtain ⟨x, y, st, ρ, r1, r2, S, h⟩ := h
  cases x <;> cases y <;> simp only [xBin] at h
  case int.int i j =>
    cases int_of r1; cases int_of r2
    exact op_mulW pins s σ H _ _ v u Q I rx ry ⟨i, j, rfl, rfl, h.1, h.2.here rfl S⟩
  case str.int a j =>
    obtain ⟨rfl, z1⟩ := r1
    cases int_of r2
    obtain ⟨t, rfl⟩ := rx
    obtain ⟨t', rfl⟩ := ry
    have hz : a.length * j.toNat ≤ sizeLine := Nat.le_trans h.1.2.2 (by decide)
    have hs : sizeLine = 16777216 := rfl
    refine PySem.SB.mul ⟨?_, fun h1 h2 h3 => ?_, fun _ _ => ?_⟩ fun t' k => ?_
    · have h1 := h.1.1
      have h2 := h.1.2.1
      rw [Bool.or_eq_false_iff]
      exact ⟨decide_eq_false (by omega), decide_eq_false (by omega)⟩
    · rw [toArr_len] at h3
      have e : (a.length : Int) ≤ (2 ^ 63 - 1) / j := by
        rw [Int.le_ediv_iff_mul_le (by omega)]
        have e1 : ((a.length * j.toNat : Nat) : Int) = (a.length : Int) * j := by
          rw [Int.natCast_mul, Int.toNat_of_nonneg h.1.1]
        have e2 : ((a.length * j.toNat : Nat) : Int) ≤ 16777216 := by
          have := h.1.2.2
          omega
        omega
      omega
    · rw [toArr_len]
      show decide (a.length * j.toNat > sizeLine) = false
      exact decide_eq_false (by omega)
    · refine ⟨.str (Txt.mul ⟨a.toArray⟩ j), H, I.tok _, ⟨_, rfl⟩, ?_⟩
      rw [txt_mul]
      exact h.2.here ⟨rfl, z1.rep _ hz⟩ S
  case ref.int n j =>
    obtain ⟨p, rfl, e1⟩ := r1
    cases int_of r2
    split at h
    · rename_i a h1
      obtain ⟨vs, g1, d1⟩ := S.lstOf e1 h1
      refine op_rep pins s σ H _ _ v u Q I rx ry ⟨p, j, vs, rfl, rfl, g1, h.1.1, h.1.2.1, by rw [← d1.length]; exact h.1.2.2, fun l hl => ?_⟩
      exact mk_new S (d1.rep _) h.2 hl
    · exact h.elim
  all_goals exact h.elim
theorem or_fdiv : OpR X (binaryOp .FloorDiv) (rO B (xBin .FloorDiv)) := by
  intro pins s σ H vx vy v u Q I rx ry h
  obtain ⟨x, y, st, ρ, r1, r2, S, h⟩ := h
  cases x <;> cases y <;> simp only [xBin] at h
  case int.int i j =>
    cases int_of r1; cases int_of r2
    exact op_fdivW pins s σ H _ _ v u Q I rx ry ⟨i, j, rfl, rfl, h.1, h.2.here rfl S⟩
  all_goals exact h.elim
theorem or_mod : OpR X (binaryOp .Mod) (rO B (xBin .Mod)) := by
  intro pins s σ H vx vy v u Q I rx ry h
  obtain ⟨x, y, st, ρ, r1, r2, S, h⟩ := h
  cases x <;> cases y <;> simp only [xBin] at h
  case int.int i j =>
    cases int_of r1; cases int_of r2
    exact op_mod pins s σ H _ _ v u Q I rx ry ⟨i, j, rfl, rfl, h.1, h.2.here rfl S⟩
  all_goals exact h.elim
theorem or_pow : OpR X (binaryOp .Pow) (rO B (xBin .Pow)) := by
  intro pins s σ H vx vy v u Q I rx ry h
  obtain ⟨x, y, st, ρ, r1, r2, S, h⟩ := h
  cases x <;> cases y <;> simp only [xBin] at h
  case int.int i j =>
    cases int_of r1; cases int_of r2
    exact op_pow pins s σ H _ _ v u Q I rx ry ⟨i, j, rfl, rfl, h.1, h.2.here rfl S⟩
  all_goals exact h.elim
theorem or_iadd : OpR X (inplaceOp .Add) (rO B (xIp .Add)) := by
  intro pins s σ H vx vy v u Q I rx ry h
  obtain ⟨x, y, st, ρ, r1, r2, S, h⟩ := h
  cases x <;> cases y <;> simp only [xIp] at h
  case int.int i j =>
    cases int_of r1; cases int_of r2
    exact iop_add pins s σ H _ _ v u Q I rx ry ⟨i, j, rfl, rfl, h.here rfl S⟩
  case str.str a b =>
    obtain ⟨rfl, z1⟩ := r1
    obtain ⟨rfl, z2⟩ := r2
    refine iop_add_str pins s σ H _ _ v u Q I rx ry ⟨_, _, rfl, rfl, by rw [toArr_len, toArr_len]; exact h.1, ?_⟩
    rw [toArr_add]
    exact h.2.here ⟨rfl, z1.add z2 h.1⟩ S
  all_goals exact h.elim
theorem or_isub : OpR X (inplaceOp .Sub) (rO B (xIp .Sub)) := by
  intro pins s σ H vx vy v u Q I rx ry h
  obtain ⟨x, y, st, ρ, r1, r2, S, h⟩ := h
  cases x <;> cases y <;> simp only [xIp] at h
  case int.int i j =>
    cases int_of r1; cases int_of r2
    exact iop_sub pins s σ H _ _ v u Q I rx ry ⟨i, j, rfl, rfl, h.here rfl S⟩
  all_goals exact h.elim

/-! ### comparisons -/
mutual
def toPy : D → PyData
  | .non => .none
  | .bl b => .bool b
  | .int i => .int i
  | .str x => .str ⟨x.toArray⟩
  | .tup xs => .tuple (toPys xs)
  | .fl xs => .list (toPys xs)
  | .kd _ => .none
  | .ref _ => .none
  | .fd _ _ => .none
def toPys : List D → List PyData
  | [] => []
  | x :: xs => toPy x :: toPys xs
end
def xCmp (op : CmpOp) : F2 := fun x y s Q => obl (cmpD s op x y) fun c => Q (.bl c) s
theorem str_lay {a : List Nat} (h : StrOk a) : PyData.strOk ⟨a.toArray⟩ = true := by
  show a.toArray.all (· < 0x110000) = true
  rw [List.all_toArray, List.all_eq_true]
  exact fun c hc => decide_eq_true (h.2 c hc)
section
variable {K : PySem.W.Frag} {H : Hp} {ρ : List Addr}
mutual
theorem resW_dp {r : Nat → Option D} (hr : ∀ (n : Nat) (a : Addr) (x' : D), r n = some x' → ρ[n]? = some a → Dp B.K H (.ref a) (toPy x') ∧ PyData.canLay0 (toPy x') = true) :
    ∀ (x : D) {v : V} {x' : D}, RelD B H ρ x v → resW r x = some x' → Dp B.K H v (toPy x') ∧ PyData.canLay0 (toPy x') = true
  | .non, v, x', h, e => by
    cases (show v = .non from h)
    cases e
    exact ⟨.non, rfl⟩
  | .bl b, v, x', h, e => by
    cases (show v = .bl b from h)
    cases e
    exact ⟨.bl b, rfl⟩
  | .int i, v, x', h, e => by
    cases (show v = .int i from h)
    cases e
    exact ⟨.int i, rfl⟩
  | .str a, v, x', h, e => by
    obtain ⟨rfl, z⟩ := h
    cases e
    exact ⟨.str _, by simp only [toPy, PyData.canLay0]; exact str_lay z⟩
  | .kd n, v, x', h, e => h.elim
  | .fd ks vs, v, x', h, e => by simp [resW] at e
  | .ref n, v, x', h, e => by
    obtain ⟨a, rfl, q⟩ := h
    exact hr n a x' e q
  | .tup xs, v, x', h, e => by
    obtain ⟨a, vs, rfl, q, _, d⟩ := h
    simp only [resW] at e
    cases e2 : resWs r xs with
    | none => rw [e2] at e; cases e
    | some ys =>
      rw [e2] at e
      cases e
      obtain ⟨h1, h2⟩ := resWs_dp hr xs d e2
      exact ⟨by simp only [toPy]; exact .tup q h1, by simp only [toPy, PyData.canLay0]; exact h2⟩
  | .fl xs, v, x', h, e => by
    obtain ⟨a, vs, rfl, q, d⟩ := h
    simp only [resW] at e
    cases e2 : resWs r xs with
    | none => rw [e2] at e; cases e
    | some ys =>
      rw [e2] at e
      cases e
      obtain ⟨h1, h2⟩ := resWs_dp hr xs d e2
      exact ⟨by simp only [toPy]; exact .lst q.sq h1, by simp only [toPy, PyData.canLay0]; exact h2⟩
theorem resWs_dp {r : Nat → Option D} (hr : ∀ (n : Nat) (a : Addr) (x' : D), r n = some x' → ρ[n]? = some a → Dp B.K H (.ref a) (toPy x') ∧ PyData.canLay0 (toPy x') = true) :
    ∀ (xs : List D) {vs : List V} {ys : List D}, RelDs B H ρ xs vs → resWs r xs = some ys → DpAll B.K H vs (toPys ys) ∧ PyData.canLayAll0 (toPys ys) = true
  | [], vs, ys, h, e => by
    cases (show vs = [] from h)
    cases e
    exact ⟨.nil, rfl⟩
  | x :: xs, vs, ys, h, e => by
    obtain ⟨v, rr, rfl, h1, h2⟩ := h
    simp only [resWs] at e
    split at e
    · rename_i y zs e1 e2
      cases e
      obtain ⟨g1, g2⟩ := resW_dp hr x h1 e1
      obtain ⟨g3, g4⟩ := resWs_dp hr xs h2 e2
      exact ⟨.cons g1 g3, by simp only [toPys, PyData.canLayAll0, g2, g4, Bool.and_self]⟩
    · cases e
end
theorem res_dp {s : Sto} (S : RelS B H ρ s) : ∀ (k : Nat) (x : D) {v : V} {x' : D}, RelD B H ρ x v → res s k x = some x' → Dp B.K H v (toPy x') ∧ PyData.canLay0 (toPy x') = true
  | 0, x, v, x', h, e => resW_dp (fun _ _ _ z => by cases z) x h e
  | k + 1, x, v, x', h, e => by
    refine resW_dp (fun n a x' e q => ?_) x h e
    split at e
    · rename_i xs hs
      obtain ⟨vs, h1, h2⟩ := S.lstOf q hs
      cases e2 : resWs (fun m => res s k (.ref m)) xs with
      | none => rw [e2] at e; cases e
      | some ys =>
        rw [e2] at e
        cases e
        obtain ⟨g1, g2⟩ := resWs_dp (fun n a x' e q => res_dp S k (.ref n) ⟨a, rfl, q⟩ e) xs h2 e2
        exact ⟨by simp only [toPy]; exact .lst (.inl (.inl h1)) g1, by simp only [toPy, PyData.canLay0]; exact g2⟩
    · cases e
end
mutual
theorem nob_depth : ∀ (k : Nat) (x : D), nob k x = true → PyData.depth (toPy x) ≤ k
  | _, .non, _ => Nat.zero_le _
  | _, .int _, _ => Nat.zero_le _
  | _, .str _, _ => Nat.zero_le _
  | k + 1, .tup xs, h => by
    simp only [toPy, PyData.depth]
    exact Nat.succ_le_succ (nobs_depth k xs h)
  | k + 1, .fl xs, h => by
    simp only [toPy, PyData.depth]
    exact Nat.succ_le_succ (nobs_depth k xs h)
  | 0, .tup xs, h => by simp [nob] at h
  | 0, .fl xs, h => by simp [nob] at h
  | _, .bl _, h => by simp [nob] at h
  | _, .kd _, h => by simp [nob] at h
  | _, .ref _, h => by simp [nob] at h
  | _, .fd _ _, h => by simp [nob] at h
theorem nobs_depth : ∀ (k : Nat) (xs : List D), nobs k xs = true → PyData.depthAll (toPys xs) ≤ k
  | _, [], _ => Nat.zero_le _
  | k, x :: xs, h => by
    simp only [nobs, Bool.and_eq_true] at h
    simp only [toPys, PyData.depthAll]
    exact Nat.max_le.mpr ⟨nob_depth k x h.1, nobs_depth k xs h.2⟩
end
theorem str_beq (a b : List Nat) : ((⟨a.toArray⟩ : Str) == ⟨b.toArray⟩) = (a == b) := by
  rw [Bool.eq_iff_iff, beq_iff_eq, beq_iff_eq]
  exact ⟨fun h => by simpa using h, fun h => by rw [h]⟩
mutual
theorem eqv_nob : ∀ (k l : Nat) (x y : D), nob k x = true → nob l y = true → PyData.eqv (toPy x) (toPy y) = D.beq x y
  | k, l, .tup xs, y, h, g => by
    cases k with
    | zero => simp [nob] at h
    | succ k =>
      cases y <;> simp only [toPy, PyData.eqv, D.beq]
      case tup ys =>
        cases l with
        | zero => simp [nob] at g
        | succ l => exact eqvs_nob k l xs ys h g
      all_goals simp [nob] at g
  | k, l, .fl xs, y, h, g => by
    cases k with
    | zero => simp [nob] at h
    | succ k =>
      cases y <;> simp only [toPy, PyData.eqv, D.beq]
      case fl ys =>
        cases l with
        | zero => simp [nob] at g
        | succ l => exact eqvs_nob k l xs ys h g
      all_goals simp [nob] at g
  | k, l, .non, y, h, g => by cases y <;> simp_all [toPy, PyData.eqv, D.beq, nob]
  | k, l, .int i, y, h, g => by cases y <;> simp_all [toPy, PyData.eqv, D.beq, nob]
  | k, l, .str a, y, h, g => by
    cases y <;> simp_all [toPy, PyData.eqv, D.beq, nob]
    exact str_beq _ _
  | k, l, .bl b, y, h, g => by simp [nob] at h
  | k, l, .kd b, y, h, g => by simp [nob] at h
  | k, l, .ref b, y, h, g => by simp [nob] at h
  | k, l, .fd _ _, y, h, g => by simp [nob] at h
theorem eqvs_nob : ∀ (k l : Nat) (xs ys : List D), nobs k xs = true → nobs l ys = true → PyData.eqvAll (toPys xs) (toPys ys) = D.beqs xs ys
  | k, l, [], ys, h, g => by cases ys <;> simp [toPys, PyData.eqvAll, D.beqs]
  | k, l, x :: xs, ys, h, g => by
    cases ys with
    | nil => simp [toPys, PyData.eqvAll, D.beqs]
    | cons y ys =>
      simp only [nobs, Bool.and_eq_true] at h g
      simp only [toPys, PyData.eqvAll, D.beqs]
      rw [eqv_nob k l x y h.1 g.1, eqvs_nob k l xs ys h.2 g.2]
end
theorem beq_dec (x y : D) : D.beq x y = decide (x = y) := by
  rw [Bool.eq_iff_iff, D.beq_iff, decide_eq_true_iff]
theorem deep_eq {H : Hp} {ρ : List Addr} {s : Sto} (S : RelS B H ρ s) {x y : D} {vx vy : V} {c : Bool} (r1 : RelD B H ρ x vx) (r2 : RelD B H ρ y vy) (h : eqDeep s x y = some c) :
    ∃ d e, Dp B.K H vx d ∧ Dp B.K H vy e ∧ SeqAt.shaped d = true ∧ SeqAt.shaped e = true ∧ PyData.eqv d e = c := by
  unfold eqDeep at h
  split at h
  · rename_i a b e1 e2
    split at h
    · rename_i hn
      cases h
      rw [Bool.and_eq_true] at hn
      obtain ⟨g1, g2⟩ := res_dp S 3 x r1 e1
      obtain ⟨g3, g4⟩ := res_dp S 3 y r2 e2
      have d1 := nob_depth 40 a hn.1
      have d2 := nob_depth 40 b hn.2
      refine ⟨_, _, g1, g3, ?_, ?_, by rw [eqv_nob 40 40 a b hn.1 hn.2, beq_dec]⟩
      · show (PyData.canLay0 _ && decide (PyData.depth _ ≤ 64)) = true
        rw [g2, decide_eq_true (by omega)]
        rfl
      · show (PyData.canLay0 _ && decide (PyData.depth _ ≤ 64)) = true
        rw [g4, decide_eq_true (by omega)]
        rfl
    · cases h
  · cases h
end
end PX

/-! PX: dicts. -/
namespace PX
open PySem PySem.Spec PyProof.Rows L2
section
variable {X : Cx} {B : Tb} {H : Hp} {ρ : List Addr}
/-- a dict, tracked or of the written part -/
def DicV (B : Tb) (H : Hp) (ρ : List Addr) (x : D) (kvs : List (D × D)) (a : Addr) : Prop :=
  (∃ l, Rd H a (.dK l) ∧ RelKV B H ρ kvs l ∧ ∀ k, kOk x k = keyOk k) ∨ ∃ ks vs us, x = .fd ks vs ∧ kvs = ks.zip vs ∧ CD B a ks us ∧ RelDs B H ρ vs us
theorem dic_of {s : Sto} (S : RelS B H ρ s) {x : D} {v : V} {kvs : List (D × D)} (r : RelD B H ρ x v) (h : dicOf s x = some kvs) : ∃ a, v = .ref a ∧ DicV B H ρ x kvs a := by
  cases x <;> simp only [dicOf] at h
  case fd ks vs =>
    cases h
    obtain ⟨a, us, e, q, r⟩ := r
    exact ⟨a, e, .inr ⟨ks, vs, us, rfl, rfl, q, r⟩⟩
  case ref n =>
    obtain ⟨a, e, q⟩ := r
    split at h
    · rename_i l hs
      cases h
      obtain ⟨l, h1, h2⟩ := S.dicOf q hs
      exact ⟨a, e, .inl ⟨l, .inl h1, h2, fun _ => rfl⟩⟩
    · rename_i l hs
      cases h
      obtain ⟨o, l, h1, h2⟩ := S.ldicOf q hs
      exact ⟨a, e, .inl ⟨l, .inr ⟨o, h1⟩, h2, fun _ => rfl⟩⟩
    · cases h
  all_goals cases h
theorem keyV_of {y : D} {v : V} (r : RelD B H ρ y v) (h : keyOk y = true) : ∃ k, keyV y = some k ∧ v = kV k := by
  cases y <;> simp only [keyOk] at h <;> try cases h
  case int i => cases int_of r; exact ⟨.inl i, rfl, rfl⟩
  case str a => obtain ⟨rfl, z⟩ := r; exact ⟨.inr _, if_pos z, rfl⟩
theorem toArr_inj {a b : List Nat} (h : a.toArray = b.toArray) : a = b := by
  have := congrArg Array.toList h
  simpa using this
theorem keyV_str {x : D} {z : Str} (h : keyV x = some (.inr z)) : ∃ a, x = .str a ∧ StrOk a ∧ z = ⟨a.toArray⟩ := by
  cases x <;> simp only [keyV] at h <;> try cases h
  rename_i a
  split at h
  · rename_i o; cases h; exact ⟨a, rfl, o, rfl⟩
  · cases h
theorem keyV_int {x : D} {z : Int} (h : keyV x = some (.inl z)) : x = .int z := by
  cases x <;> simp only [keyV] at h <;> try cases h
  · rfl
  · split at h <;> cases h
/-- a key's value -/
theorem keyV_rel {x : D} {k : Key} (h : keyV x = some k) : RelD B H ρ x (kV k) := by
  cases k with
  | inl z => rw [keyV_int h]; rfl
  | inr z =>
    obtain ⟨a, rfl, o, rfl⟩ := keyV_str h
    exact ⟨rfl, o⟩
theorem keyV_inj {x y : D} {k : Key} (h1 : keyV x = some k) (h2 : keyV y = some k) : x = y := by
  cases k with
  | inl z => rw [keyV_int h1, keyV_int h2]
  | inr z =>
    obtain ⟨a, rfl, _, rfl⟩ := keyV_str h1
    obtain ⟨b, rfl, _, e⟩ := keyV_str h2
    rw [toArr_inj (congrArg Str.cps e)]
theorem kv_val {y : D} {k : Key} (hy : keyV y = some k) : ∀ {kvs : List (D × D)} {l : List (Key × V)}, RelKV B H ρ kvs l → (∀ d, dGet kvs y = some d → ∃ v, valV l k = some v ∧ RelD B H ρ d v) ∧ (dGet kvs y = none → valV l k = none)
  | [], l, h => by
    rw [show l = [] from h]
    exact ⟨fun d z => by simp [dGet] at z, fun _ => rfl⟩
  | (x, d) :: r, l, h => by
    obtain ⟨k', v, l', rfl, h1, h2, h3⟩ := h
    have ih := kv_val hy h3
    by_cases e : x = y
    · subst e
      rw [h1] at hy
      cases hy
      refine ⟨fun d' z => ?_, fun z => ?_⟩
      · have : dGet ((x, d) :: r) x = some d := by simp [dGet]
        rw [this] at z
        cases z
        exact ⟨v, valV_pos rfl, h2⟩
      · have : dGet ((x, d) :: r) x = some d := by simp [dGet]
        rw [this] at z
        cases z
    · have e1 : dGet ((x, d) :: r) y = dGet r y := by simp [dGet, e]
      have e2 : ¬ k' = k := fun z => e (keyV_inj (z ▸ h1) hy)
      rw [e1, valV_neg e2]
      exact ih
theorem cd_val {z : List Nat} : ∀ {ks vs : List D} {us : List V} {es : List DictEntry}, CDes ks us es → RelDs B H ρ vs us →
    (∀ d, dGet (ks.zip vs) (.str z) = some d → ∃ u v, findBy Value.isStrOf es.toArray ⟨z.toArray⟩ = some u ∧ RelV v u ∧ RelD B H ρ d v) ∧ (dGet (ks.zip vs) (.str z) = none → findBy Value.isStrOf es.toArray ⟨z.toArray⟩ = none)
  | [], vs, us, es, c, r => by
    cases us <;> cases es <;> first | exact c.elim | skip
    rw [show vs = [] from (by cases vs with
      | nil => rfl
      | cons x r' => obtain ⟨_, _, e, _⟩ := r; cases e)]
    exact ⟨fun d z => by simp [dGet] at z, fun _ => rfl⟩
  | k :: ks, vs, us, es, c, r => by
    cases us with
    | nil => cases es <;> exact c.elim
    | cons u us =>
    cases es with
    | nil => exact c.elim
    | cons e es =>
    obtain ⟨⟨a, t, rfl, he⟩, ru, c⟩ := c
    cases vs with
    | nil => cases (show u :: us = [] from r)
    | cons d vs =>
    obtain ⟨u', us', e0, rd, r⟩ := r
    cases e0
    have ih := cd_val (z := z) c r
    by_cases ez : a = z
    · subst ez
      have f1 : dGet ((D.str a :: ks).zip (d :: vs)) (.str a) = some d := by simp [dGet]
      have f2 : findBy Value.isStrOf (e :: es).toArray ⟨a.toArray⟩ = some e.val := by
        unfold findBy
        rw [List.find?_toArray, List.find?_cons]
        rw [he]
        show Option.map _ (match (Str.mk a.toArray == Str.mk a.toArray) with
          | true => _
          | false => _) = _
        simp
      rw [f1, f2]
      exact ⟨fun d' q => by cases q; exact ⟨_, u, rfl, ru, rd⟩, fun q => by cases q⟩
    · have f1 : dGet ((D.str a :: ks).zip (d :: vs)) (.str z) = dGet (ks.zip vs) (.str z) := by simp [dGet, ez]
      have f2 : findBy Value.isStrOf (e :: es).toArray ⟨z.toArray⟩ = findBy Value.isStrOf es.toArray ⟨z.toArray⟩ := by
        unfold findBy
        rw [List.find?_toArray, List.find?_toArray, List.find?_cons]
        have : Value.isStrOf ⟨z.toArray⟩ e.key = false := by
          rw [he]
          show (Str.mk a.toArray == Str.mk z.toArray) = false
          rw [beq_eq_false_iff_ne]
          intro q
          exact ez (toArr_inj (congrArg Str.cps q))
        rw [this]
      rw [f1, f2]
      exact ih
variable (hK : B.K = X.K) (hP : B.pw = X.w.params) (hu : X.A.units + 1 < cLine)
section
variable {pins : List (Addr × Obj)} {σ : L2.St} {s : Shared} {a : Addr} {x y : D} {vy : V} {u : Value} {kvs : List (D × D)} {E : Value → Shared → Prop}
include hK hP in
theorem dx_type (I : Inv X pins σ H s) (g : DicV B H ρ x kvs a) : s.TypeIs (.ref a) "dict" ∧ (∀ b, Value.ref a = .ref b → ∃ ob, s.heap.get? b = some ob ∧ ob.dict = none) := by
  rcases g with ⟨l, e, _⟩ | ⟨ks, vs, us, _, _, ⟨es, n, hl, hk, low, c⟩, r⟩
  · obtain ⟨t1, t2, _⟩ := isD_at I (.inl ⟨l, e⟩)
    exact ⟨t1, t2⟩
  · have hm := PySem.W.mapOf_K (prog := X.prog) (w := X.w) I.kIn (hK ▸ hl) (hP ▸ hk)
    exact ⟨hm.typeIs, hm.noDict⟩
theorem kOk_key {x k : D} (h : kOk x k = true) : keyOk k = true := by
  cases x <;> try exact h
  cases k <;> first | rfl | cases h
include hK hP hu in
theorem dx_getItem {d : D} {Q : Value → Shared → Prop} (I : Inv X pins σ H s) (g : DicV B H ρ x kvs a) (ok : kOk x y = true) (ry : RelD B H ρ y vy) (rv : RelV vy u) (hd : dGet kvs y = some d)
    (h : ∀ v w' s', Inv X pins σ H s' → RelV v w' → RelD B H ρ d v → Q w' s') : wpAny (model X.prog X.w) X.A (getItem (.ref a) u) Q E s := by
  obtain ⟨k, ky, rfl⟩ := keyV_of ry (kOk_key ok)
  rcases g with ⟨l, e, q, _⟩ | ⟨ks, vs, us, rfl, rfl, ⟨es, n, hl, hk, low, c⟩, r⟩
  · obtain ⟨v, hv, rd⟩ := (kv_val ky q).1 d hd
    exact d_getItem hu I (hv ▸ (.inl ⟨_, _, e, rfl, rfl⟩)) rv fun w' s' I' rw' => h v w' s' I' rw' rd
  · have hm := PySem.W.mapOf_K (prog := X.prog) (w := X.w) I.kIn (hK ▸ hl) (hP ▸ hk)
    cases y <;> first | cases ok | skip
    rename_i z
    have ky' : k = .inr ⟨z.toArray⟩ := by
      simp only [keyV] at ky
      split at ky
      · cases ky; rfl
      · cases ky
    subst ky'
    obtain ⟨t, rfl⟩ := (show ∃ t, u = Value.str _ t from rv)
    obtain ⟨l⟩ := es
    obtain ⟨u', v, f, ru, rd⟩ := (cd_val (z := z) c r).1 d hd
    exact wpAny_getItem_of (strKind_is X.prog X.w _ t) hm f (h v u' _ (I.tok _) ru rd)
include hK hP hu in
theorem dx_in {Q : Value → Shared → Prop} (I : Inv X pins σ H s) (g : DicV B H ρ x kvs a) (ok : kOk x y = true) (ry : RelD B H ρ y vy) (rv : RelV vy u)
    (h : ∀ s', Inv X pins σ H s' → Q (.bool (dGet kvs y).isSome) s') : wpAny (model X.prog X.w) X.A (compareOp .In u (.ref a)) Q E s := by
  obtain ⟨k, ky, rfl⟩ := keyV_of ry (kOk_key ok)
  rcases g with ⟨l, e, q, _⟩ | ⟨ks, vs, us, rfl, rfl, ⟨es, n, hl, hk, low, c⟩, r⟩
  · have : (dGet kvs y).isSome = (valV l k).isSome := by
      cases hd : dGet kvs y with
      | none => rw [(kv_val ky q).2 hd]; rfl
      | some d => obtain ⟨v, hv, _⟩ := (kv_val ky q).1 d hd; rw [hv]; rfl
    rw [this] at h
    exact d_in hu I (.inl ⟨_, _, e, rfl, rfl⟩) rv h
  · have hm := PySem.W.mapOf_K (prog := X.prog) (w := X.w) I.kIn (hK ▸ hl) (hP ▸ hk)
    cases y <;> first | cases ok | skip
    rename_i z
    have ky' : k = .inr ⟨z.toArray⟩ := by
      simp only [keyV] at ky
      split at ky
      · cases ky; rfl
      · cases ky
    subst ky'
    obtain ⟨t, rfl⟩ := (show ∃ t, u = Value.str _ t from rv)
    obtain ⟨l⟩ := es
    refine wpAny_in_of (strKind_is X.prog X.w _ t) low hm ?_
    have : (dGet (ks.zip vs) (.str z)).isSome = (findBy Value.isStrOf l.toArray ⟨z.toArray⟩).isSome := by
      cases hd : dGet (ks.zip vs) (.str z) with
      | none => rw [(cd_val (z := z) c r).2 hd]; rfl
      | some d => obtain ⟨u', v, f, _⟩ := (cd_val (z := z) c r).1 d hd; rw [f]; rfl
    rw [← this]
    exact h _ (I.tok _)
include hK hP hu in
theorem dx_notIn {Q : Value → Shared → Prop} (I : Inv X pins σ H s) (g : DicV B H ρ x kvs a) (ok : kOk x y = true) (ry : RelD B H ρ y vy) (rv : RelV vy u)
    (h : ∀ s', Inv X pins σ H s' → Q (.bool (!(dGet kvs y).isSome)) s') : wpAny (model X.prog X.w) X.A (compareOp .NotIn u (.ref a)) Q E s := by
  obtain ⟨k, ky, rfl⟩ := keyV_of ry (kOk_key ok)
  rcases g with ⟨l, e, q, _⟩ | ⟨ks, vs, us, rfl, rfl, ⟨es, n, hl, hk, low, c⟩, r⟩
  · have : (dGet kvs y).isSome = (valV l k).isSome := by
      cases hd : dGet kvs y with
      | none => rw [(kv_val ky q).2 hd]; rfl
      | some d => obtain ⟨v, hv, _⟩ := (kv_val ky q).1 d hd; rw [hv]; rfl
    rw [this] at h
    exact d_notIn hu I (.inl ⟨_, _, e, rfl, rfl⟩) rv h
  · have hm := PySem.W.mapOf_K (prog := X.prog) (w := X.w) I.kIn (hK ▸ hl) (hP ▸ hk)
    cases y <;> first | cases ok | skip
    rename_i z
    have ky' : k = .inr ⟨z.toArray⟩ := by
      simp only [keyV] at ky
      split at ky
      · cases ky; rfl
      · cases ky
    subst ky'
    obtain ⟨t, rfl⟩ := (show ∃ t, u = Value.str _ t from rv)
    obtain ⟨l⟩ := es
    refine wpAny_notIn_of (strKind_is X.prog X.w _ t) low hm ?_
    have : (dGet (ks.zip vs) (.str z)).isSome = (findBy Value.isStrOf l.toArray ⟨z.toArray⟩).isSome := by
      cases hd : dGet (ks.zip vs) (.str z) with
      | none => rw [(cd_val (z := z) c r).2 hd]; rfl
      | some d => obtain ⟨u', v, f, _⟩ := (cd_val (z := z) c r).1 d hd; rw [f]; rfl
    rw [← this]
    exact h _ (I.tok _)
include hK hP hu in
theorem dx_get2 {d : D} {vd : V} {ud : Value} {Q : Value → Shared → Prop} (I : Inv X pins σ H s) (g : DicV B H ρ x kvs a) (ok : kOk x y = true) (ry : RelD B H ρ y vy) (rv : RelV vy u) (rd : RelD B H ρ d vd) (rw2 : RelV vd ud)
    (h : ∀ v w' s', Inv X pins σ H s' → RelV v w' → RelD B H ρ ((dGet kvs y).getD d) v → Q w' s') : wpAny (model X.prog X.w) X.A (call (.builtin "dict.get") [.ref a, u, ud]) Q E s := by
  obtain ⟨k, ky, rfl⟩ := keyV_of ry (kOk_key ok)
  rcases g with ⟨l, e, q, _⟩ | ⟨ks, vs, us, rfl, rfl, ⟨es, n, hl, hk, low, c⟩, r⟩
  · have : RelD B H ρ ((dGet kvs y).getD d) ((valV l k).getD vd) := by
      cases hd : dGet kvs y with
      | none => rw [(kv_val ky q).2 hd]; exact rd
      | some d' => obtain ⟨v, hv, rr⟩ := (kv_val ky q).1 d' hd; rw [hv]; exact rr
    exact d_get2 hu I (.inl ⟨_, _, e, rfl, rfl⟩) rv rw2 fun w' s' I' rw' => h _ w' s' I' rw' this
  · have hm := PySem.W.mapOf_K (prog := X.prog) (w := X.w) I.kIn (hK ▸ hl) (hP ▸ hk)
    cases y <;> first | cases ok | skip
    rename_i z
    have ky' : k = .inr ⟨z.toArray⟩ := by
      simp only [keyV] at ky
      split at ky
      · cases ky; rfl
      · cases ky
    subst ky'
    obtain ⟨t, rfl⟩ := (show ∃ t, u = Value.str _ t from rv)
    obtain ⟨l⟩ := es
    refine call_meetsIn PySem.F.slot_dict_get hm.typeIs PySem.F.entry_dict_get (PySem.F.args_dict_get_3 _ _ _) (meets_dict_get_default (strKind X.prog X.w) a (strKind_is X.prog X.w _ t) low ud) ⟨_, hm, ?_⟩
    have : ∃ v, RelV v ((findBy Value.isStrOf l.toArray ⟨z.toArray⟩).getD ud) ∧ RelD B H ρ ((dGet (ks.zip vs) (.str z)).getD d) v := by
      cases hd : dGet (ks.zip vs) (.str z) with
      | none => rw [(cd_val (z := z) c r).2 hd]; exact ⟨vd, rw2, rd⟩
      | some d' => obtain ⟨u', v, f, ru, rr⟩ := (cd_val (z := z) c r).1 d' hd; rw [f]; exact ⟨v, ru, rr⟩
    obtain ⟨v, h1, h2⟩ := this
    exact h v _ _ (I.tok _) h1 h2
end
theorem kv_any {y : D} {k : Key} (hy : keyV y = some k) : ∀ {kvs : List (D × D)} {l : List (Key × V)}, RelKV B H ρ kvs l → (kvs.any fun p => decide (p.1 = y)) = (l.any fun p => decide (p.1 = k))
  | [], l, h => by rw [show l = [] from h]; rfl
  | (x, d) :: r, l, h => by
    obtain ⟨k', v, l', rfl, h1, h2, h3⟩ := h
    rw [List.any_cons, List.any_cons, kv_any hy h3]
    congr 1
    rw [Bool.eq_iff_iff, decide_eq_true_eq, decide_eq_true_eq]
    exact ⟨fun e => by subst e; rw [h1] at hy; exact Option.some.inj hy, fun e => keyV_inj (h1.trans (congrArg some e)) hy⟩
theorem kv_repl {y d' : D} {k : Key} {v' : V} (hy : keyV y = some k) (rd : RelD B H ρ d' v') : ∀ {kvs : List (D × D)} {l : List (Key × V)}, RelKV B H ρ kvs l → RelKV B H ρ (kvs.map fun p => if p.1 = y then (p.1, d') else p) (l.map fun p => if p.1 = k then (p.1, v') else p)
  | [], l, h => by rw [show l = [] from h]; rfl
  | (x, d) :: r, l, h => by
    obtain ⟨k', v, l', rfl, h1, h2, h3⟩ := h
    rw [List.map_cons, List.map_cons]
    by_cases e : x = y
    · subst e
      have : k' = k := by rw [h1] at hy; exact Option.some.inj hy
      subst this
      rw [if_pos rfl, if_pos rfl]
      exact ⟨k', v', _, rfl, h1, rd, kv_repl hy rd h3⟩
    · have : ¬ k' = k := fun z => e (keyV_inj (z ▸ h1) hy)
      rw [if_neg e, if_neg this]
      exact ⟨k', v, _, rfl, h1, h2, kv_repl hy rd h3⟩
theorem kv_app {kvs kvs2 : List (D × D)} {l l2 : List (Key × V)} : RelKV B H ρ kvs l → RelKV B H ρ kvs2 l2 → RelKV B H ρ (kvs ++ kvs2) (l ++ l2) := by
  induction kvs generalizing l with
  | nil => intro h1 h2; rw [show l = [] from h1]; exact h2
  | cons p r ih =>
    intro h1 h2
    obtain ⟨x, d⟩ := p
    obtain ⟨k', v, l', rfl, g1, g2, g3⟩ := h1
    exact ⟨k', v, _, rfl, g1, g2, ih g3 h2⟩
theorem kv_put {y d : D} {k : Key} {v : V} (hy : keyV y = some k) (rd : RelD B H ρ d v) {kvs : List (D × D)} {l : List (Key × V)} (h : RelKV B H ρ kvs l) : RelKV B H ρ (dPut kvs y d) (putK l k v) := by
  unfold dPut putK
  rw [kv_any hy h]
  split
  · exact kv_repl hy rd h
  · exact kv_app h ⟨k, v, [], rfl, hy, rd, rfl⟩
theorem kv_len {kvs : List (D × D)} {l : List (Key × V)} (h : RelKV B H ρ kvs l) : kvs.length = l.length := by
  induction kvs generalizing l with
  | nil => rw [show l = [] from h]; rfl
  | cons p r ih =>
    obtain ⟨x, d⟩ := p
    obtain ⟨k', v, l', rfl, g1, g2, g3⟩ := h
    rw [List.length_cons, List.length_cons, ih g3]
end
end PX

/-! PX: comparisons, subscripts, calls of built-ins, sound. -/
namespace PX
open PySem PySem.Spec PyProof.Rows L2
section
variable {B : Tb} {H : Hp} {ρ : List Addr}
theorem flat_of {x : D} {v : V} (r : RelD B H ρ x v) (h : flatD x = true) : flatV v = true := by
  cases x <;> simp only [flatD] at h
  case non => cases (show v = .non from r); rfl
  case bl b => cases (show v = .bl b from r); rfl
  case int i => cases (show v = .int i from r); rfl
  case str a => obtain ⟨rfl, _⟩ := r; rfl
  all_goals cases h
theorem eqF_of {x y : D} {v w : V} (r : RelD B H ρ x v) (q : RelD B H ρ y w) (h : flatD x = true) (h' : flatD y = true) : eqV v w = eqF x y := by
  cases x <;> simp only [flatD] at h
  case non =>
    cases (show v = .non from r)
    cases y <;> simp only [flatD] at h'
    case non => cases (show w = .non from q); rfl
    case bl b => cases (show w = .bl b from q); rfl
    case int i => cases (show w = .int i from q); rfl
    case str a => obtain ⟨rfl, _⟩ := q; rfl
    all_goals cases h'
  case bl b =>
    cases (show v = .bl b from r)
    cases y <;> simp only [flatD] at h'
    case non => cases (show w = .non from q); rfl
    case bl b => cases (show w = .bl b from q); rfl
    case int i => cases (show w = .int i from q); rfl
    case str a => obtain ⟨rfl, _⟩ := q; rfl
    all_goals cases h'
  case int b =>
    cases (show v = .int b from r)
    cases y <;> simp only [flatD] at h'
    case non => cases (show w = .non from q); rfl
    case bl b => cases (show w = .bl b from q); rfl
    case int i => cases (show w = .int i from q); rfl
    case str a => obtain ⟨rfl, _⟩ := q; rfl
    all_goals cases h'
  case str b =>
    obtain ⟨rfl, _⟩ := r
    cases y <;> simp only [flatD] at h'
    case non => cases (show w = .non from q); rfl
    case bl b => cases (show w = .bl b from q); rfl
    case int i => cases (show w = .int i from q); rfl
    case str a => obtain ⟨rfl, _⟩ := q; exact str_beq _ _
    all_goals cases h'
  all_goals cases h
theorem flats_of : ∀ {xs : List D} {vs : List V}, RelDs B H ρ xs vs → xs.all flatD = true → vs.all flatV = true
  | [], vs, h, _ => by
    have e : vs = [] := h
    subst e
    rfl
  | x :: xs, vs, h, f => by
    obtain ⟨v, r, rfl, h1, h2⟩ := h
    rw [List.all_cons, Bool.and_eq_true] at f ⊢
    exact ⟨flat_of h1 f.1, flats_of h2 f.2⟩
theorem anys_of {y : D} {w : V} (q : RelD B H ρ y w) (hf : flatD y = true) : ∀ {xs : List D} {vs : List V}, RelDs B H ρ xs vs → xs.all flatD = true → (vs.any fun z => eqV z w) = xs.any fun z => eqF z y
  | [], vs, h, _ => by
    have e : vs = [] := h
    subst e
    rfl
  | x :: xs, vs, h, f => by
    obtain ⟨v, r, rfl, h1, h2⟩ := h
    rw [List.all_cons, Bool.and_eq_true] at f
    rw [List.any_cons, List.any_cons, anys_of q hf h2 f.2, eqF_of h1 q f.1 hf]
theorem isNon_of {x : D} {v : V} (r : RelD B H ρ x v) : decide (v = .non) = isNon x := by
  cases x with
  | non => cases (show v = .non from r); rfl
  | bl b => cases (show v = .bl b from r); rfl
  | int i => cases (show v = .int i from r); rfl
  | str a => obtain ⟨rfl, _⟩ := r; rfl
  | tup xs => obtain ⟨a, _, rfl, _⟩ := r; rfl
  | fl xs => obtain ⟨a, _, rfl, _⟩ := r; rfl
  | kd n => exact r.elim
  | ref n => obtain ⟨a, rfl, _⟩ := r; rfl
  | fd ks vs => obtain ⟨a, _, rfl, _⟩ := r; rfl
end
section
variable {X : Cx} {B : Tb} (hK : B.K = X.K) (hP : B.pw = X.w.params) (hu : X.A.units + 65 < cLine)
include hK hu in
theorem or_eq : OpR X (compareOp .Eq) (rO B (xCmp .Eq)) := by
  intro pins s σ H vx vy v u Q I rx ry h
  obtain ⟨x, y, st, ρ, r1, r2, S, h⟩ := h
  have deep : obl (eqDeep st x y) (fun c => Lift B H ρ Q (.bl c) st) → wpAny (model X.prog X.w) X.A (compareOp .Eq v u) (EP X pins σ Q) X.xe s := fun h => by
    cases e : eqDeep st x y with
    | none => rw [e] at h; exact h.elim
    | some c =>
      rw [e] at h
      obtain ⟨d1, d2, g1, g2, g3, g4, g5⟩ := deep_eq S r1 r2 e
      exact op_eqD (Nat.lt_of_succ_lt hu) pins s σ H _ _ v u Q I rx ry ⟨d1, d2, hK ▸ g1, hK ▸ g2, g3, g4, by rw [g5]; exact h.here (rfl : V.bl c = _) S⟩
  cases x <;> cases y <;> simp only [xCmp, cmpD, eqD] at h <;> first
    | exact deep h
    | skip
  case int.int i j =>
    cases int_of r1; cases int_of r2
    exact op_eq pins s σ H _ _ v u Q I rx ry ⟨rfl, by rw [show decide (V.int i = V.int j) = decide (i = j) by simp]; exact Lift.here h rfl S⟩
  case str.str a b =>
    obtain ⟨rfl, _⟩ := r1
    obtain ⟨rfl, _⟩ := r2
    exact op_eq pins s σ H _ _ v u Q I rx ry ⟨rfl, by rw [show decide (V.str ⟨a.toArray⟩ = V.str ⟨b.toArray⟩) = decide (a = b) by simp]; exact Lift.here h rfl S⟩
  case bl.bl a b =>
    cases (show vx = .bl a from r1); cases (show vy = .bl b from r2)
    exact op_eq pins s σ H _ _ v u Q I rx ry ⟨rfl, by rw [show decide (V.bl a = V.bl b) = decide (a = b) by simp]; exact Lift.here h rfl S⟩
include hK hu in
theorem or_ne : OpR X (compareOp .NotEq) (rO B (xCmp .NotEq)) := by
  intro pins s σ H vx vy v u Q I rx ry h
  obtain ⟨x, y, st, ρ, r1, r2, S, h⟩ := h
  have deep : obl ((eqDeep st x y).map fun b => !b) (fun c => Lift B H ρ Q (.bl c) st) → wpAny (model X.prog X.w) X.A (compareOp .NotEq v u) (EP X pins σ Q) X.xe s := fun h => by
    cases e : eqDeep st x y with
    | none => rw [e] at h; exact h.elim
    | some c =>
      rw [e] at h
      obtain ⟨d1, d2, g1, g2, g3, g4, g5⟩ := deep_eq S r1 r2 e
      exact op_neD (Nat.lt_of_succ_lt hu) pins s σ H _ _ v u Q I rx ry ⟨d1, d2, hK ▸ g1, hK ▸ g2, g3, g4, by rw [g5]; exact Lift.here h (rfl : V.bl (!c) = _) S⟩
  cases x <;> cases y <;> simp only [xCmp, cmpD, eqD] at h <;> first
    | exact deep h
    | skip
  case int.int i j =>
    cases int_of r1; cases int_of r2
    exact op_ne pins s σ H _ _ v u Q I rx ry ⟨rfl, by rw [show decide (V.int i = V.int j) = decide (i = j) by simp]; exact Lift.here h rfl S⟩
  case str.str a b =>
    obtain ⟨rfl, _⟩ := r1
    obtain ⟨rfl, _⟩ := r2
    exact op_ne pins s σ H _ _ v u Q I rx ry ⟨rfl, by rw [show decide (V.str ⟨a.toArray⟩ = V.str ⟨b.toArray⟩) = decide (a = b) by simp]; exact Lift.here h rfl S⟩
  case bl.bl a b =>
    cases (show vx = .bl a from r1); cases (show vy = .bl b from r2)
    exact op_ne pins s σ H _ _ v u Q I rx ry ⟨rfl, by rw [show decide (V.bl a = V.bl b) = decide (a = b) by simp]; exact Lift.here h rfl S⟩
theorem or_ints (op : CmpOp) (g : Int → Int → Bool) (ho : OpR X (compareOp op) (rI0 fun i j => .bl (g i j))) (hc : ∀ s x y, cmpD s op x y ≠ none → ∃ i j, x = .int i ∧ y = .int j ∧ cmpD s op x y = some (g i j)) : OpR X (compareOp op) (rO B (xCmp op)) := by
  intro pins s σ H vx vy v u Q I rx ry h
  obtain ⟨x, y, st, ρ, r1, r2, S, h⟩ := h
  simp only [xCmp] at h
  have hne : cmpD st op x y ≠ none := fun e => by rw [e] at h; exact h.elim
  obtain ⟨i, j, rfl, rfl, e⟩ := hc st x y hne
  rw [e] at h
  cases int_of r1; cases int_of r2
  exact ho pins s σ H _ _ v u Q I rx ry ⟨i, j, rfl, rfl, Lift.here h rfl S⟩
theorem or_lt : OpR X (compareOp .Lt) (rO B (xCmp .Lt)) := or_ints .Lt (fun i j => decide (i < j)) op_lt fun s x y h => by
  cases x <;> cases y <;> simp_all [cmpD]
theorem or_le : OpR X (compareOp .LtE) (rO B (xCmp .LtE)) := or_ints .LtE (fun i j => decide (i ≤ j)) op_le fun s x y h => by
  cases x <;> cases y <;> simp_all [cmpD]
theorem or_gt : OpR X (compareOp .Gt) (rO B (xCmp .Gt)) := or_ints .Gt (fun i j => decide (j < i)) op_gt fun s x y h => by
  cases x <;> cases y <;> simp_all [cmpD]
theorem or_ge : OpR X (compareOp .GtE) (rO B (xCmp .GtE)) := or_ints .GtE (fun i j => decide (j ≤ i)) op_ge fun s x y h => by
  cases x <;> cases y <;> simp_all [cmpD]
theorem or_is : OpR X (compareOp .Is) (rO B (xCmp .Is)) := by
  intro pins s σ H vx vy v u Q I rx ry h
  obtain ⟨x, y, st, ρ, r1, r2, S, h⟩ := h
  cases y <;> simp only [xCmp, cmpD] at h
  case non =>
    cases (show vy = .non from r2)
    exact op_isN pins s σ H _ _ v u Q I rx ry ⟨rfl, by rw [isNon_of r1]; exact Lift.here h rfl S⟩
  all_goals exact h.elim
theorem or_isn : OpR X (compareOp .IsNot) (rO B (xCmp .IsNot)) := by
  intro pins s σ H vx vy v u Q I rx ry h
  obtain ⟨x, y, st, ρ, r1, r2, S, h⟩ := h
  cases y <;> simp only [xCmp, cmpD] at h
  case non =>
    cases (show vy = .non from r2)
    exact op_notN pins s σ H _ _ v u Q I rx ry ⟨rfl, by rw [isNon_of r1]; exact Lift.here h rfl S⟩
  all_goals exact h.elim
include hK hP hu in
theorem or_in : OpR X (compareOp .In) (rO B (xCmp .In)) := by
  intro pins s σ H vx vy v u Q I rx ry h
  obtain ⟨x, y, st, ρ, r1, r2, S, h⟩ := h
  simp only [xCmp, cmpD] at h
  unfold inD at h
  split at h
  · rename_i kvs hd
    split at h
    · rename_i ok
      obtain ⟨a, rfl, g⟩ := dic_of S r2 hd
      obtain rfl : u = Value.ref a := ry
      exact dx_in hK hP (by omega) I g ok r1 rx fun s' I' => ⟨.bl _, H, I', rfl, Lift.here h rfl S⟩
    · exact h.elim
  unfold inS at h
  split at h
  · rename_i b
    obtain ⟨rfl, _⟩ := r2
    split at h
    · rename_i a
      obtain ⟨rfl, _⟩ := r1
      refine op_in_str pins s σ H _ _ v u Q I rx ry ⟨_, _, rfl, rfl, ?_⟩
      rw [toArr_len]
      exact Lift.here h rfl S
    · exact h.elim
  · split at h
    · rename_i ys hs
      split at h
      · rename_i hf
        rw [Bool.and_eq_true] at hf
        obtain ⟨a, vs, rfl, q, d⟩ := seq_of S r2 hs
        refine op_in_seq pins s σ H _ _ v u Q I rx ry ⟨a, vs, rfl, hK ▸ q, flat_of r1 hf.1, flats_of d hf.2, ?_⟩
        rw [if_neg Bool.false_ne_true]
        unfold inV
        rw [anys_of r1 hf.1 d hf.2]
        exact Lift.here h rfl S
      · exact h.elim
    · exact h.elim
include hK hP hu in
theorem or_nin : OpR X (compareOp .NotIn) (rO B (xCmp .NotIn)) := by
  intro pins s σ H vx vy v u Q I rx ry h
  obtain ⟨x, y, st, ρ, r1, r2, S, h⟩ := h
  simp only [xCmp, cmpD] at h
  unfold inD at h
  split at h
  · rename_i kvs hd
    split at h
    · rename_i ok
      obtain ⟨a, rfl, g⟩ := dic_of S r2 hd
      obtain rfl : u = Value.ref a := ry
      exact dx_notIn hK hP (by omega) I g ok r1 rx fun s' I' => ⟨.bl _, H, I', rfl, Lift.here h rfl S⟩
    · exact h.elim
  unfold inS at h
  split at h
  · rename_i b
    obtain ⟨rfl, _⟩ := r2
    split at h
    · rename_i a
      obtain ⟨rfl, _⟩ := r1
      refine op_notin_str pins s σ H _ _ v u Q I rx ry ⟨_, _, rfl, rfl, ?_⟩
      rw [toArr_len]
      exact Lift.here h rfl S
    · exact h.elim
  · split at h
    · rename_i ys hs
      split at h
      · rename_i hf
        rw [Bool.and_eq_true] at hf
        obtain ⟨a, vs, rfl, q, d⟩ := seq_of S r2 hs
        refine op_notIn_seq pins s σ H _ _ v u Q I rx ry ⟨a, vs, rfl, hK ▸ q, flat_of r1 hf.1, flats_of d hf.2, ?_⟩
        rw [if_pos rfl]
        unfold inV
        rw [anys_of r1 hf.1 d hf.2]
        exact Lift.here h rfl S
      · exact h.elim
    · exact h.elim
include hK hP hu in
theorem or_cmp (op : CmpOp) : OpR X (compareOp op) (rO B (xCmp op)) := by
  cases op
  · exact or_eq hK hu
  · exact or_ne hK hu
  · exact or_lt
  · exact or_le
  · exact or_gt
  · exact or_ge
  · exact or_is
  · exact or_isn
  · exact or_in hK hP hu
  · exact or_nin hK hP hu

/-! ### subscripts -/
theorem atI_rel {H : Hp} {ρ : List Addr} {xs : List D} {vs : List V} (d : RelDs B H ρ xs vs) {i : Int} {x : D} (h : atI xs i = some x) : ∃ v, atI vs i = some v ∧ RelD B H ρ x v := by
  unfold atI at h ⊢
  rw [← d.length]
  cases e : ixN xs.length i with
  | none => rw [e] at h; cases h
  | some j =>
    rw [e] at h
    exact d.get h
theorem atI_mem {α : Type} {xs : List α} {i : Int} {x : α} (h : atI xs i = some x) : x ∈ xs := by
  obtain ⟨j, _, e, _⟩ := atI_get h
  exact List.mem_of_getElem? e
include hK hP hu in
theorem ix_ok : IxR X (rO B xIx) := by
  intro ve se pins s σ H vx vy v u Q I rx ry h hs
  obtain ⟨x, y, st, ρ, r1, r2, S, h⟩ := h
  unfold xIx at h
  split at h
  · rename_i kvs hd
    obtain ⟨a, rfl, g⟩ := dic_of S r1 hd
    obtain rfl : v = Value.ref a := rx
    obtain ⟨ok, h⟩ := h
    split at h
    · rename_i d hg
      exact tail_any (dx_type hK hP I g).1 slot_dict_getitem.lookup (dx_getItem hK hP (by omega) I g ok r2 ry hg fun w w' s' I' rw' rd => ⟨w, H, I', rw', Lift.here h rd S⟩) hs
    · exact h.elim
  unfold xIs at h
  split at h
  · rename_i i
    cases int_of r2
    split at h
    · rename_i a
      obtain ⟨rfl, z⟩ := r1
      split at h
      · rename_i c hc
        refine ix_str ve se pins s σ H _ _ v u Q I rx ry ⟨_, i, c, rfl, rfl, by rw [toArr_len]; exact z.1, hc, ?_⟩ hs
        exact Lift.here h ⟨rfl, z.sub (fun c' hc' => by rw [List.mem_singleton.mp hc']; exact atI_mem hc) (List.length_pos_of_mem (atI_mem hc))⟩ S
      · exact h.elim
    · split at h
      · rename_i xs hx
        obtain ⟨a, vs, rfl, q, d⟩ := seq_of S r1 hx
        split at h
        · rename_i y hy
          obtain ⟨w, e, r⟩ := atI_rel d hy
          have fin := Lift.here h r S
          rcases q with q | q
          · exact ix_list ve se pins s σ H _ _ v u Q I rx ry ⟨a, vs, i, w, rfl, rfl, hK ▸ q, e, fin⟩ hs
          · exact ix_tup ve se pins s σ H _ _ v u Q I rx ry ⟨a, vs, i, w, rfl, rfl, hK ▸ q, e, fin⟩ hs
        · exact h.elim
      · exact h.elim
  · exact h.elim
def rS (B : Tb) : V → Option Int → Option Int → Hp → VK → Prop := fun vx lo hi H Q => ∃ (x l u : D) (s : Sto) (ρ : List Addr), RelD B H ρ x vx ∧ partD l = some lo ∧ partD u = some hi ∧ RelS B H ρ s ∧ xSl x l u s (Lift B H ρ Q)
theorem mem_cut {α : Type} {xs : List α} {lo hi : Option Int} {x : α} (h : x ∈ cut xs lo hi) : x ∈ xs := List.mem_of_mem_drop (List.mem_of_mem_take h)
theorem len_cut {α : Type} (xs : List α) (lo hi : Option Int) : (cut xs lo hi).length ≤ xs.length := by
  unfold cut
  rw [List.length_take, List.length_drop]
  omega
include hK in
theorem sl_ok : SlR X (rS B) := by
  intro pins s σ H vx v vl vu lo hi sl Q I rx hs pl pu h
  obtain ⟨x, l, u, st, ρ, r1, e1, e2, S, h⟩ := h
  unfold xSl at h
  rw [e1, e2] at h
  simp only at h
  cases x <;> simp only at h
  case str a =>
    obtain ⟨rfl, z⟩ := r1
    refine sl_str pins s σ H _ v vl vu lo hi sl Q I rx hs pl pu ⟨_, rfl, by rw [toArr_len]; exact z.1, ?_⟩
    exact h.here ⟨rfl, z.sub (fun c hc => mem_cut hc) (len_cut _ _ _)⟩ S
  case tup xs =>
    obtain ⟨a, vs, rfl, q, z, d⟩ := id r1
    have hl := d.cut lo hi
    have hz : (cut xs lo hi).length ≤ sizeLine := Nat.le_trans (len_cut _ _ _) z
    refine sl_tupA pins s σ H _ v vl vu lo hi sl Q I rx hs pl pu ⟨a, vs, rfl, hK ▸ q, fun w => ?_, fun w t ht => tup_new S hl hz h ht⟩
    have e : cut xs lo hi = xs := by
      unfold cut
      rw [d.length, w.1, w.2, Nat.sub_zero, List.drop_zero, ← d.length, List.take_length]
    rw [e] at h
    exact h.here r1 S
  case fl xs =>
    obtain ⟨a, vs, rfl, q, d⟩ := id r1
    refine sl_list pins s σ H _ v vl vu lo hi sl Q I rx hs pl pu ⟨a, vs, rfl, hK ▸ q.sq, fun p hp => mk_new S (d.cut lo hi) h hp⟩
  case ref n =>
    obtain ⟨a, rfl, q⟩ := r1
    split at h
    · rename_i xs hx
      obtain ⟨vs, g, d⟩ := S.lstOf q hx
      exact sl_list pins s σ H _ v vl vu lo hi sl Q I rx hs pl pu ⟨a, vs, rfl, SqL.of g, fun p hp => mk_new S (d.cut lo hi) h hp⟩
    · exact h.elim
  all_goals exact h.elim
end
end PX

/-! PX: calls of built-ins and of the methods of built-in types, sound. -/
namespace PX
open PySem PySem.Spec PyProof.Rows L2
def rB (B : Tb) (f : BF) : List V → Hp → VK → Prop := fun vs H Q => ∃ (ds : List D) (s : Sto) (ρ : List Addr), RelDs B H ρ ds vs ∧ RelS B H ρ s ∧ xBlt f ds s (Lift B H ρ Q)
def rM (B : Tb) (m : MF) : V → List V → Hp → VK → Prop := fun v vs H Q => ∃ (x : D) (ds : List D) (s : Sto) (ρ : List Addr), RelD B H ρ x v ∧ RelDs B H ρ ds vs ∧ RelS B H ρ s ∧ xMeth m x ds s (Lift B H ρ Q)
section
variable {B : Tb} {H : Hp} {ρ : List Addr}
theorem rel1 {x : D} {vs : List V} (h : RelDs B H ρ [x] vs) : ∃ v, vs = [v] ∧ RelD B H ρ x v := by
  obtain ⟨v, r, rfl, h1, h2⟩ := h
  have e : r = [] := h2
  subst e
  exact ⟨v, rfl, h1⟩
theorem rel2 {x y : D} {vs : List V} (h : RelDs B H ρ [x, y] vs) : ∃ v w, vs = [v, w] ∧ RelD B H ρ x v ∧ RelD B H ρ y w := by
  obtain ⟨v, r, rfl, h1, h2⟩ := h
  obtain ⟨w, rfl, h3⟩ := rel1 h2
  exact ⟨v, w, rfl, h1, h3⟩
theorem rel0 {vs : List V} (h : RelDs B H ρ [] vs) : vs = [] := h
theorem strs_of : ∀ {xs : List D} {vs : List V} {l : List (List Nat)}, RelDs B H ρ xs vs → strsOf xs = some l → vs = (l.map fun a => (⟨a.toArray⟩ : Str)).map V.str ∧ ∀ a ∈ l, StrOk a
  | [], vs, l, h, e => by
    cases e
    exact ⟨h, fun _ z => absurd z (by simp)⟩
  | x :: xs, vs, l, h, e => by
    obtain ⟨v, r, rfl, h1, h2⟩ := h
    cases x <;> simp only [strsOf] at e
    case str a =>
      cases e2 : strsOf xs with
      | none => rw [e2] at e; cases e
      | some m =>
        rw [e2] at e
        cases e
        obtain ⟨rfl, z⟩ := h1
        obtain ⟨g1, g2⟩ := strs_of h2 e2
        exact ⟨by rw [g1]; rfl, fun b hb => (List.mem_cons.mp hb).elim (fun q => q ▸ z) (g2 b)⟩
    all_goals cases e
theorem join_toArr (sep : List Nat) : ∀ l : List (List Nat), Str.join ⟨sep.toArray⟩ (l.map fun a => (⟨a.toArray⟩ : Str)) = ⟨(joinS sep l).toArray⟩
  | [] => rfl
  | [a] => rfl
  | a :: b :: r => by
    have ih := join_toArr sep (b :: r)
    simp only [List.map_cons, Str.join, joinS] at ih ⊢
    rw [ih, toArr_add, toArr_add]
theorem joinS_len (sep : List Nat) : ∀ l : List (List Nat), (joinS sep l).length ≤ (l.map List.length).sum + l.length * sep.length
  | [] => Nat.zero_le _
  | [a] => by simp [joinS]
  | a :: b :: r => by
    have ih := joinS_len sep (b :: r)
    simp only [joinS, List.length_append, List.map_cons, List.sum_cons, List.length_cons] at ih ⊢
    rw [Nat.add_mul (r.length + 1) 1, Nat.one_mul]
    omega
theorem joinS_mem (sep : List Nat) (c : Nat) : ∀ l : List (List Nat), c ∈ joinS sep l → c ∈ sep ∨ ∃ a ∈ l, c ∈ a
  | [], h => by simp [joinS] at h
  | [a], h => .inr ⟨a, by simp, h⟩
  | a :: b :: r, h => by
    simp only [joinS, List.mem_append] at h
    rcases h with (h | h) | h
    · exact .inr ⟨a, by simp, h⟩
    · exact .inl h
    · rcases joinS_mem sep c (b :: r) h with h | ⟨d, h1, h2⟩
      · exact .inl h
      · exact .inr ⟨d, List.mem_cons_of_mem _ h1, h2⟩
end
theorem strI_ok (i : Int) (h0 : 0 ≤ i) (h : i < 10 ^ 10) : StrOk (strI i) := by
  have e : strI i = (toString i).toList.map Char.toNat := PyProof.Rows.signs_ofString (toString i)
  refine ⟨?_, fun c hc => ?_⟩
  · have := PyProof.Rows.toString_length_le h0 (k := 10) (by decide) h
    show (Str.ofString (toString i)).cps.toList.length ≤ sizeLine
    rw [Array.length_toList]
    exact Nat.le_trans this (by decide)
  · rw [e] at hc
    obtain ⟨ch, _, rfl⟩ := List.mem_map.mp hc
    have hv := ch.valid
    simp only [UInt32.isValidChar, Nat.isValidChar] at hv
    show ch.val.toNat < 1114112
    omega
theorem log_small {i : Int} (h0 : 0 ≤ i) (h : i < 10 ^ 10) : i.natAbs.log2 < 1920 := by
  have h1 : i.natAbs < 2 ^ 1920 := Nat.lt_of_lt_of_le (by omega : i.natAbs < 10 ^ 10) (Nat.le_trans (by decide : 10 ^ 10 ≤ 2 ^ 34) (Nat.pow_le_pow_right (by decide) (by decide)))
  exact PySem.Flt.log2_lt_of (by decide) h1
theorem blt1 {f : BF} {g : D → Sto → QE → Prop} (hg : ∀ ds s Q, xBlt f ds s Q → ∃ x, ds = [x] ∧ g x s Q) {B : Tb} {vs : List V} {H : Hp} {Q : VK} (h : rB B f vs H Q) :
    ∃ x v s ρ, vs = [v] ∧ RelD B H ρ x v ∧ RelS B H ρ s ∧ g x s (Lift B H ρ Q) := by
  obtain ⟨ds, st, ρ, d, S, h⟩ := h
  obtain ⟨x, rfl, h'⟩ := hg _ _ _ h
  obtain ⟨v, rfl, r⟩ := rel1 d
  exact ⟨x, v, st, ρ, rfl, r, S, h'⟩
theorem blt2 {f : BF} {g : D → D → Sto → QE → Prop} (hg : ∀ ds s Q, xBlt f ds s Q → ∃ x y, ds = [x, y] ∧ g x y s Q) {B : Tb} {vs : List V} {H : Hp} {Q : VK} (h : rB B f vs H Q) :
    ∃ x y v w s ρ, vs = [v, w] ∧ RelD B H ρ x v ∧ RelD B H ρ y w ∧ RelS B H ρ s ∧ g x y s (Lift B H ρ Q) := by
  obtain ⟨ds, st, ρ, d, S, h⟩ := h
  obtain ⟨x, y, rfl, h'⟩ := hg _ _ _ h
  obtain ⟨v, w, rfl, r, q⟩ := rel2 d
  exact ⟨x, y, v, w, st, ρ, rfl, r, q, S, h'⟩
theorem one_of {f : BF} {g : D → Sto → QE → Prop} (h0 : ∀ s Q, ¬ xBlt f [] s Q) (h1 : ∀ x s Q, xBlt f [x] s Q → g x s Q) (h2 : ∀ x y r s Q, ¬ xBlt f (x :: y :: r) s Q) : ∀ ds s Q, xBlt f ds s Q → ∃ x, ds = [x] ∧ g x s Q
  | [], s, Q, h => (h0 s Q h).elim
  | [x], s, Q, h => ⟨x, rfl, h1 x s Q h⟩
  | x :: y :: r, s, Q, h => (h2 x y r s Q h).elim
theorem two_of {f : BF} {g : D → D → Sto → QE → Prop} (h0 : ∀ s Q, ¬ xBlt f [] s Q) (h1 : ∀ x s Q, ¬ xBlt f [x] s Q) (h2 : ∀ x y s Q, xBlt f [x, y] s Q → g x y s Q) (h3 : ∀ x y z r s Q, ¬ xBlt f (x :: y :: z :: r) s Q) :
    ∀ ds s Q, xBlt f ds s Q → ∃ x y, ds = [x, y] ∧ g x y s Q
  | [], s, Q, h => (h0 s Q h).elim
  | [x], s, Q, h => (h1 x s Q h).elim
  | [x, y], s, Q, h => ⟨x, y, rfl, h2 x y s Q h⟩
  | x :: y :: z :: r, s, Q, h => (h3 x y z r s Q h).elim
section
variable {X : Cx} {B : Tb} (hK : B.K = X.K) (hc : X.calm = true)
include hK in
theorem bf_len : CallR X (.builtin "len") (rB B .len) := by
  intro pins s σ H vs us Q I r h
  obtain ⟨x, v, st, ρ, rfl, rx, S, k⟩ := blt1 (g := bLen) (one_of (f := .len) (fun _ _ h => h) (fun _ _ _ h => h) (fun _ _ _ _ _ h => h)) h
  have seq : ∀ {xs : List D}, seqOf st x = some xs → Lift B H ρ Q (.int xs.length) st → wpAny (model X.prog X.w) X.A (call (.builtin "len") us) (EP X pins σ Q) X.xe s := fun {xs} hx k => by
    obtain ⟨a, vs, rfl, q, d⟩ := seq_of S rx hx
    exact call_len_seq pins s σ H _ us Q I r ⟨a, vs, rfl, hK ▸ q, by rw [← d.length]; exact k.here rfl S⟩
  cases x <;> simp only [bLen] at k
  case str a =>
    obtain ⟨rfl, z⟩ := rx
    exact call_len_str pins s σ H _ us Q I r ⟨_, rfl, by rw [toArr_len]; exact z.1, by rw [toArr_len]; exact k.here rfl S⟩
  all_goals
    split at k
    · rename_i xs hx; exact seq hx k
    · exact k.elim
theorem bf_int : CallR X (.type "int") (rB B .int) := by
  intro pins s σ H vs us Q I r h
  obtain ⟨x, v, st, ρ, rfl, rx, S, k⟩ := blt1 (g := bInt) (one_of (f := .int) (fun _ _ h => h) (fun _ _ _ h => h) (fun _ _ _ _ _ h => h)) h
  cases x <;> simp only [bInt] at k
  case int i =>
    cases int_of rx
    exact call_int1 pins s σ H _ us Q I r (.inl ⟨i, rfl, k.here rfl S⟩)
  case bl b =>
    cases (show v = .bl b from rx)
    exact call_int1 pins s σ H _ us Q I r (.inr ⟨b, rfl, k.here rfl S⟩)
  all_goals exact k.elim
theorem bf_abs : CallR X (.builtin "abs") (rB B .abs) := by
  intro pins s σ H vs us Q I r h
  obtain ⟨x, v, st, ρ, rfl, rx, S, k⟩ := blt1 (g := bAbs) (one_of (f := .abs) (fun _ _ h => h) (fun _ _ _ h => h) (fun _ _ _ _ _ h => h)) h
  cases x <;> simp only [bAbs] at k
  case int i =>
    cases int_of rx
    exact call_abs pins s σ H _ us Q I r ⟨i, rfl, k.here rfl S⟩
  all_goals exact k.elim
theorem bf_str : CallR X (.type "str") (rB B .str) := by
  intro pins s σ H vs us Q I r h
  obtain ⟨x, v, st, ρ, rfl, rx, S, k⟩ := blt1 (g := bStr) (one_of (f := .str) (fun _ _ h => h) (fun _ _ _ h => h) (fun _ _ _ _ _ h => h)) h
  cases x <;> simp only [bStr] at k
  case int i =>
    cases int_of rx
    refine call_str_int pins s σ H _ us Q I r ⟨i, rfl, log_small k.1.1 k.1.2, k.2.here ⟨?_, strI_ok i k.1.1 k.1.2⟩ S⟩
    show V.str _ = V.str ⟨(((toString i : Str)).cps.toList).toArray⟩
    rw [Array.toArray_toList]
  all_goals exact k.elim
include hK in
theorem bf_tuple : CallR X (.type "tuple") (rB B .tuple) := by
  intro pins s σ H vs us Q I r h
  obtain ⟨x, v, st, ρ, rfl, rx, S, k⟩ := blt1 (g := bTup) (one_of (f := .tuple) (fun _ _ h => h) (fun _ _ _ h => h) (fun _ _ _ _ _ h => h)) h
  have seq : ∀ {xs : List D}, seqOf st x = some xs → (∀ ys, x ≠ .tup ys) → Lift B H ρ Q (.tup xs) st → wpAny (model X.prog X.w) X.A (call (.type "tuple") us) (EP X pins σ Q) X.xe s := fun {xs} hx hn k => by
    obtain ⟨a, vs, rfl, q', d⟩ := seq_list S rx hx hn
    obtain ⟨its, _, _, z⟩ := I.list (hK ▸ q')
    exact call_tuple_of pins s σ H _ us Q I r ⟨a, vs, rfl, .inl ⟨hK ▸ q', fun l hl => tup_new S d (by rw [d.length]; exact z) k hl⟩⟩
  cases x <;> simp only [bTup] at k
  case tup xs =>
    obtain ⟨a, vs, rfl, q, z, d⟩ := id rx
    exact call_tuple_of pins s σ H _ us Q I r ⟨a, vs, rfl, .inr ⟨hK ▸ q, k.here rx S⟩⟩
  all_goals
    split at k
    · rename_i xs hx; exact seq hx (fun _ z => by cases z) k
    · exact k.elim
include hK in
theorem bf_list : CallR X (.type "list") (rB B .list) := by
  intro pins s σ H vs us Q I r h
  obtain ⟨x, v, st, ρ, rfl, rx, S, k⟩ := blt1 (g := bLst) (one_of (f := .list) (fun _ _ h => h) (fun _ _ _ h => h) (fun _ _ _ _ _ h => h)) h
  unfold bLst at k
  split at k
  · rename_i xs hx
    obtain ⟨a, vs, rfl, q, d⟩ := seq_of S rx hx
    exact call_list_of pins s σ H _ us Q I r ⟨a, vs, rfl, hK ▸ q, fun l hl => mk_new S d k hl⟩
  · exact k.elim
include hc in
theorem bf_max : CallR X (.builtin "max") (rB B .max2) := by
  intro pins s σ H vs us Q I r h
  obtain ⟨x, y, v, w, st, ρ, rfl, rx, ry, S, k⟩ := blt2 (g := bMax) (two_of (f := .max2) (fun _ _ h => h) (fun _ _ _ h => h) (fun _ _ _ _ h => h) (fun _ _ _ _ _ _ h => h)) h
  cases x <;> cases y <;> simp only [bMax] at k
  case int.int i j =>
    cases int_of rx; cases int_of ry
    exact call_max2 hc pins s σ H _ us Q I r ⟨i, j, rfl, k.here rfl S⟩
  all_goals exact k.elim
include hc in
theorem bf_min : CallR X (.builtin "min") (rB B .min2) := by
  intro pins s σ H vs us Q I r h
  obtain ⟨x, y, v, w, st, ρ, rfl, rx, ry, S, k⟩ := blt2 (g := bMin) (two_of (f := .min2) (fun _ _ h => h) (fun _ _ _ h => h) (fun _ _ _ _ h => h) (fun _ _ _ _ _ _ h => h)) h
  cases x <;> cases y <;> simp only [bMin] at k
  case int.int i j =>
    cases int_of rx; cases int_of ry
    exact call_min2 hc pins s σ H _ us Q I r ⟨i, j, rfl, k.here rfl S⟩
  all_goals exact k.elim
theorem ints_of : ∀ {xs : List D} {vs : List V} {ns : List Int} {H : Hp} {ρ : List Addr}, RelDs B H ρ xs vs → intsOf xs = some ns → vs = ns.map V.int
  | [], vs, ns, H, ρ, h, e => by
    cases e
    exact h
  | x :: xs, vs, ns, H, ρ, h, e => by
    obtain ⟨v, r, rfl, h1, h2⟩ := h
    cases x <;> simp only [intsOf] at e
    case int i =>
      cases e2 : intsOf xs with
      | none => rw [e2] at e; cases e
      | some m =>
        rw [e2] at e
        cases e
        cases int_of h1
        rw [ints_of h2 e2]
        rfl
    all_goals cases e
include hc in
theorem bf_min1 : CallR X (.builtin "min") (rB B .min1) := by
  intro pins s σ H vs us Q I r h
  obtain ⟨x, v, st, ρ, rfl, rx, S, k⟩ := blt1 (g := bMin1) (one_of (f := .min1) (fun _ _ h => h) (fun _ _ _ h => h) (fun _ _ _ _ _ h => h)) h
  unfold bMin1 at k
  repeat' split at k
  all_goals first | exact k.elim | skip
  rename_i n _ xs hs _ ns hn
  obtain ⟨a, rfl, e⟩ := rx
  obtain ⟨ws, g, d⟩ := S.lstOf e hs
  cases ints_of d hn
  exact cr_min hc pins s σ H _ us Q I r ⟨a, ns, rfl, SqL.of g, k.1, fun m h1 h2 => (k.2 m h1 h2).here rfl S⟩
include hc in
theorem bf_max1 : CallR X (.builtin "max") (rB B .max1) := by
  intro pins s σ H vs us Q I r h
  obtain ⟨x, v, st, ρ, rfl, rx, S, k⟩ := blt1 (g := bMax1) (one_of (f := .max1) (fun _ _ h => h) (fun _ _ _ h => h) (fun _ _ _ _ _ h => h)) h
  unfold bMax1 at k
  repeat' split at k
  all_goals first | exact k.elim | skip
  rename_i n _ xs hs _ ns hn
  obtain ⟨a, rfl, e⟩ := rx
  obtain ⟨ws, g, d⟩ := S.lstOf e hs
  cases ints_of d hn
  exact cr_max hc pins s σ H _ us Q I r ⟨a, ns, rfl, SqL.of g, k.1, fun m h1 h2 => (k.2 m h1 h2).here rfl S⟩
include hc in
theorem bf_sum : CallR X (.builtin "sum") (rB B .sum) := by
  intro pins s σ H vs us Q I r h
  obtain ⟨x, v, st, ρ, rfl, rx, S, k⟩ := blt1 (g := bSum) (one_of (f := .sum) (fun _ _ h => h) (fun _ _ _ h => h) (fun _ _ _ _ _ h => h)) h
  unfold bSum at k
  repeat' split at k
  all_goals first | exact k.elim | skip
  rename_i n _ xs hs _ ns hn
  obtain ⟨a, rfl, e⟩ := rx
  obtain ⟨ws, g, d⟩ := S.lstOf e hs
  cases ints_of d hn
  exact cr_sum hc pins s σ H _ us Q I r ⟨a, ns, rfl, SqL.of g, k.here rfl S⟩
theorem bf_sorted : CallR X (.builtin "sorted") (rB B .sorted) := by
  intro pins s σ H vs us Q I r h
  obtain ⟨x, v, st, ρ, rfl, rx, S, k⟩ := blt1 (g := bSorted) (one_of (f := .sorted) (fun _ _ h => h) (fun _ _ _ h => h) (fun _ _ _ _ _ h => h)) h
  unfold bSorted at k
  repeat' split at k
  all_goals first | exact k.elim | skip
  rename_i n _ xs hs _ ns hn
  obtain ⟨a, rfl, e⟩ := rx
  obtain ⟨ws, g, d⟩ := S.lstOf e hs
  cases ints_of d hn
  exact cr_sortedI pins s σ H _ us Q I r ⟨a, ns, rfl, SqL.of g, fun ms p h1 h2 hp => mk_new S RelDs.ints (k ms h1 h2) hp⟩
/-! ### methods -/
theorem mf_append : MtR X "list.append" (rM B .append) := by
  intro pins s σ H v vs u us Q I rv r h
  obtain ⟨x, ds, st, ρ, rx, d, S, h⟩ := h
  unfold xMeth at h
  split at h <;> rename_i e1 <;> try cases e1
  · rename_i n y
    obtain ⟨a, rfl, e⟩ := rx
    obtain ⟨w, rfl, ry⟩ := rel1 d
    split at h
    · rename_i xs hs
      obtain ⟨ws, g, d⟩ := S.lstOf e hs
      exact mt_append pins s σ H _ _ u us Q I rv r ⟨a, ws, w, rfl, rfl, g, by rw [← d.length]; exact h.1, set_lst S e hs g (d.append (rel_one ry)) (show RelD B H ρ .non .non from rfl) h.2⟩
    · exact h.elim
  all_goals exact h.elim
theorem mf_pop0 : MtR X "list.pop" (rM B .pop0) := by
  intro pins s σ H v vs u us Q I rv r h
  obtain ⟨x, ds, st, ρ, rx, d, S, h⟩ := h
  unfold xMeth at h
  split at h <;> rename_i e1 <;> try cases e1
  · rename_i n
    obtain ⟨a, rfl, e⟩ := rx
    have e0 := rel0 d
    subst e0
    split at h
    · rename_i xs hs
      obtain ⟨ws, g, d⟩ := S.lstOf e hs
      split at h
      · rename_i y hy
        obtain ⟨w, hw, ry⟩ := d.get hy
        exact mt_pop pins s σ H _ _ u us Q I rv r ⟨a, ws, w, rfl, rfl, g, by rw [← d.length]; exact hw, set_lst S e hs g d.dropLast ry h⟩
      · exact h.elim
    · exact h.elim
  all_goals exact h.elim
theorem mf_extend : MtR X "list.extend" (rM B .extend) := by
  intro pins s σ H v vs u us Q I rv r h
  obtain ⟨x, ds, st, ρ, rx, d, S, h⟩ := h
  unfold xMeth at h
  split at h <;> rename_i e1 <;> try cases e1
  · rename_i n m
    obtain ⟨a, rfl, e⟩ := rx
    obtain ⟨w, rfl, ry⟩ := rel1 d
    obtain ⟨b, rfl, e2⟩ := ry
    split at h
    · rename_i xs ys hs hs2
      obtain ⟨ws, g, d⟩ := S.lstOf e hs
      obtain ⟨zs, g2, d2⟩ := S.lstOf e2 hs2
      exact mt_extend pins s σ H _ _ u us Q I rv r ⟨a, b, ws, zs, rfl, rfl, g, g2, by rw [← d.length, ← d2.length]; exact h.1, set_lst S e hs g (d.append d2) (show RelD B H ρ .non .non from rfl) h.2⟩
    · exact h.elim
  all_goals exact h.elim
theorem ints_are : ∀ {ns : List Int} {its : List Value}, Vals (ns.map V.int) its → IntsAre its ns
  | [], _, .nil => .nil
  | n :: ns, _, .cons r rs => by
    obtain ⟨t, rfl⟩ := r
    exact .cons n t (ints_are rs)
theorem mf_index : MtR X "list.index" (rM B .index) := by
  intro pins s σ H v vs u us Q I rv r h
  obtain ⟨x, ds, st, ρ, rx, d, S, h⟩ := h
  unfold xMeth at h
  split at h <;> rename_i e1 <;> try cases e1
  · rename_i n k
    obtain ⟨a, rfl, e⟩ := rx
    obtain ⟨w, rfl, ry⟩ := rel1 d
    cases ry
    split at h
    · rename_i xs hs
      obtain ⟨ws, g, d⟩ := S.lstOf e hs
      split at h
      · rename_i ns hn
        cases ints_of d hn
        cases rv
        obtain ⟨u1, rfl, r1⟩ := r.one
        obtain ⟨t, rfl⟩ := r1
        obtain ⟨z, its, n, rr, hl, e2⟩ := I.lstM g
        refine PySem.SeqAt.list_index_ints (vs := its) ⟨_, e2, rfl, n, rfl⟩ (ints_are rr) h.1.2 h.1.1 ?_
        exact ⟨.int _, H, I.tok _, ⟨_, rfl⟩, h.2.here rfl S⟩
      · exact h.elim
    · exact h.elim
  all_goals exact h.elim
theorem mf_reverse : MtR X "list.reverse" (rM B .reverse) := by
  intro pins s σ H v vs u us Q I rv r h
  obtain ⟨x, ds, st, ρ, rx, d, S, h⟩ := h
  unfold xMeth at h
  split at h <;> rename_i e1 <;> try cases e1
  · rename_i n
    obtain ⟨a, rfl, e⟩ := rx
    have e0 := rel0 d
    subst e0
    split at h
    · rename_i xs hs
      obtain ⟨ws, g, d⟩ := S.lstOf e hs
      exact mt_reverse pins s σ H _ _ u us Q I rv r ⟨a, ws, rfl, rfl, g, set_lst S e hs g d.reverse (show RelD B H ρ .non .non from rfl) h⟩
    · exact h.elim
  all_goals exact h.elim
theorem joinS_ok {sep : List Nat} {l : List (List Nat)} (hs : StrOk sep) (hl : ∀ a ∈ l, StrOk a) (hz : (l.map List.length).sum + l.length * sep.length ≤ 16777216) : StrOk (joinS sep l) := by
  refine ⟨Nat.le_trans (joinS_len sep l) hz, fun c hc => ?_⟩
  rcases joinS_mem sep c l hc with h | ⟨a, h1, h2⟩
  · exact hs.2 c h
  · exact (hl a h1).2 c h2
include hK in
theorem mf_join : MtR X "str.join" (rM B .join) := by
  intro pins s σ H v vs u us Q I rv r h
  obtain ⟨x, ds, st, ρ, rx, d, S, h⟩ := h
  unfold xMeth at h
  split at h <;> rename_i e1 <;> try cases e1
  · rename_i sep y
    obtain ⟨rfl, z⟩ := rx
    obtain ⟨w, rfl, ry⟩ := rel1 d
    split at h
    · rename_i xs hx
      obtain ⟨a, vs, rfl, q, d⟩ := seq_of S ry hx
      split at h
      · rename_i l hl
        obtain ⟨rfl, hz⟩ := strs_of d hl
        refine mt_join pins s σ H _ _ u us Q I rv r ⟨_, a, _, rfl, rfl, hK ▸ q, ?_, ?_⟩
        · rw [toArr_len, List.length_map, List.map_map]
          have e : (Str.length ∘ fun a : List Nat => (⟨a.toArray⟩ : Str)) = List.length := by
            funext a
            exact toArr_len a
          rw [e]
          exact h.1
        · rw [TL.join_eq, join_toArr]
          exact h.2.here ⟨rfl, joinS_ok z hz h.1⟩ S
      · exact h.elim
    · exact h.elim
  all_goals exact h.elim
theorem mf_insert : MtR X "list.insert" (rM B .insert) := by
  intro pins s σ H v vs u us Q I rv r h
  obtain ⟨x, ds, st, ρ, rx, d, S, h⟩ := h
  unfold xMeth at h
  split at h <;> rename_i e1 <;> try cases e1
  · rename_i n i y
    obtain ⟨a, rfl, e⟩ := rx
    obtain ⟨w1, w, rfl, ri, ry⟩ := rel2 d
    cases int_of ri
    split at h
    · rename_i xs hs
      obtain ⟨ws, g, d⟩ := S.lstOf e hs
      exact mt_insert pins s σ H _ _ u us Q I rv r ⟨a, ws, i, w, rfl, rfl, g, by rw [← d.length]; exact h.1.1, h.1.2.1, h.1.2.2,
        set_lst S e hs g (((d.take _).append (rel_one ry)).append (d.drop _)) (show RelD B H ρ .non .non from rfl) h.2⟩
    · exact h.elim
  all_goals exact h.elim
theorem strip_sub {x : Str} {f : Nat → Bool} {l r : Bool} : (∀ c ∈ (Txt.stripBy f l r x).cps.toList, c ∈ x.cps.toList) ∧ (Txt.stripBy f l r x).cps.toList.length ≤ x.cps.toList.length := by
  unfold Txt.stripBy
  split
  · exact ⟨fun c h => h, Nat.le_refl _⟩
  · unfold stripped Builtin.Str.strSub
    refine ⟨fun c h => ?_, ?_⟩
    · have h := Array.mem_toList_iff.mp h
      obtain ⟨k, hk, rfl⟩ := Array.mem_extract_iff_getElem.mp h
      exact Array.mem_toList_iff.mpr (Array.getElem_mem _)
    · show (Array.extract _ _ _).toList.length ≤ _
      rw [Array.length_toList, Array.length_toList, Array.size_extract]
      omega
theorem mf_rstrip : MtR X "str.rstrip" (rM B .rstrip) := by
  intro pins s σ H v vs u us Q I rv r h
  obtain ⟨x, ds, st, ρ, rx, d, S, h⟩ := h
  unfold xMeth at h
  split at h <;> rename_i e1 <;> try cases e1
  · rename_i a
    obtain ⟨rfl, z⟩ := rx
    have e0 := rel0 d
    subst e0
    refine mt_rstrip pins s σ H _ _ u us Q I rv r ⟨_, rfl, rfl, by rw [toArr_len]; exact z.1, ?_⟩
    have := @strip_sub ⟨a.toArray⟩ Unicode.isSpace false true
    exact h.here ⟨by unfold rstripL; rw [Array.toArray_toList], z.sub (fun c hc => by have := this.1 c hc; simpa using this) (by have := this.2; simpa [rstripL, Txt.rstrip] using this)⟩ S
  all_goals exact h.elim
variable (hP : B.pw = X.w.params) (hu : X.A.units + 65 < cLine)
include hK hP hu in
theorem mf_get2 : MtR X "dict.get" (rM B .get2) := by
  intro pins s σ H v vs u us Q I rv r h
  obtain ⟨x, ds, st, ρ, rx, d, S, h⟩ := h
  unfold xMeth at h
  split at h <;> rename_i e1 <;> try cases e1
  · rename_i k dd
    split at h
    · rename_i kvs hd
      obtain ⟨a, rfl, g⟩ := dic_of S rx hd
      obtain rfl : u = Value.ref a := rv
      obtain ⟨w1, w2, rfl, r1, r2⟩ := rel2 d
      obtain ⟨u1, u2, rfl, q1, q2⟩ := Vals.two r
      exact dx_get2 hK hP (by omega) I g h.1 r1 q1 r2 q2 fun w w' s' I' rw' rd => ⟨w, H, I', rw', Lift.here h.2 rd S⟩
    · exact h.elim
  all_goals exact h.elim
def mT : MF → String
  | .join | .rstrip => "str"
  | .get1 | .get2 => "dict"
  | _ => "list"
/-- the receiver's type -/
theorem mTy_ok {m : MF} {x : D} {v : V} {H : Hp} {ρ : List Addr} {st : Sto} (rx : RelD B H ρ x v) (S : RelS B H ρ st) (h : mTy m x st) (hm : mT m ≠ "dict") : tyV X.K (mT m) v H := by
  have lst : ∀ n, x = .ref n → (match st[n]? with | some (.lst _) => True | _ => False) → tyV X.K "list" v H := fun n e hl => by
    subst e
    obtain ⟨a, rfl, e⟩ := rx
    cases hs : st[n]? with
    | none => rw [hs] at hl; exact hl.elim
    | some o =>
      rw [hs] at hl
      cases o with
      | lst xs =>
        obtain ⟨ws, g, d⟩ := S.lstOf e hs
        exact .inl ⟨rfl, ws, SqL.of g⟩
      | ins c fs => exact hl.elim
      | dic kvs => exact hl.elim
      | ldic kvs => exact hl.elim
  cases m <;> cases x <;> simp only [mTy] at h
  case join.str a =>
    obtain ⟨rfl, _⟩ := rx
    rfl
  case rstrip.str a =>
    obtain ⟨rfl, _⟩ := rx
    rfl
  all_goals try exact absurd rfl hm
  all_goals first | exact h.elim | exact lst _ rfl h
end
end PX

/-! PX: the rules of expressions. -/
namespace PX
open PySem PySem.Spec PyProof.Rows L2
def MonoSE (m : SE) : Prop := ∀ σ s (Q Q' : QE) (E E' : XQ), (∀ d s, Q d s → Q' d s) → (∀ c fs s, E c fs s → E' c fs s) → m σ s Q E → m σ s Q' E'
abbrev SA := Sl → Sto → (List D → Sto → Prop) → XQ → Prop
def MonoSA (m : SA) : Prop := ∀ σ s (Q Q' : List D → Sto → Prop) (E E' : XQ), (∀ d s, Q d s → Q' d s) → (∀ c fs s, E c fs s → E' c fs s) → m σ s Q E → m σ s Q' E'
/-- the reading of a plain meaning -/
def tO (B : Tb) (W : WQ) (m : SE) : TE := fun σV H Q => ∃ (ρ : List Addr) (σ : Sl) (s : Sto), RelL B H ρ σ σV ∧ RelS B H ρ s ∧ m σ s (Lift B H ρ Q) (LiftX B H ρ σV W)
def LiftB (B : Tb) (H : Hp) (ρ : List Addr) (Q : Bool → Hp → Prop) : Bool → Sto → Prop := fun b s' => ∀ ρ' H', ρ <+: ρ' → Keep H H' → RelS B H' ρ' s' → Q b H'
/-- .. as a test -/
def tT (B : Tb) (W : WQ) (m : SE) : TT := fun σV H Q => ∃ (ρ : List Addr) (σ : Sl) (s : Sto), RelL B H ρ σ σV ∧ RelS B H ρ s ∧ m σ s (fun d s1 => obl (tru s1 d) fun b => LiftB B H ρ Q b s1) (LiftX B H ρ σV W)
def tAr (B : Tb) (W : WQ) (m : SA) : TA := fun σV H Q => ∃ (ρ : List Addr) (σ : Sl) (s : Sto), RelL B H ρ σ σV ∧ RelS B H ρ s ∧ m σ s (LiftA B H ρ Q) (LiftX B H ρ σV W)
theorem PE.imp {X : Cx} {e : Expr} {t t' : TE} (h : PE X e t) (i : ∀ σ H Q, t' σ H Q → t σ H Q) : PE X e t' := ⟨fun pins s σ H Q I q => h.run pins s σ H Q I (i σ H Q q)⟩
theorem PT.imp {X : Cx} {e : Expr} {t t' : TT} (h : PT X e t) (i : ∀ σ H Q, t' σ H Q → t σ H Q) : PT X e t' := ⟨fun pins s σ H Q I q => h.run pins s σ H Q I (i σ H Q q)⟩
theorem PW.imp {X : Cx} {e : Expr} {t t' : TT} (h : PW X e t) (i : ∀ σ H Q, t' σ H Q → t σ H Q) : PW X e t' := ⟨fun wh pins s σ H Q I q => h.run wh pins s σ H Q I (i σ H Q q)⟩
theorem PA.imp {X : Cx} {es : List Expr} {t t' : TA} (h : PA X es t) (i : ∀ σ H Q, t' σ H Q → t σ H Q) : PA X es t' := ⟨fun pos pins s σ H Q I q => h.run pos pins s σ H Q I (i σ H Q q)⟩
theorem PS.imp {X : Cx} {st : Stmt} {t t' : TS} (h : PS X st t) (i : ∀ D σ H, t' D σ H → t D σ H) : PS X st t' := ⟨fun pins s σ H D I q => h.run pins s σ H D I (i D σ H q)⟩
theorem PSs.imp {X : Cx} {st : List Stmt} {t t' : TS} (h : PSs X st t) (i : ∀ D σ H, t' D σ H → t D σ H) : PSs X st t' := ⟨fun pins s σ H D I q => h.run pins s σ H D I (i D σ H q)⟩
section
variable {X : Cx} {B : Tb} {W : WQ} (hK : B.K = X.K)
theorem LiftB.mono {H H' : Hp} {ρ ρ' : List Addr} {Q : Bool → Hp → Prop} {b : Bool} {s : Sto} (p : ρ <+: ρ') (k : Keep H H') (h : LiftB B H ρ Q b s) : LiftB B H' ρ' Q b s :=
  fun ρ2 H2 p2 k2 S => h ρ2 H2 (p.trans p2) (k.trans k2) S
theorem LiftB.here {H : Hp} {ρ : List Addr} {Q : Bool → Hp → Prop} {b : Bool} {s : Sto} (h : LiftB B H ρ Q b s) (S : RelS B H ρ s) : Q b H := h ρ H (List.prefix_refl _) (Keep.refl _) S
/-- truth -/
theorem tru_of {H : Hp} {ρ : List Addr} {s : Sto} {d : D} {v : V} {b : Bool} (r : RelD B H ρ d v) (S : RelS B H ρ s) (hK : B.K = X.K) (h : tru s d = some b) : TruV X.K v H b := by
  cases d <;> simp only [tru] at h
  case non => cases h; cases (show v = .non from r); rfl
  case bl c =>
    have e : v = .bl c := r
    subst e
    exact (Option.some.inj h).symm
  case int i => cases h; cases (show v = .int i from r); rfl
  case str a =>
    cases h
    obtain ⟨rfl, z⟩ := r
    refine ⟨by rw [toArr_len]; exact z.1, ?_⟩
    rw [toArr_len]
    cases a <;> simp
    omega
  case tup xs =>
    cases h
    obtain ⟨a, vs, rfl, q, _, d⟩ := r
    refine .inr (.inl ⟨vs, hK ▸ q, ?_⟩)
    have := d.length
    cases xs <;> cases vs <;> simp_all
  case fl xs =>
    cases h
    obtain ⟨a, vs, rfl, q, d⟩ := r
    refine .inl ⟨vs, hK ▸ q.sq, ?_⟩
    have := d.length
    cases xs <;> cases vs <;> simp_all
  case ref n =>
    obtain ⟨a, rfl, q⟩ := r
    split at h
    · rename_i xs hs
      cases h
      obtain ⟨vs, g, d⟩ := S.lstOf q hs
      refine .inl ⟨vs, SqL.of g, ?_⟩
      have := d.length
      cases xs <;> cases vs <;> simp_all
    · cases h
  all_goals cases h
/-! ### leaves -/
theorem pe_lit {e : Expr} {d : D} {v : V} (h : PE X e (tC v)) (r : ∀ H ρ, RelD B H ρ d v) : PE X e (tO B W fun σ s Q E => Q d s) :=
  PE.imp h fun σ H Q ⟨ρ, σ', s, L, S, q⟩ => q.here (r H ρ) S
theorem pe_vr {e : Expr} {i : Nat} (h : PE X e (tVar i)) : PE X e (tO B W fun σ s Q E => match σ[i]? with
    | some (some d) => Q d s
    | _ => False) := PE.imp h fun σ H Q ⟨ρ, σ', s, L, S, q⟩ => by
  dsimp only at q
  split at q
  · rename_i d hd
    obtain ⟨v, h1, h2⟩ := L.at_ i d hd
    exact ⟨v, h1, q.here h2 S⟩
  · exact q.elim
/-! ### two expressions -/
theorem two_imp {ma mb : SE} (Ma : MonoSE ma) (Mb : MonoSE mb) {f : F2} (Mf : ∀ x y s Q Q', (∀ d s, Q d s → Q' d s) → f x y s Q → f x y s Q') {σ : L2.St} {H : Hp} {Q : VK}
    (h : tO B W (fun σ s Q E => ma σ s (fun x s1 => mb σ s1 (fun y s2 => f x y s2 Q) E) E) σ H Q) : tOp (rO B f) (tO B W ma) (tO B W mb) σ H Q := by
  obtain ⟨ρ, σ', s, L, S, q⟩ := h
  refine ⟨ρ, σ', s, L, S, Ma _ _ _ _ _ _ (fun x s1 q ρ1 H1 vx p1 k1 rx S1 => ?_) (fun _ _ _ h => h) q⟩
  refine ⟨ρ1, σ', s1, L.mono p1 k1, S1, Mb _ _ _ _ _ _ (fun y s2 q ρ2 H2 vy p2 k2 ry S2 => ?_) (fun _ _ _ h => LiftX.mono p1 k1 h) q⟩
  exact ⟨x, y, s2, ρ2, rx.mono p2 k2, ry, S2, Mf _ _ _ _ _ (fun d s h => Lift.mono (p1.trans p2) (k1.trans k2) h) q⟩
theorem pe_bin {a b : Expr} {op : Operator} {pos : Pos} {ma mb : SE} (Ma : MonoSE ma) (Mb : MonoSE mb) (ho : OpR X (binaryOp op) (rO B (xBin op))) (ha : PE X a (tO B W ma)) (hb : PE X b (tO B W mb)) :
    PE X (.BinOp a op b pos) (tO B W fun σ s Q E => ma σ s (fun x s1 => mb σ s1 (fun y s2 => xBin op x y s2 Q) E) E) :=
  PE.imp (pe_op ho ha hb) fun σ H Q h => two_imp (f := xBin op) Ma Mb (fun x y s Q Q' hQ h => xBin_mono op x y hQ h) h
theorem xCmp_mono (op : CmpOp) (x y : D) (s : Sto) (Q Q' : QE) (hQ : ∀ d s, Q d s → Q' d s) (h : xCmp op x y s Q) : xCmp op x y s Q' := obl_mono h fun _ h => hQ _ _ h
theorem pe_cm {a b : Expr} {op : CmpOp} {pos : Pos} {ma mb : SE} (Ma : MonoSE ma) (Mb : MonoSE mb) (ho : OpR X (compareOp op) (rO B (xCmp op))) (ha : PE X a (tO B W ma)) (hb : PE X b (tO B W mb)) (hm : behindInMarks op b = false) :
    PE X (.Compare a [op] [b] pos) (tO B W fun σ s Q E => ma σ s (fun x s1 => mb σ s1 (fun y s2 => obl (cmpD s2 op x y) fun c => Q (.bl c) s2) E) E) :=
  PE.imp (pe_cmpR ho ha hb hm) fun σ H Q h => two_imp (f := xCmp op) Ma Mb (xCmp_mono op) h
theorem tT_tO {m : SE} (hm : ∀ σ s Q Q' E, (∀ c s, Q (.bl c) s → Q' (.bl c) s) → m σ s Q E → m σ s Q' E) {σ : L2.St} {H : Hp} {Q : Bool → Hp → Prop} (h : tT B W m σ H Q) : tO B W m σ H fun v H' => ∃ k, v = .bl k ∧ Q k H' := by
  obtain ⟨ρ, σ', s, L, S, q⟩ := h
  refine ⟨ρ, σ', s, L, S, hm _ _ _ _ _ (fun c s1 q ρ1 H1 v p1 k1 r S1 => ?_) q⟩
  exact ⟨c, r, q ρ1 H1 p1 k1 S1⟩
theorem pt_cm {a b : Expr} {op : CmpOp} {pos : Pos} {ma mb : SE} (Ma : MonoSE ma) (Mb : MonoSE mb) (ho : OpR X (compareOp op) (rO B (xCmp op))) (ha : PE X a (tO B W ma)) (hb : PE X b (tO B W mb)) (hm : behindInMarks op b = false) :
    PT X (.Compare a [op] [b] pos) (tT B W fun σ s Q E => ma σ s (fun x s1 => mb σ s1 (fun y s2 => obl (cmpD s2 op x y) fun c => Q (.bl c) s2) E) E) :=
  PT.imp (pt_cmpR ho ha hb hm) fun σ H Q h => two_imp (f := xCmp op) Ma Mb (xCmp_mono op)
    (tT_tO (m := fun σ s Q E => ma σ s (fun x s1 => mb σ s1 (fun y s2 => obl (cmpD s2 op x y) fun c => Q (.bl c) s2) E) E) (fun σ s Q Q' E hQ h => Ma _ _ _ _ _ _ (fun x s1 h => Mb _ _ _ _ _ _ (fun y s2 h => obl_mono h fun _ h => hQ _ _ h) (fun _ _ _ h => h) h) (fun _ _ _ h => h) h) h)
theorem chn_imp {op op' : CmpOp} {ma mb mc : SE} (Ma : MonoSE ma) (Mb : MonoSE mb) (Mc : MonoSE mc) {σ : L2.St} {H : Hp} {Q : VK}
    (h : tO B W (fun σ s Q E => ma σ s (fun x s1 => mb σ s1 (fun y s2 => br (cmpD s2 op x y) (mc σ s2 (fun z s3 => obl (cmpD s3 op' y z) fun c => Q (.bl c) s3) E) (Q (.bl false) s2)) E) E) σ H Q) :
    tChain (rO B (xCmp op)) (rO B (xCmp op')) (tO B W ma) (tO B W mb) (tO B W mc) σ H Q := by
  obtain ⟨ρ, σ', s, L, S, q⟩ := h
  refine ⟨ρ, σ', s, L, S, Ma _ _ _ _ _ _ (fun x s1 q ρ1 H1 vx p1 k1 rx S1 => ?_) (fun _ _ _ h => h) q⟩
  refine ⟨ρ1, σ', s1, L.mono p1 k1, S1, Mb _ _ _ _ _ _ (fun y s2 q ρ2 H2 vy p2 k2 ry S2 => ?_) (fun _ _ _ h => LiftX.mono p1 k1 h) q⟩
  refine ⟨x, y, s2, ρ2, rx.mono p2 k2, ry, S2, ?_⟩
  unfold xCmp
  cases e : cmpD s2 op x y with
  | none => rw [e] at q; exact q.elim
  | some c =>
    rw [e] at q
    intro ρ3 H3 v3 p3 k3 r3 S3
    refine ⟨c, r3, ?_⟩
    have P := (p1.trans p2).trans p3
    have KK := (k1.trans k2).trans k3
    cases c with
    | false =>
      rw [if_neg Bool.false_ne_true]
      exact Lift.here (Lift.mono P KK q) rfl S3
    | true =>
      rw [if_pos rfl]
      refine ⟨ρ3, σ', s2, L.mono P KK, S3, Mc _ _ _ _ _ _ (fun z s4 q ρ4 H4 vz p4 k4 rz S4 => ?_) (fun _ _ _ h => LiftX.mono P KK h) q⟩
      exact ⟨y, z, s4, ρ4, ry.mono (p3.trans p4) (k3.trans k4), rz, S4, obl_mono q fun _ h => Lift.mono (P.trans p4) (KK.trans k4) h⟩
theorem pe_chn {a b c : Expr} {op op' : CmpOp} {pos : Pos} {ma mb mc : SE} (Ma : MonoSE ma) (Mb : MonoSE mb) (Mc : MonoSE mc) (ho : OpR X (compareOp op) (rO B (xCmp op))) (ho' : OpR X (compareOp op') (rO B (xCmp op')))
    (ha : PE X a (tO B W ma)) (hb : PE X b (tO B W mb)) (hc : PE X c (tO B W mc)) (hm : lastMarks [op, op'] [b, c] = false) :
    PE X (.Compare a [op, op'] [b, c] pos) (tO B W fun σ s Q E => ma σ s (fun x s1 => mb σ s1 (fun y s2 => br (cmpD s2 op x y) (mc σ s2 (fun z s3 => obl (cmpD s3 op' y z) fun c => Q (.bl c) s3) E) (Q (.bl false) s2)) E) E) :=
  PE.imp (pe_chain ho ho' ha hb hc hm) fun σ H Q h => chn_imp Ma Mb Mc h
theorem pt_chn {a b c : Expr} {op op' : CmpOp} {pos : Pos} {ma mb mc : SE} (Ma : MonoSE ma) (Mb : MonoSE mb) (Mc : MonoSE mc) (ho : OpR X (compareOp op) (rO B (xCmp op))) (ho' : OpR X (compareOp op') (rO B (xCmp op')))
    (ha : PE X a (tO B W ma)) (hb : PE X b (tO B W mb)) (hc : PE X c (tO B W mc)) (hm : lastMarks [op, op'] [b, c] = false) :
    PT X (.Compare a [op, op'] [b, c] pos) (tT B W fun σ s Q E => ma σ s (fun x s1 => mb σ s1 (fun y s2 => br (cmpD s2 op x y) (mc σ s2 (fun z s3 => obl (cmpD s3 op' y z) fun c => Q (.bl c) s3) E) (Q (.bl false) s2)) E) E) :=
  PT.imp (pt_chain ho ho' ha hb hc hm) fun σ H Q h => chn_imp Ma Mb Mc
    (tT_tO (m := fun σ s Q E => ma σ s (fun x s1 => mb σ s1 (fun y s2 => br (cmpD s2 op x y) (mc σ s2 (fun z s3 => obl (cmpD s3 op' y z) fun c => Q (.bl c) s3) E) (Q (.bl false) s2)) E) E) (fun σ s Q Q' E hQ h => Ma _ _ _ _ _ _ (fun x s1 h => Mb _ _ _ _ _ _ (fun y s2 h => br_mono h (fun h => Mc _ _ _ _ _ _ (fun z s3 h => obl_mono h fun _ h => hQ _ _ h) (fun _ _ _ h => h) h) (hQ _ _)) (fun _ _ _ h => h) h) (fun _ _ _ h => h) h) h)
theorem pe_ixx {a b : Expr} {pos : Pos} {ma mb : SE} (Ma : MonoSE ma) (Mb : MonoSE mb) (hK : B.K = X.K) (hP : B.pw = X.w.params) (hu : X.A.units + 65 < cLine) (ha : PE X a (tO B W ma)) (hb : PE X b (tO B W mb)) (hs : PlainIx b) :
    PE X (.Subscript a b pos) (tO B W fun σ s Q E => ma σ s (fun x s1 => mb σ s1 (fun y s2 => xIx x y s2 Q) E) E) :=
  PE.imp (pe_ix (ix_ok hK hP hu) ha hb hs) fun σ H Q h => two_imp (f := xIx) Ma Mb (fun x y s Q Q' hQ h => xIx_mono x y hQ h) h
theorem pe_ng {a : Expr} {pos : Pos} {ma : SE} (Ma : MonoSE ma) (ha : PE X a (tO B W ma)) : PE X (.UnaryOp .USub a pos) (tO B W fun σ s Q E => ma σ s (fun x s1 => match x with
    | .int i => Q (.int (-i)) s1
    | _ => False) E) := PE.imp (pe_un un_neg ha) fun σ H Q ⟨ρ, σ', s, L, S, q⟩ => ⟨ρ, σ', s, L, S, Ma _ _ _ _ _ _ (fun x s1 q ρ1 H1 vx p1 k1 rx S1 => by
  cases x <;> try exact (show False from q).elim
  rename_i i
  cases int_of rx
  exact ⟨i, rfl, Lift.here (Lift.mono p1 k1 q) rfl S1⟩) (fun _ _ _ h => h) q⟩
/-! ### and, or, not, if -/
section
include hK
theorem br_lift {H H' : Hp} {ρ ρ' : List Addr} {o : Option Bool} {A A' : Prop} (h : br o A A') : ∃ b, o = some b ∧ if b = true then A else A' := by
  match o, h with
  | some true, h => exact ⟨true, rfl, by rw [if_pos rfl]; exact h⟩
  | some false, h => exact ⟨false, rfl, by rw [if_neg Bool.false_ne_true]; exact h⟩
theorem pe_an {a b : Expr} {rest : List Expr} {pos : Pos} {ma mb : SE} (Ma : MonoSE ma) (Mb : MonoSE mb) (ha : PE X a (tO B W ma)) (hb : PE X (.BoolOp .And (b :: rest) pos) (tO B W mb)) :
    PE X (.BoolOp .And (a :: b :: rest) pos) (tO B W fun σ s Q E => ma σ s (fun x s1 => br (tru s1 x) (mb σ s1 Q E) (Q x s1)) E) :=
  PE.imp (pe_andT ha hb) fun σ H Q ⟨ρ, σ', s, L, S, q⟩ => ⟨ρ, σ', s, L, S, Ma _ _ _ _ _ _ (fun x s1 q ρ1 H1 vx p1 k1 rx S1 => by
    obtain ⟨c, e, q⟩ := br_lift (H := H) (H' := H) (ρ := ρ) (ρ' := ρ) hK q
    refine ⟨c, tru_of rx S1 hK e, ?_⟩
    cases c with
    | true =>
      rw [if_pos rfl] at q ⊢
      exact ⟨ρ1, σ', s1, L.mono p1 k1, S1, Mb _ _ _ _ _ _ (fun _ _ h => Lift.mono p1 k1 h) (fun _ _ _ h => LiftX.mono p1 k1 h) q⟩
    | false =>
      rw [if_neg Bool.false_ne_true] at q ⊢
      exact Lift.here (Lift.mono p1 k1 q) rx S1) (fun _ _ _ h => h) q⟩
theorem pe_orr {a b : Expr} {rest : List Expr} {pos : Pos} {ma mb : SE} (Ma : MonoSE ma) (Mb : MonoSE mb) (ha : PE X a (tO B W ma)) (hb : PE X (.BoolOp .Or (b :: rest) pos) (tO B W mb)) :
    PE X (.BoolOp .Or (a :: b :: rest) pos) (tO B W fun σ s Q E => ma σ s (fun x s1 => br (tru s1 x) (Q x s1) (mb σ s1 Q E)) E) :=
  PE.imp (pe_orT ha hb) fun σ H Q ⟨ρ, σ', s, L, S, q⟩ => ⟨ρ, σ', s, L, S, Ma _ _ _ _ _ _ (fun x s1 q ρ1 H1 vx p1 k1 rx S1 => by
    obtain ⟨c, e, q⟩ := br_lift (H := H) (H' := H) (ρ := ρ) (ρ' := ρ) hK q
    refine ⟨c, tru_of rx S1 hK e, ?_⟩
    cases c with
    | false =>
      rw [if_neg Bool.false_ne_true] at q ⊢
      exact ⟨ρ1, σ', s1, L.mono p1 k1, S1, Mb _ _ _ _ _ _ (fun _ _ h => Lift.mono p1 k1 h) (fun _ _ _ h => LiftX.mono p1 k1 h) q⟩
    | true =>
      rw [if_pos rfl] at q ⊢
      exact Lift.here (Lift.mono p1 k1 q) rx S1) (fun _ _ _ h => h) q⟩
theorem pe_nt {a : Expr} {pos : Pos} {ma : SE} (Ma : MonoSE ma) (ha : PE X a (tO B W ma)) : PE X (.UnaryOp .Not a pos) (tO B W fun σ s Q E => ma σ s (fun x s1 => obl (tru s1 x) fun c => Q (.bl (!c)) s1) E) :=
  PE.imp (pe_notT ha) fun σ H Q ⟨ρ, σ', s, L, S, q⟩ => ⟨ρ, σ', s, L, S, Ma _ _ _ _ _ _ (fun x s1 q ρ1 H1 vx p1 k1 rx S1 => by
    cases e : tru s1 x with
    | none => rw [e] at q; exact q.elim
    | some c =>
      rw [e] at q
      exact ⟨c, tru_of rx S1 hK e, Lift.here (Lift.mono p1 k1 q) rfl S1⟩) (fun _ _ _ h => h) q⟩
theorem pe_it {c a b : Expr} {pos : Pos} {mc ma mb : SE} (Mc : MonoSE mc) (Ma : MonoSE ma) (Mb : MonoSE mb) (hc : PT X c (tT B W mc)) (ha : PE X a (tO B W ma)) (hb : PE X b (tO B W mb)) :
    PE X (.IfExp c a b pos) (tO B W fun σ s Q E => mc σ s (fun x s1 => br (tru s1 x) (ma σ s1 Q E) (mb σ s1 Q E)) E) :=
  PE.imp (pe_ifExp hc ha hb) fun σ H Q ⟨ρ, σ', s, L, S, q⟩ => ⟨ρ, σ', s, L, S, Mc _ _ _ _ _ _ (fun x s1 q => by
    obtain ⟨c, e, q⟩ := br_lift (H := H) (H' := H) (ρ := ρ) (ρ' := ρ) hK q
    rw [e]
    intro ρ1 H1 p1 k1 S1
    cases c with
    | true =>
      rw [if_pos rfl] at q ⊢
      exact ⟨ρ1, σ', s1, L.mono p1 k1, S1, Ma _ _ _ _ _ _ (fun _ _ h => Lift.mono p1 k1 h) (fun _ _ _ h => LiftX.mono p1 k1 h) q⟩
    | false =>
      rw [if_neg Bool.false_ne_true] at q ⊢
      exact ⟨ρ1, σ', s1, L.mono p1 k1, S1, Mb _ _ _ _ _ _ (fun _ _ h => Lift.mono p1 k1 h) (fun _ _ _ h => LiftX.mono p1 k1 h) q⟩) (fun _ _ _ h => h) q⟩
/-- .. as tests -/
theorem pt_tr {a : Expr} {ma : SE} (Ma : MonoSE ma) (ha : PE X a (tO B W ma)) (he : ∀ whole, isTrue a X.env whole = (do let v ← whole; standAt a.pos; holding [v] (truthy v))) : PT X a (tT B W ma) :=
  PT.imp (pt_truth ha he) fun σ H Q ⟨ρ, σ', s, L, S, q⟩ => ⟨ρ, σ', s, L, S, Ma _ _ _ _ _ _ (fun x s1 q ρ1 H1 vx p1 k1 rx S1 => by
    cases e : tru s1 x with
    | none => rw [e] at q; exact q.elim
    | some c =>
      rw [e] at q
      exact ⟨c, tru_of rx S1 hK e, LiftB.here (LiftB.mono p1 k1 q) S1⟩) (fun _ _ _ h => h) q⟩
theorem obl_some {o : Option Bool} {b : Bool} {K : Bool → Prop} (e : o = some b) (h : obl o K) : K b := by rw [e] at h; exact h
theorem pw_an {a b : Expr} {rest : List Expr} {pos : Pos} {ma mb : SE} (Ma : MonoSE ma) (Mb : MonoSE mb) (ha : PT X a (tT B W ma)) (hb : PW X (.BoolOp .And (b :: rest) pos) (tT B W mb)) :
    PW X (.BoolOp .And (a :: b :: rest) pos) (tT B W fun σ s Q E => ma σ s (fun x s1 => br (tru s1 x) (mb σ s1 Q E) (Q x s1)) E) :=
  PW.imp (pw_and ha hb) fun σ H Q ⟨ρ, σ', s, L, S, q⟩ => ⟨ρ, σ', s, L, S, Ma _ _ _ _ _ _ (fun x s1 q => by
    obtain ⟨c, e, q⟩ := br_lift (H := H) (H' := H) (ρ := ρ) (ρ' := ρ) hK q
    rw [e]
    intro ρ1 H1 p1 k1 S1
    cases c with
    | true =>
      rw [if_pos rfl] at q ⊢
      exact ⟨ρ1, σ', s1, L.mono p1 k1, S1, Mb _ _ _ _ _ _ (fun _ _ h => obl_mono h fun _ h => LiftB.mono p1 k1 h) (fun _ _ _ h => LiftX.mono p1 k1 h) q⟩
    | false =>
      rw [if_neg Bool.false_ne_true] at q ⊢
      exact LiftB.here (LiftB.mono p1 k1 (obl_some hK e q)) S1) (fun _ _ _ h => h) q⟩
theorem pw_orr {a b : Expr} {rest : List Expr} {pos : Pos} {ma mb : SE} (Ma : MonoSE ma) (Mb : MonoSE mb) (ha : PT X a (tT B W ma)) (hb : PW X (.BoolOp .Or (b :: rest) pos) (tT B W mb)) :
    PW X (.BoolOp .Or (a :: b :: rest) pos) (tT B W fun σ s Q E => ma σ s (fun x s1 => br (tru s1 x) (Q x s1) (mb σ s1 Q E)) E) :=
  PW.imp (pw_or ha hb) fun σ H Q ⟨ρ, σ', s, L, S, q⟩ => ⟨ρ, σ', s, L, S, Ma _ _ _ _ _ _ (fun x s1 q => by
    obtain ⟨c, e, q⟩ := br_lift (H := H) (H' := H) (ρ := ρ) (ρ' := ρ) hK q
    rw [e]
    intro ρ1 H1 p1 k1 S1
    cases c with
    | false =>
      rw [if_neg Bool.false_ne_true] at q ⊢
      exact ⟨ρ1, σ', s1, L.mono p1 k1, S1, Mb _ _ _ _ _ _ (fun _ _ h => obl_mono h fun _ h => LiftB.mono p1 k1 h) (fun _ _ _ h => LiftX.mono p1 k1 h) q⟩
    | true =>
      rw [if_pos rfl] at q ⊢
      exact LiftB.here (LiftB.mono p1 k1 (obl_some hK e q)) S1) (fun _ _ _ h => h) q⟩
theorem pt_nt {a : Expr} {pos : Pos} {ma : SE} (Ma : MonoSE ma) (ha : PT X a (tT B W ma)) : PT X (.UnaryOp .Not a pos) (tT B W fun σ s Q E => ma σ s (fun x s1 => obl (tru s1 x) fun c => Q (.bl (!c)) s1) E) :=
  PT.imp (pt_not ha) fun σ H Q ⟨ρ, σ', s, L, S, q⟩ => ⟨ρ, σ', s, L, S, Ma _ _ _ _ _ _ (fun x s1 q => obl_mono q fun c h => h) (fun _ _ _ h => h) q⟩
end
/-! ### argument lists, displays, slices -/
theorem pa_nl : PA X [] (tAr B W fun σ s Q E => Q [] s) := PA.imp pa_nil fun σ H Q ⟨ρ, σ', s, L, S, q⟩ => q ρ H [] (List.prefix_refl _) (Keep.refl _) rfl S
theorem pa_cn {e : Expr} {es : List Expr} {me : SE} {mr : SA} (Me : MonoSE me) (Mr : MonoSA mr) (he : PE X e (tO B W me)) (hr : PA X es (tAr B W mr)) (hs : starEach (e :: es) X.env = (false, eval e X.env) :: starEach es X.env) :
    PA X (e :: es) (tAr B W fun σ s Q E => me σ s (fun x s1 => mr σ s1 (fun xs s2 => Q (x :: xs) s2) E) E) :=
  PA.imp (pa_cons he hr hs) fun σ H Q ⟨ρ, σ', s, L, S, q⟩ => ⟨ρ, σ', s, L, S, Me _ _ _ _ _ _ (fun x s1 q ρ1 H1 vx p1 k1 rx S1 =>
    ⟨ρ1, σ', s1, L.mono p1 k1, S1, Mr _ _ _ _ _ _ (fun xs s2 q ρ2 H2 vs p2 k2 rs S2 => q ρ2 H2 (vx :: vs) (p1.trans p2) (k1.trans k2) ⟨vx, vs, rfl, rx.mono p2 k2, rs⟩ S2) (fun _ _ _ h => LiftX.mono p1 k1 h) q⟩) (fun _ _ _ h => h) q⟩
theorem pe_tp {es : List Expr} {x1 : Nat} {pos : Pos} {m : SA} (M : MonoSA m) (h : PA X es (tAr B W m)) : PE X (.Tuple es x1 pos) (tO B W fun σ s Q E => m σ s (fun vs s1 => vs.length ≤ sizeLine ∧ Q (.tup vs) s1) E) :=
  PE.imp (pe_tup h) fun σ H Q ⟨ρ, σ', s, L, S, q⟩ => ⟨ρ, σ', s, L, S, M _ _ _ _ _ _ (fun ds s1 q ρ1 H1 vs p1 k1 rs S1 =>
    ⟨by rw [← rs.length]; exact q.1, fun p hp => tup_new S1 rs q.1 (Lift.mono p1 k1 q.2) hp⟩) (fun _ _ _ h => h) q⟩
theorem pe_ls {es : List Expr} {pos : Pos} {m : SA} (M : MonoSA m) (h : PA X es (tAr B W m)) : PE X (.List es pos) (tO B W fun σ s Q E => m σ s (fun vs s1 => vs.length ≤ sizeLine ∧ mk (.lst vs) s1 Q) E) :=
  PE.imp (pe_lst h) fun σ H Q ⟨ρ, σ', s, L, S, q⟩ => ⟨ρ, σ', s, L, S, M _ _ _ _ _ _ (fun ds s1 q ρ1 H1 vs p1 k1 rs S1 =>
    ⟨by rw [← rs.length]; exact q.1, fun p hp => mk_new S1 rs (mk_mono (fun _ _ h => Lift.mono p1 k1 h) q.2) hp⟩) (fun _ _ _ h => h) q⟩
/-- a slice's part -/
def tPo (B : Tb) (W : WQ) (m : SE) : TO := fun σV H Q => ∃ (ρ : List Addr) (σ : Sl) (s : Sto), RelL B H ρ σ σV ∧ RelS B H ρ s ∧ m σ s (fun d s1 => ∃ lo, partD d = some lo ∧ ∀ ρ' H', ρ <+: ρ' → Keep H H' → RelS B H' ρ' s1 → Q lo H') (LiftX B H ρ σV W)
theorem PO.imp {X : Cx} {e : Option Expr} {t t' : TO} (h : PO X e t) (i : ∀ σ H Q, t' σ H Q → t σ H Q) : PO X e t' := ⟨fun pins s σ H Q I q => h.run pins s σ H Q I (i σ H Q q)⟩
theorem po_no : PO X none (tPo B W fun σ s Q E => Q (.kd 0) s) := PO.imp po_none fun σ H Q ⟨ρ, σ', s, L, S, lo, e, q⟩ => by
  cases e
  exact q ρ H (List.prefix_refl _) (Keep.refl _) S
theorem po_so {e : Expr} {m : SE} (M : MonoSE m) (h : PE X e (tO B W m)) : PO X (some e) (tPo B W m) := PO.imp (po_some h) fun σ H Q ⟨ρ, σ', s, L, S, q⟩ =>
  ⟨ρ, σ', s, L, S, M _ _ _ _ _ _ (fun d s1 q ρ1 H1 v p1 k1 r S1 => by
    obtain ⟨lo, e, q⟩ := q
    cases d <;> simp only [partD] at e
    case int i =>
      cases e
      exact ⟨i, r, q ρ1 H1 p1 k1 S1⟩
    case kd n => exact (show False from r).elim
    all_goals cases e) (fun _ _ _ h => h) q⟩
theorem pe_sl {a : Expr} {lo hi : Option Expr} {p2 pos : Pos} {ma ml mh : SE} (Ma : MonoSE ma) (Ml : MonoSE ml) (Mh : MonoSE mh) (hK : B.K = X.K) (ha : PE X a (tO B W ma)) (hl : PO X lo (tPo B W ml)) (hh : PO X hi (tPo B W mh)) :
    PE X (.Subscript a (.Slice lo hi none p2) pos) (tO B W fun σ s Q E => ma σ s (fun x s1 => ml σ s1 (fun y s2 => (partD y).isSome = true ∧ mh σ s2 (fun z s3 => (partD z).isSome = true ∧ xSl x y z s3 Q) E) E) E) :=
  PE.imp (pe_slice (sl_ok hK) ha hl hh) fun σ H Q ⟨ρ, σ', s, L, S, q⟩ => ⟨ρ, σ', s, L, S, Ma _ _ _ _ _ _ (fun x s1 q ρ1 H1 vx p1 k1 rx S1 =>
    ⟨ρ1, σ', s1, L.mono p1 k1, S1, Ml _ _ _ _ _ _ (fun y s2 q => by
      obtain ⟨l, el⟩ := Option.isSome_iff_exists.mp q.1
      refine ⟨l, el, fun ρ2 H2 p2 k2 S2 => ⟨ρ2, σ', s2, L.mono (p1.trans p2) (k1.trans k2), S2, Mh _ _ _ _ _ _ (fun z s3 q => ?_) (fun _ _ _ h => LiftX.mono (p1.trans p2) (k1.trans k2) h) q.2⟩⟩
      obtain ⟨u, eu⟩ := Option.isSome_iff_exists.mp q.1
      refine ⟨u, eu, fun ρ3 H3 p3 k3 S3 => ⟨x, y, z, s3, ρ3, rx.mono (p2.trans p3) (k2.trans k3), el, eu, S3, xSl_mono _ _ _ (fun _ _ h => Lift.mono ((p1.trans p2).trans p3) ((k1.trans k2).trans k3) h) q.2⟩⟩) (fun _ _ _ h => LiftX.mono p1 k1 h) q⟩) (fun _ _ _ h => h) q⟩
/-! ### calls -/
theorem tcb_imp {f : BF} {m : SA} (M : MonoSA m) {σ : L2.St} {H : Hp} {Q : VK} (h : tO B W (fun σ s Q E => m σ s (fun vs s1 => xBlt f vs s1 Q) E) σ H Q) : tCB (rB B f) (tAr B W m) σ H Q := by
  obtain ⟨ρ, σ', s, L, S, q⟩ := h
  exact ⟨ρ, σ', s, L, S, M _ _ _ _ _ _ (fun ds s1 q ρ1 H1 vs p1 k1 rs S1 => ⟨ds, s1, ρ1, rs, S1, xBlt_mono f ds (fun _ _ h => Lift.mono p1 k1 h) q⟩) (fun _ _ _ h => h) q⟩
theorem bm_imp {mf : MF} {T : String} (hT : T = mT mf) (hne : mT mf ≠ "dict") {mo : SE} {m : SA} (Mo : MonoSE mo) (M : MonoSA m) {σ : L2.St} {H : Hp} {Q : VK}
    (h : tO B W (fun σ s Q E => mo σ s (fun x s1 => mTy mf x s1 ∧ m σ s1 (fun vs s2 => xMeth mf x vs s2 Q) E) E) σ H Q) : tBM X.K T (rM B mf) (tO B W mo) (tAr B W m) σ H Q := by
  obtain ⟨ρ, σ', s, L, S, q⟩ := h
  refine ⟨ρ, σ', s, L, S, Mo _ _ _ _ _ _ (fun x s1 q ρ1 H1 vx p1 k1 rx S1 => ⟨?_, ?_⟩) (fun _ _ _ h => h) q⟩
  · rw [hT]
    exact mTy_ok rx S1 q.1 hne
  · exact ⟨ρ1, σ', s1, L.mono p1 k1, S1, M _ _ _ _ _ _ (fun ds s2 q ρ2 H2 vs p2 k2 rs S2 => ⟨x, ds, s2, ρ2, rx.mono p2 k2, rs, S2, xMeth_mono mf x ds (fun _ _ h => Lift.mono (p1.trans p2) (k1.trans k2) h) q⟩) (fun _ _ _ h => LiftX.mono p1 k1 h) q.2⟩
theorem bm0_imp {mf : MF} {T : String} (hT : T = mT mf) (hne : mT mf ≠ "dict") {mo : SE} (Mo : MonoSE mo) {σ : L2.St} {H : Hp} {Q : VK}
    (h : tO B W (fun σ s Q E => mo σ s (fun x s1 => mTy mf x s1 ∧ xMeth mf x [] s1 Q) E) σ H Q) : tBM0 X.K T (rM B mf) (tO B W mo) σ H Q := by
  obtain ⟨ρ, σ', s, L, S, q⟩ := h
  refine ⟨ρ, σ', s, L, S, Mo _ _ _ _ _ _ (fun x s1 q ρ1 H1 vx p1 k1 rx S1 => ⟨?_, ?_⟩) (fun _ _ _ h => h) q⟩
  · rw [hT]
    exact mTy_ok rx S1 q.1 hne
  · exact ⟨x, [], s1, ρ1, rx, rfl, S1, xMeth_mono mf x [] (fun _ _ h => Lift.mono p1 k1 h) q.2⟩
/-- d.get(k, x) -/
theorem pe_get2 {o e : Expr} {es : List Expr} {ap cp : Pos} {mo : SE} {m : SA} (Mo : MonoSE mo) (M : MonoSA m) (hK : B.K = X.K) (hP : B.pw = X.w.params) (hu : X.A.units + 65 < cLine) (ho : PE X o (tO B W mo)) (ha : PA X (e :: es) (tAr B W m))
    (hbase : attributeBase o "get" X.env (eval o X.env) = eval o X.env)
    (hfew : ((backTo cp (starEach (e :: es) X.env)).all (fun x => !x.1) && (backToKw cp (keywordEach [] X.env)).all (fun x => x.1.isSome)
      && decide ((e :: es).length + ([] : List Keyword).length + (if ([] : List Keyword).isEmpty then 0 else 1) < 30)) = true)
    (hline : (ap.endLine == cp.line) = true) (hs : starEach (e :: es) X.env = (false, eval e X.env) :: starEach es X.env) (hplain : (backTo cp (starEach es X.env)).any (·.1) = false) :
    PE X (.Call (.Attribute o "get" ap) (e :: es) [] cp) (tO B W fun σ s Q E => mo σ s (fun x s1 => mTy .get2 x s1 ∧ m σ s1 (fun vs s2 => xMeth .get2 x vs s2 Q) E) E) := by
  refine ⟨fun pins s σ H Q I h => ?_⟩
  obtain ⟨ρ, σ', s0, L, S, q⟩ := h
  have h0 : tO B W mo σ H (fun v H1 => (∃ (ρ : List Addr) (x : D) (kvs : List (D × D)) (a : Addr), v = .ref a ∧ DicV B H1 ρ x kvs a) ∧ tAr B W m σ H1 (fun vs H2 => rM B .get2 v vs H2 Q)) := by
    refine ⟨ρ, σ', s0, L, S, Mo _ _ _ _ _ _ (fun x s1 q ρ1 H1 vx p1 k1 rx S1 => ⟨?_, ?_⟩) (fun _ _ _ h => h) q⟩
    · obtain ⟨kvs, hd⟩ := Option.isSome_iff_exists.mp (show (dicOf s1 x).isSome = true from q.1)
      obtain ⟨a, e, g⟩ := dic_of S1 rx hd
      exact ⟨ρ1, x, kvs, a, e, g⟩
    · exact ⟨ρ1, σ', s1, L.mono p1 k1, S1, M _ _ _ _ _ _ (fun ds s2 q ρ2 H2 vs p2 k2 rs S2 => ⟨x, ds, s2, ρ2, rx.mono p2 k2, rs, S2, xMeth_mono .get2 x ds (fun _ _ h => Lift.mono (p1.trans p2) (k1.trans k2) h) q⟩) (fun _ _ _ h => LiftX.mono p1 k1 h) q.2⟩
  refine wpAny_Call_method_late hbase hfew hline rfl (thn (ho.run pins s σ H _ I h0) fun v s1 ⟨x, H1, I1, r1, ⟨ρ1, x1, kvs, a, ex, g⟩, q1⟩ => ?_)
  subst ex
  obtain rfl : v = Value.ref a := r1
  obtain ⟨h1, h2⟩ := dx_type hK hP I1 g
  refine ⟨"dict", _, PySem.F.plainAttrs_dict, PySem.F.slot_dict_get, PySem.F.type_dict_get, h1, h2, ?_⟩
  have hA := ha.run cp pins s1 σ H1 _ I1 q1
  rw [hs] at hA ⊢
  refine Calls.callWith_builtin (by show (false || (backTo cp (starEach es X.env)).any (·.1)) = false; rw [hplain] <;> rfl) (Calls.evalArgs_plain ?_)
  exact thn hA fun us s2 ⟨vs, H2, I2, r2, q2⟩ => mf_get2 hK hP hu pins s2 σ H2 (.ref a) vs _ us Q I2 rfl r2 q2
/-! ### a display of a dict -/
def flatP : List (SE × SE) → SA
  | [], σ, s, Q, E => Q [] s
  | (mk, mv) :: r, σ, s, Q, E => mk σ s (fun x s1 => mv σ s1 (fun y s2 => flatP r σ s2 (fun xs s3 => Q (x :: y :: xs) s3) E) E) E
theorem flatP_mono : ∀ {ms : List (SE × SE)}, (∀ p ∈ ms, MonoSE p.1 ∧ MonoSE p.2) → MonoSA (flatP ms)
  | [], _, σ, s, Q, Q', E, E', hQ, hE, h => hQ _ _ h
  | (a, b) :: r, hm, σ, s, Q, Q', E, E', hQ, hE, h =>
    (hm (a, b) (by simp)).1 _ _ _ _ _ _ (fun x s1 h => (hm (a, b) (by simp)).2 _ _ _ _ _ _ (fun y s2 h => flatP_mono (fun p hp => hm p (by simp [hp])) _ _ _ _ _ _ (fun xs s3 h => hQ _ _ h) hE h) hE h) hE h
def unP : List (V × V) → List V
  | [] => []
  | (a, b) :: r => a :: b :: unP r
theorem pairs_imp : ∀ {ms : List (SE × SE)}, (∀ p ∈ ms, MonoSE p.1 ∧ MonoSE p.2) → ∀ {σV : L2.St} {H : Hp} {ρ : List Addr} {σ : Sl} {s : Sto} {Q : List (V × V) → Hp → Prop}, RelL B H ρ σ σV → RelS B H ρ s →
    flatP ms σ s (fun ds s' => ∀ ρ' H' ps, ρ <+: ρ' → Keep H H' → RelDs B H' ρ' ds (unP ps) → RelS B H' ρ' s' → Q ps H') (LiftX B H ρ σV W) → tPairs (ms.map fun p => (tO B W p.1, tO B W p.2)) σV H Q
  | [], _, σV, H, ρ, σ, s, Q, L, S, h => h ρ H [] (List.prefix_refl _) (Keep.refl _) rfl S
  | (a, b) :: r, hm, σV, H, ρ, σ, s, Q, L, S, h => by
    refine ⟨ρ, σ, s, L, S, (hm (a, b) (by simp)).1 _ _ _ _ _ _ (fun x s1 h ρ1 H1 vx p1 k1 rx S1 => ?_) (fun _ _ _ h => h) h⟩
    refine ⟨ρ1, σ, s1, L.mono p1 k1, S1, (hm (a, b) (by simp)).2 _ _ _ _ _ _ (fun y s2 h ρ2 H2 vy p2 k2 ry S2 => ?_) (fun _ _ _ h => LiftX.mono p1 k1 h) h⟩
    refine pairs_imp (fun p hp => hm p (by simp [hp])) (L.mono (p1.trans p2) (k1.trans k2)) S2 (flatP_mono (fun p hp => hm p (by simp [hp])) _ _ _ _ _ _ (fun ds s3 h ρ3 H3 ps p3 k3 rs S3 => ?_) (fun _ _ _ h => LiftX.mono (p1.trans p2) (k1.trans k2) h) h)
    exact h ρ3 H3 ((vx, vy) :: ps) ((p1.trans p2).trans p3) ((k1.trans k2).trans k3) ⟨vx, _, rfl, rx.mono (p2.trans p3) (k2.trans k3), vy, _, rfl, ry.mono p3 k3, rs⟩ S3
theorem pair_rel {H : Hp} {ρ : List Addr} : ∀ {ps : List (V × V)} {ds : List D} {kvs : List (D × D)}, RelDs B H ρ ds (unP ps) → pairUp ds = some kvs → ∃ l : List (Key × V), ps = l.map (fun kv => (kV kv.1, kv.2)) ∧ RelKV B H ρ kvs l
  | [], ds, kvs, r, h => by
    cases ds with
    | nil => cases h; exact ⟨[], rfl, rfl⟩
    | cons x r' => obtain ⟨_, _, e, _⟩ := r; cases e
  | (a, b) :: ps, ds, kvs, r, h => by
    cases ds with
    | nil => cases (show a :: b :: unP ps = [] from r)
    | cons x r' =>
      obtain ⟨v, w, e, rx, r⟩ := r
      cases e
      cases r' with
      | nil => cases (show b :: unP ps = [] from r)
      | cons y r' =>
        obtain ⟨v, w, e, ry, r⟩ := r
        cases e
        simp only [pairUp] at h
        split at h
        · rename_i hk
          cases e2 : pairUp r' with
          | none => rw [e2] at h; cases h
          | some kvs' =>
            rw [e2] at h
            cases h
            obtain ⟨l, rfl, q⟩ := pair_rel r e2
            obtain ⟨k, h1, rfl⟩ := keyV_of rx hk
            exact ⟨(k, b) :: l, rfl, k, b, l, rfl, h1, ry, q⟩
        · cases h
theorem kv_merge {H : Hp} {ρ : List Addr} : ∀ {kvs : List (D × D)} {l : List (Key × V)} {acc : List (D × D)} {al : List (Key × V)}, RelKV B H ρ kvs l → RelKV B H ρ acc al → RelKV B H ρ (kvs.foldl (fun acc p => dPut acc p.1 p.2) acc) (mergeK al l)
  | [], l, acc, al, h, ha => by rw [show l = [] from h]; exact ha
  | (x, d) :: r, l, acc, al, h, ha => by
    obtain ⟨k', v, l', rfl, h1, h2, h3⟩ := h
    show RelKV B H ρ (r.foldl (fun acc p => dPut acc p.1 p.2) (dPut acc x d)) (mergeK (putK al k' v) l')
    exact kv_merge h3 (kv_put h1 h2 ha)
theorem pe_dct {keys : List (Option Expr)} {vals : List Expr} {pos : Pos} {ms : List (SE × SE)} (hm : ∀ p ∈ ms, MonoSE p.1 ∧ MonoSE p.2) (h : PPs X pos keys vals (ms.map fun p => (tO B W p.1, tO B W p.2))) (hall : keys.all (·.isSome) = true) (hl : keys.length = vals.length) (h0 : keys ≠ []) (h15 : keys.length ≤ 15) :
    PE X (.Dict keys vals pos) (tO B W fun σ s Q E => flatP ms σ (s ++ [.dic []]) (fun vs s1 => match pairUp vs with
      | some kvs => s1[s.length]? = some (.dic []) ∧ kvs.length ≤ 15 ∧ Q (.ref s.length) (s1.set s.length (.dic (kvs.foldl (fun acc p => dPut acc p.1 p.2) [])))
      | none => False) E) := PE.imp (pe_disp h hall hl h0 h15) fun σ H Q ⟨ρ, σ', s, L, S, q⟩ p hp => by
  have k0 : Keep H (upd H p (.dK [])) := .new hp
  have pr : ρ <+: ρ ++ [p] := List.prefix_append _ _
  have S' : RelS B (upd H p (.dK [])) (ρ ++ [p]) (s ++ [.dic []]) := S.push hp ⟨_, upd_same, [], rfl, rfl⟩
  refine pairs_imp hm (L.mono pr k0) S' (flatP_mono hm _ _ _ _ _ _ (fun ds s1 q ρ1 H1 ps p1 k1 rs S1 => ?_) (fun _ _ _ h => LiftX.mono pr k0 h) q)
  cases hu : pairUp ds with
  | none => rw [hu] at q; exact q.elim
  | some kvs =>
    rw [hu] at q
    obtain ⟨g1, g2, g3⟩ := q
    have ep : ρ1[s.length]? = some p := pre_get p1 (by rw [← S.len, List.getElem?_append_right (Nat.le_refl _), Nat.sub_self]; rfl)
    obtain ⟨l0, e0, r0⟩ := S1.dicOf ep g1
    rw [show l0 = [] from r0] at e0
    obtain ⟨l, rfl, rk⟩ := pair_rel rs hu
    refine ⟨e0, l, rfl, by rw [← kv_len rk]; exact g2, ?_⟩
    have hU : RelU B H1 ρ1 (.dic []) (.dK []) := ⟨[], rfl, rfl⟩
    have kk : Keep H1 (upd H1 p (.dK (mergeK [] l))) := hU.keep rfl e0
    exact g3 ρ1 _ (.ref p) (pr.trans p1) ((k0.trans k1).trans kk) ⟨p, rfl, ep⟩ (S1.setO rfl ep g1 e0 hU ⟨_, rfl, kv_merge rk rfl⟩)
/-- a def's promise, from its plain meaning -/
def spD (B : Tb) (RX : Nat → List (Nat × D) → Value → Option Addr → Hp → List Addr → Prop) (G : FS) (f : Nat) : Sp := fun vs H Q E => ∃ (ρ : List Addr) (ds : List D) (s : Sto), RelDs B H ρ ds vs ∧ RelS B H ρ s ∧
  G f ds s (Lift B H ρ Q) fun c fs s' => ∀ ρ' H' cls d, ρ <+: ρ' → Keep H H' → RelS B H' ρ' s' → RX c fs cls d H' ρ' → E cls d H'
end
end PX

/-! PX: targets, what is walked, statements. -/
namespace PX
open PySem PySem.Spec PyProof.Rows L2
theorem br_cases {o : Option Bool} {A A' : Prop} (h : br o A A') : ∃ b, o = some b ∧ if b = true then A else A' := by
  match o, h with
  | some true, h => exact ⟨true, rfl, by rw [if_pos rfl]; exact h⟩
  | some false, h => exact ⟨false, rfl, by rw [if_neg Bool.false_ne_true]; exact h⟩
section
variable {X : Cx} {B : Tb} {W : WQ} (hK : B.K = X.K)
theorem RelL.ofSet {H : Hp} {ρ : List Addr} {σ : Sl} {σV : L2.St} (L : RelL B H ρ σ σV) : σV.length = σ.length := L.len.symm
/-! ### targets -/
def gT (B : Tb) (t : TG) : L2.TG := fun v σV H Q => ∃ (ρ : List Addr) (σ : Sl) (d : D), RelL B H ρ σ σV ∧ RelD B H ρ d v ∧ xTg t d σ fun σ' => ∀ σV', RelL B H ρ σ' σV' → Q σV' H
def gTs (B : Tb) (ts : List TG) : TGs := fun vs σV H Q => ∃ (ρ : List Addr) (σ : Sl) (ds : List D), RelL B H ρ σ σV ∧ RelDs B H ρ ds vs ∧ xTgs ts ds σ fun σ' => ∀ σV', RelL B H ρ σ' σV' → Q σV' H
theorem PG.imp {e : Expr} {t t' : L2.TG} (h : PG X e t) (i : ∀ v σ H Q, t' v σ H Q → t v σ H Q) : PG X e t' := ⟨fun pins s σ H v u Q I r q => h.run pins s σ H v u Q I r (i v σ H Q q)⟩
theorem PGs.imp {es : List Expr} {t t' : TGs} (h : PGs X es t) (i : ∀ v σ H Q, t' v σ H Q → t v σ H Q) : PGs X es t' := ⟨fun pins s σ H v u Q I r q => h.run pins s σ H v u Q I r (i v σ H Q q)⟩
theorem pg_nm {e : Expr} {i : Nat} (h : PG X e (gName i)) : PG X e (gT B (.nm i)) := PG.imp h fun v σV H Q ⟨ρ, σ, d, L, r, q⟩ => q _ (L.set r i)
theorem pgs_nl : PGs X [] (gTs B []) := PGs.imp pgs_nil fun vs σV H Q ⟨ρ, σ, ds, L, r, q⟩ => by
  cases ds with
  | nil => exact ⟨r, q _ L⟩
  | cons d ds => exact (show False from q).elim
theorem pgs_cn {e : Expr} {es : List Expr} {t : TG} {ts : List TG} (h1 : PG X e (gT B t)) (h2 : PGs X es (gTs B ts)) (hs : (assignEach (e :: es) X.env).map (·.2) = assign e X.env :: (assignEach es X.env).map (·.2)) : PGs X (e :: es) (gTs B (t :: ts)) :=
  PGs.imp (pgs_cons h1 h2 hs) fun vs σV H Q ⟨ρ, σ, ds, L, r, q⟩ => by
    cases ds with
    | nil => exact (show False from q).elim
    | cons d ds =>
      obtain ⟨v, rr, rfl, r1, r2⟩ := r
      exact ⟨v, rr, rfl, ρ, σ, d, L, r1, xTg_mono t (fun σ' h σV' L' => ⟨ρ, σ', ds, L', r2, h⟩) q⟩
theorem pg_tp {es : List Expr} {k : Nat} {ts : List TG} {pos : Pos} (hc : X.calm = true) (hK : B.K = X.K) (h : PGs X es (gTs B ts)) (hl : ts.length = es.length) (hn : (assignEach es X.env).length = es.length) (hst : (assignEach es X.env).findIdx? (·.1) = none) :
    PG X (.Tuple es k pos) (gT B (.tp ts)) := PG.imp (pg_tup hc h hn hst) fun v σV H Q ⟨ρ, σ, d, L, r, q⟩ => by
  cases d <;> try exact (show False from q).elim
  rename_i xs
  have q : xTgs ts xs σ fun σ' => ∀ σV', RelL B H ρ σ' σV' → Q σV' H := q
  obtain ⟨a, vs, rfl, sq, z, d⟩ := r
  have hx : ∀ (ts : List TG) (xs : List D) (σ : Sl) (Q : Sl → Prop), xTgs ts xs σ Q → ts.length = xs.length := by
    intro ts
    induction ts with
    | nil => intro xs σ Q q; cases xs with
      | nil => rfl
      | cons _ _ => exact (show False from q).elim
    | cons t ts ih => intro xs σ Q q; cases xs with
      | nil => exact (show False from q).elim
      | cons x xs =>
        have hnest : ∀ (t : TG) (d : D) (σ : Sl) (Q : Sl → Prop), xTg t d σ Q → ∃ σ', Q σ' := by
          intro t
          refine TG.rec (motive_1 := fun t => ∀ (d : D) (σ : Sl) (Q : Sl → Prop), xTg t d σ Q → ∃ σ', Q σ') (motive_2 := fun ts => ∀ (ds : List D) (σ : Sl) (Q : Sl → Prop), xTgs ts ds σ Q → ∃ σ', Q σ') ?_ ?_ ?_ ?_ t
          · intro i d σ Q q; exact ⟨_, q⟩
          · intro ts ih d σ Q q
            cases d <;> first | exact ih _ σ Q q | exact (show False from q).elim
          · intro ds σ Q q
            cases ds with
            | nil => exact ⟨_, q⟩
            | cons _ _ => exact (show False from q).elim
          · intro t ts ih1 ih2 ds σ Q q
            cases ds with
            | nil => exact (show False from q).elim
            | cons d ds =>
              obtain ⟨σ', h⟩ := ih1 d σ _ q
              exact ih2 ds σ' Q h
        obtain ⟨σ', h⟩ := hnest t x σ _ q
        rw [List.length_cons, List.length_cons, ih xs σ' Q h]
  exact ⟨a, vs, rfl, hK ▸ sq, by rw [← d.length, ← hx _ _ _ _ q, hl], ρ, σ, xs, L, d, q⟩
/-! ### what is walked -/
/-- J hands out the items, while the list at o stays as it is -/
structure Srv (B : Tb) (J : It) (H0 : Hp) (ρ0 : List Addr) (items : List D) (o : WK) : Prop where
  go : ∀ i H ρ s, ρ0 <+: ρ → Keep H0 H → RelS B H ρ s → chk o items s → i < items.length → J.go i H
  yld : ∀ i H ρ s x H', ρ0 <+: ρ → Keep H0 H → RelS B H ρ s → chk o items s → i < items.length → J.yld i H x H' → ∃ d, items[i]? = some d ∧ RelS B H' ρ s ∧ Keep H H' ∧ RelD B H' ρ d x
  stop : ∀ H ρ s, ρ0 <+: ρ → Keep H0 H → RelS B H ρ s → chk o items s → J.stop items.length H
def tIt (B : Tb) (W : WQ) (m : SA) (ik : IK) : TI := fun σV H R => ∃ (ρ : List Addr) (σ : Sl) (s : Sto), RelL B H ρ σ σV ∧ RelS B H ρ s ∧ m σ s (fun vs s1 => xIt ik vs s1 fun items o => ∀ ρ' H' J, ρ <+: ρ' → Keep H H' → RelS B H' ρ' s1 → Srv B J H' ρ' items o → R J H') (LiftX B H ρ σV W)
section
variable {H0 : Hp} {ρ0 : List Addr}
theorem srv_list {a : Addr} {n : Nat} {xs : List D} (hK : B.K = X.K) (e : ρ0[n]? = some a) : Srv B (Itl X.K a) H0 ρ0 xs (.lst n) where
  go := fun i H ρ s p k S c hi => by
    obtain ⟨vs, g, d⟩ := S.lstOf (pre_get p e) c
    exact ⟨vs, vs[i]'(by rw [← d.length]; exact hi), SqL.of g, List.getElem?_eq_getElem _⟩
  yld := fun i H ρ s x H' p k S c hi y => by
    obtain ⟨vs, g, d⟩ := S.lstOf (pre_get p e) c
    obtain ⟨rfl, y⟩ := y
    obtain ⟨z, h1, h2⟩ := d.getV (y vs (SqL.of g))
    exact ⟨z, h1, S, Keep.refl _, h2⟩
  stop := fun H ρ s p k S c => by
    obtain ⟨vs, g, d⟩ := S.lstOf (pre_get p e) c
    exact ⟨vs, SqL.of g, by rw [← d.length]; exact Nat.le_refl _⟩
theorem srv_fl {a : Addr} {vs : List V} {xs : List D} (hK : B.K = X.K) (f : FrzL B.K H0 a vs) (d : RelDs B H0 ρ0 xs vs) : Srv B (Itl X.K a) H0 ρ0 xs .free where
  go := fun i H ρ s p k S c hi => ⟨vs, vs[i]'(by rw [← d.length]; exact hi), hK ▸ (k.frzL f).sq, List.getElem?_eq_getElem _⟩
  yld := fun i H ρ s x H' p k S c hi y => by
    obtain ⟨rfl, y⟩ := y
    obtain ⟨z, h1, h2⟩ := (d.mono p k).getV (y vs (hK ▸ (k.frzL f).sq))
    exact ⟨z, h1, S, Keep.refl _, h2⟩
  stop := fun H ρ s p k S c => ⟨vs, hK ▸ (k.frzL f).sq, by rw [← d.length]; exact Nat.le_refl _⟩
theorem srv_tup {a : Addr} {vs : List V} {xs : List D} (hK : B.K = X.K) (f : SqT B.K H0 a vs) (d : RelDs B H0 ρ0 xs vs) : Srv B (Itt X.K a) H0 ρ0 xs .free where
  go := fun i H ρ s p k S c hi => ⟨vs, vs[i]'(by rw [← d.length]; exact hi), hK ▸ k.sqT f, List.getElem?_eq_getElem _⟩
  yld := fun i H ρ s x H' p k S c hi y => by
    obtain ⟨rfl, y⟩ := y
    obtain ⟨z, h1, h2⟩ := (d.mono p k).getV (y vs (hK ▸ k.sqT f))
    exact ⟨z, h1, S, Keep.refl _, h2⟩
  stop := fun H ρ s p k S c => ⟨vs, hK ▸ k.sqT f, by rw [← d.length]; exact Nat.le_refl _⟩
theorem srv_str {a : List Nat} (z : StrOk a) : Srv B (Its ⟨a.toArray⟩) H0 ρ0 (a.map fun c => .str [c]) .free where
  go := fun i H ρ s p k S c hi => by
    rw [List.length_map] at hi
    show i < a.toArray.size
    rw [List.size_toArray]
    exact hi
  yld := fun i H ρ s x H' p k S c hi y => by
    obtain ⟨rfl, ch, h1, rfl⟩ := y
    have h2 : a[i]? = some ch := by simpa using h1
    exact ⟨.str [ch], by rw [List.getElem?_map, h2]; rfl, S, Keep.refl _, rfl, z.sub (fun c hc => by rw [List.mem_singleton.mp hc]; exact List.mem_of_getElem? h2) (List.length_pos_of_mem (List.mem_of_getElem? h2))⟩
  stop := fun H ρ s p k S c => by
    show a.toArray.size ≤ _
    rw [List.size_toArray, List.length_map]
    exact Nat.le_refl _
theorem srv_rng {lo hi : Int} : Srv B (Itr lo (hi - lo).toNat) H0 ρ0 (rngL lo hi) .free where
  go := fun i H ρ s p k S c h => by
    unfold rngL at h
    rw [List.length_map, List.length_range] at h
    exact h
  yld := fun i H ρ s x H' p k S c h y => by
    obtain ⟨rfl, rfl⟩ := y
    unfold rngL at h ⊢
    rw [List.length_map, List.length_range] at h
    exact ⟨.int (lo + i), by rw [List.getElem?_map, List.getElem?_range h]; rfl, S, Keep.refl _, rfl⟩
  stop := fun H ρ s p k S c => by
    unfold rngL
    rw [List.length_map, List.length_range]
    exact Nat.le_refl _
end
/-- a value is walked -/
theorem iter_seq {tg : Expr} {pins : List (Addr × Obj)} {σV : L2.St} {H : Hp} {s0 : Shared} {v : V} {u : Value} {d : D} {ρ : List Addr} {s : Sto} {R : It → Hp → Prop} {E : Value → Shared → Prop} (hK : B.K = X.K) (I : Inv X pins σV H s0) (ru : RelV v u) (r : RelD B H ρ d v) (S : RelS B H ρ s)
    (h : xIt .seq [d] s fun items o => ∀ J, Srv B J H ρ items o → R J H) : wpAny (model X.prog X.w) X.A (pyIter u) (PIE X pins σV tg R) E s0 := by
  cases d <;> simp only [xIt] at h
  case str a =>
    obtain ⟨rfl, z⟩ := r
    obtain ⟨t, rfl⟩ := ru
    have q := h _ (srv_str z)
    cases ha : (⟨a.toArray⟩ : Str).cps.all (· < 128)
    · exact wpAny_pyIter_wide ha (pi_one (tk := s0.toks) I _ (turn_str _ _ t "str_iterator" (.inr rfl)) ⟨_, Heap.get?_push_size _ rfl, rfl, rfl⟩ q)
    · exact wpAny_pyIter_ascii ha (pi_one (tk := s0.toks) I _ (turn_str _ _ t "str_ascii_iterator" (.inl rfl)) ⟨_, Heap.get?_push_size _ rfl, rfl, rfl⟩ q)
  case tup xs =>
    obtain ⟨a, vs, rfl, sq, z, d⟩ := r
    cases ru
    have q := h _ (srv_tup hK sq d)
    obtain ⟨its, rv, p, hz⟩ := I.tuple (hK ▸ sq)
    exact wpAny_pyIter_tuple (show s0.heap.IsTuple a its.toArray from p) (pi_one (tk := s0.toks) I _ (turn_tuple a _) ⟨_, Heap.get?_push_size _ rfl, rfl, rfl⟩ q)
  case fl xs =>
    obtain ⟨a, vs, rfl, f, d⟩ := r
    cases ru
    have q := h _ (srv_fl hK f d)
    obtain ⟨its, rv, p, hz⟩ := I.list (hK ▸ f.sq)
    exact wpAny_pyIter_list p.isList (pi_one (tk := s0.toks) I _ (turn_list a _) ⟨_, Heap.get?_push_size _ rfl, rfl, rfl⟩ q)
  case ref n =>
    obtain ⟨a, rfl, e⟩ := r
    cases ru
    split at h
    · rename_i xs hs
      have q := h _ (srv_list hK e)
      obtain ⟨vs, g, d⟩ := S.lstOf e hs
      obtain ⟨its, rv, p, hz⟩ := I.list (SqL.of g)
      exact wpAny_pyIter_list p.isList (pi_one (tk := s0.toks) I _ (turn_list a _) ⟨_, Heap.get?_push_size _ rfl, rfl, rfl⟩ q)
    · exact h.elim
  all_goals exact h.elim
theorem PI.imp {tg e : Expr} {t t' : TI} (h : PI X tg e t) (i : ∀ σ H R, t' σ H R → t σ H R) : PI X tg e t' := ⟨fun pins s σ H R I q => h.run pins s σ H R I (i σ H R q)⟩
theorem pi_sq {tg e : Expr} {m : SE} (M : MonoSE m) (hK : B.K = X.K) (h : PE X e (tO B W m)) : PI X tg e (tIt B W (fun σ s Q E => m σ s (fun d s1 => Q [d] s1) E) .seq) := by
  refine ⟨fun pins s0 σV H R I ⟨ρ, σ, s, L, S, q⟩ => ?_⟩
  refine thn (h.run pins s0 σV H (fun v H1 => ∃ ρ1 d s1, RelD B H1 ρ1 d v ∧ RelS B H1 ρ1 s1 ∧ xIt .seq [d] s1 fun items o => ∀ J, Srv B J H1 ρ1 items o → R J H1) I ⟨ρ, σ, s, L, S, M _ _ _ _ _ _ (fun d s1 q ρ1 H1 v p1 k1 r S1 => ?_) (fun _ _ _ h => h) q⟩) fun u s1 ⟨v, H1, I1, ru, ρ1, d, st, r, S1, q⟩ => iter_seq hK I1 ru r S1 q
  exact ⟨ρ1, d, s1, r, S1, xIt_mono _ _ (fun l o h J => h ρ1 H1 J p1 k1 S1) q⟩
theorem pi_r1 {tg : Expr} {m : SA} {iter : Expr} (M : MonoSA m) (h : PI X tg iter (iRng1 (tAr B W m))) : PI X tg iter (tIt B W m .rng1) := PI.imp h fun σV H R ⟨ρ, σ, s, L, S, q⟩ =>
  ⟨ρ, σ, s, L, S, M _ _ _ _ _ _ (fun ds s1 q ρ1 H1 vs p1 k1 rs S1 => by
    unfold xIt at q
    split at q <;> rename_i e1 <;> try cases e1
    · rename_i j
      obtain ⟨w, rfl, r⟩ := rel1 rs
      cases int_of r
      refine ⟨j, rfl, q.1.2.2.1, q.1.2.2.2, ?_⟩
      have := q.2 ρ1 H1 (Itr 0 (j - 0).toNat) p1 k1 S1 srv_rng
      rw [Int.sub_zero] at this
      exact this
    all_goals exact q.elim) (fun _ _ _ h => h) q⟩
theorem pi_r2 {tg : Expr} {m : SA} {iter : Expr} (M : MonoSA m) (h : PI X tg iter (iRng2 (tAr B W m))) : PI X tg iter (tIt B W m .rng2) := PI.imp h fun σV H R ⟨ρ, σ, s, L, S, q⟩ =>
  ⟨ρ, σ, s, L, S, M _ _ _ _ _ _ (fun ds s1 q ρ1 H1 vs p1 k1 rs S1 => by
    unfold xIt at q
    split at q <;> rename_i e1 <;> try cases e1
    · rename_i i j
      obtain ⟨w, w', rfl, r, r'⟩ := rel2 rs
      cases int_of r
      cases int_of r'
      exact ⟨i, j, rfl, q.1, q.2 ρ1 H1 (Itr i (j - i).toNat) p1 k1 S1 srv_rng⟩
    all_goals exact q.elim) (fun _ _ _ h => h) q⟩
/-! ### statements -/
def LiftN (B : Tb) (H : Hp) (ρ : List Addr) (W : WQ) (N : Ends) : En where
  nx := fun σ s' => ∀ ρ' H' σV, ρ <+: ρ' → Keep H H' → RelL B H' ρ' σ σV → RelS B H' ρ' s' → N.nx σV H'
  rt := Lift B H ρ N.rt
  bk := fun σ s' => ∀ ρ' H' σV, ρ <+: ρ' → Keep H H' → RelL B H' ρ' σ σV → RelS B H' ρ' s' → N.bk σV H'
  ct := fun σ s' => ∀ ρ' H' σV, ρ <+: ρ' → Keep H H' → RelL B H' ρ' σ σV → RelS B H' ρ' s' → N.ct σV H'
  ex := fun c fs σ s' => ∀ ρ' H' σV, ρ <+: ρ' → Keep H H' → RelL B H' ρ' σ σV → RelS B H' ρ' s' → W c fs σV H' ρ' s'
def MonoSS (m : SS) : Prop := ∀ σ s N N', En.le N N' → m σ s N → m σ s N'
def tS (B : Tb) (W : WQ) (m : SS) : TS := fun N σV H => ∃ (ρ : List Addr) (σ : Sl) (s : Sto), RelL B H ρ σ σV ∧ RelS B H ρ s ∧ m σ s (LiftN B H ρ W N)
theorem LiftN.le {H H' : Hp} {ρ ρ' : List Addr} {N : Ends} (p : ρ <+: ρ') (k : Keep H H') : En.le (LiftN B H ρ W N) (LiftN B H' ρ' W N) where
  nx := fun σ s h ρ2 H2 σV p2 k2 => h ρ2 H2 σV (p.trans p2) (k.trans k2)
  rt := fun d s h => Lift.mono p k h
  bk := fun σ s h ρ2 H2 σV p2 k2 => h ρ2 H2 σV (p.trans p2) (k.trans k2)
  ct := fun σ s h ρ2 H2 σV p2 k2 => h ρ2 H2 σV (p.trans p2) (k.trans k2)
  ex := fun c fs σ s h ρ2 H2 σV p2 k2 => h ρ2 H2 σV (p.trans p2) (k.trans k2)
/-- what an expression's exception wishes, from the statement's -/
theorem ex_of {H : Hp} {ρ : List Addr} {σ : Sl} {σV : L2.St} {N : Ends} (L : RelL B H ρ σ σV) {c : Nat} {fs : List (Nat × D)} {s : Sto} (h : (LiftN B H ρ W N).ex c fs σ s) : LiftX B H ρ σV W c fs s :=
  fun ρ' H' p k S => h ρ' H' σV p k (L.mono p k) S
theorem pss_nl : PSs X [] (tS B W fun σ s N => N.nx σ s) := PSs.imp pss_nil fun N σV H ⟨ρ, σ, s, L, S, q⟩ => q ρ H σV (List.prefix_refl _) (Keep.refl _) L S
theorem pss_cn {st : Stmt} {rest : List Stmt} {m1 m2 : SS} (M1 : MonoSS m1) (M2 : MonoSS m2) (h1 : PS X st (tS B W m1)) (h2 : PSs X rest (tS B W m2)) : PSs X (st :: rest) (tS B W fun σ s N => m1 σ s { N with nx := fun σ s => m2 σ s N }) :=
  PSs.imp (pss_cons h1 h2) fun N σV H ⟨ρ, σ, s, L, S, q⟩ => ⟨ρ, σ, s, L, S, M1 _ _ { LiftN B H ρ W N with nx := fun σ s => m2 σ s (LiftN B H ρ W N) } _ ⟨fun σ s h ρ2 H2 σV2 p2 k2 L2 S2 => ⟨ρ2, σ, s, L2, S2, M2 _ _ _ _ (LiftN.le p2 k2) h⟩, fun _ _ h => h, fun _ _ h => h, fun _ _ h => h, fun _ _ _ _ h => h⟩ q⟩
theorem ps_br {pos : Pos} : PS X (.Break pos) (tS B W fun σ s N => N.bk σ s) := PS.imp ps_break fun N σV H ⟨ρ, σ, s, L, S, q⟩ => q ρ H σV (List.prefix_refl _) (Keep.refl _) L S
theorem ps_ct {pos : Pos} : PS X (.Continue pos) (tS B W fun σ s N => N.ct σ s) := PS.imp ps_continue fun N σV H ⟨ρ, σ, s, L, S, q⟩ => q ρ H σV (List.prefix_refl _) (Keep.refl _) L S
theorem ps_ps {pos : Pos} : PS X (.Pass pos) (tS B W fun σ s N => N.nx σ s) := PS.imp ps_pass fun N σV H ⟨ρ, σ, s, L, S, q⟩ => q ρ H σV (List.prefix_refl _) (Keep.refl _) L S
theorem ps_ex {e : Expr} {m : SE} {pos : Pos} (M : MonoSE m) (h : PE X e (tO B W m)) (hs : swapsWith e none pos.line X.env = pure false) : PS X (.Expr e pos) (tS B W fun σ s N => m σ s (fun _ s1 => N.nx σ s1) (fun c fs s1 => N.ex c fs σ s1)) :=
  PS.imp (ps_expr h hs) fun N σV H ⟨ρ, σ, s, L, S, q⟩ => ⟨ρ, σ, s, L, S, M _ _ _ _ _ _ (fun d s1 h ρ2 H2 v p k r S2 => h ρ2 H2 σV p k (L.mono p k) S2) (fun _ _ _ h => ex_of L h) q⟩
theorem ps_rt {e : Expr} {m : SE} {pos : Pos} (M : MonoSE m) (h : PE X e (tO B W m)) : PS X (.Return (some e) pos) (tS B W fun σ s N => m σ s N.rt (fun c fs s1 => N.ex c fs σ s1)) :=
  PS.imp (ps_ret h) fun N σV H ⟨ρ, σ, s, L, S, q⟩ => ⟨ρ, σ, s, L, S, M _ _ _ _ _ _ (fun _ _ h => h) (fun _ _ _ h => ex_of L h) q⟩
theorem ps_rtN {pos : Pos} : PS X (.Return none pos) (tS B W fun σ s N => N.rt .non s) := PS.imp ps_retN fun N σV H ⟨ρ, σ, s, L, S, q⟩ => Lift.here q rfl S
theorem ps_as {tg e : Expr} {t : TG} {m : SE} {pos : Pos} (M : MonoSE m) (he : PE X e (tO B W m)) (hg : PG X tg (gT B t)) (hp : ∀ {g : L2.TG}, PG X tg g → PS X (.Assign [tg] e pos) (tAsg (tO B W m) g)) :
    PS X (.Assign [tg] e pos) (tS B W fun σ s N => m σ s (fun x s1 => xTg t x σ fun σ' => N.nx σ' s1) (fun c fs s1 => N.ex c fs σ s1)) :=
  PS.imp (hp hg) fun N σV H ⟨ρ, σ, s, L, S, q⟩ => ⟨ρ, σ, s, L, S, M _ _ _ _ _ _ (fun d s1 h ρ2 H2 v p k r S2 => ⟨ρ2, σ, d, L.mono p k, r, xTg_mono t (fun σ' h σV' L' => h ρ2 H2 σV' p k L' S2) h⟩) (fun _ _ _ h => ex_of L h) q⟩
theorem ps_nmset {e : Expr} {i : Nat} {x : Str} {py pos : Pos} {m : SE} (M : MonoSE m) (h : PS X (.Assign [.Name x py] e pos) (tAsg (tO B W m) (gName i))) :
    PS X (.Assign [.Name x py] e pos) (tS B W fun σ s N => m σ s (fun d s1 => xTg (.nm i) d σ fun σ' => N.nx σ' s1) (fun c fs s1 => N.ex c fs σ s1)) :=
  PS.imp h fun N σV H ⟨ρ, σ, s, L, S, q⟩ => ⟨ρ, σ, s, L, S, M _ _ _ _ _ _ (fun d s1 h ρ2 H2 v p k r S2 => h ρ2 H2 _ p k ((L.mono p k).set r i) S2) (fun _ _ _ h => ex_of L h) q⟩
/-- o[i] = v -/
def rSet (B : Tb) : TSet := fun vx vy vz H Q => ∃ (x y z : D) (s : Sto) (ρ : List Addr), RelD B H ρ x vx ∧ RelD B H ρ y vy ∧ RelD B H ρ z vz ∧ RelS B H ρ s ∧ xAset x y z s fun s' => ∀ ρ' H', ρ <+: ρ' → Keep H H' → RelS B H' ρ' s' → Q H'
theorem set_ok (hu : X.A.units + 65 < cLine) : PSet X (rSet B) := by
  intro pins s0 σV H vx vy vz ov iv u Q I r1 r2 r3 h
  obtain ⟨x, y, z, s, ρ, d1, d2, d3, S, h⟩ := h
  unfold xAset at h
  split at h
  · rename_i n
    obtain ⟨a, rfl, e⟩ := d1
    split at h
    · rename_i xs hs
      split at h
      · rename_i k
        cases int_of d2
        obtain ⟨vs, g, d⟩ := S.lstOf e hs
        split at h
        · rename_i j hj
          refine set_list pins s0 σV H _ _ _ ov iv u Q I r1 r2 r3 ⟨a, vs, k, j, rfl, rfl, g, by rw [← d.length]; exact hj, ?_⟩
          exact h ρ _ (List.prefix_refl _) (.lst g) (S.setL e hs g (RelDs.set d3 j d))
        · exact h.elim
      · exact h.elim
    · rename_i kvs hs
      obtain ⟨hk, hl, h⟩ := h
      obtain ⟨l, g, q⟩ := S.dicOf e hs
      obtain ⟨k, h1, rfl⟩ := keyV_of d2 hk
      have hU : RelU B H ρ (.dic kvs) (.dK l) := ⟨l, rfl, q⟩
      refine set_dict (by omega) pins s0 σV H _ _ _ ov iv u Q I r1 r2 r3 ⟨a, _, rfl, DPut.k g (by rw [← kv_len q]; exact hl), ?_⟩
      exact h ρ _ (List.prefix_refl _) (hU.keep rfl g) (S.setO rfl e hs g hU ⟨_, rfl, kv_put h1 d3 q⟩)
    · exact h.elim
  · exact h.elim
theorem ps_aset {o i e : Expr} {mo mi me : SE} {p1 pos : Pos} (Mo : MonoSE mo) (Mi : MonoSE mi) (Me : MonoSE me) (he : PE X e (tO B W me)) (hp : PS X (.Assign [.Subscript o i p1] e pos) (tAsg (tO B W me) (gSub (tO B W mo) (tO B W mi) (rSet B)))) :
    PS X (.Assign [.Subscript o i p1] e pos) (tS B W fun σ s N => me σ s (fun v s1 => mo σ s1 (fun x s2 => mi σ s2 (fun y s3 => xAset x y v s3 fun s4 => N.nx σ s4) (fun c fs s1 => N.ex c fs σ s1)) (fun c fs s1 => N.ex c fs σ s1)) (fun c fs s1 => N.ex c fs σ s1)) :=
  PS.imp hp fun N σV H ⟨ρ, σ, s, L, S, q⟩ => ⟨ρ, σ, s, L, S, Me _ _ _ _ _ _ (fun dv s1 q ρ1 H1 vv p1 k1 rv S1 =>
    ⟨ρ1, σ, s1, L.mono p1 k1, S1, Mo _ _ _ _ _ _ (fun dx s2 q ρ2 H2 vx p2 k2 rx S2 =>
      ⟨ρ2, σ, s2, L.mono (p1.trans p2) (k1.trans k2), S2, Mi _ _ _ _ _ _ (fun dy s3 q ρ3 H3 vy p3 k3 ry S3 =>
        ⟨dx, dy, dv, s3, ρ3, rx.mono p3 k3, ry, rv.mono (p2.trans p3) (k2.trans k3), S3, xAset_mono _ _ _ (fun s4 h ρ4 H4 p4 k4 S4 => h ρ4 H4 σV (((p1.trans p2).trans p3).trans p4) (((k1.trans k2).trans k3).trans k4) (L.mono (((p1.trans p2).trans p3).trans p4) (((k1.trans k2).trans k3).trans k4)) S4) q⟩)
        (fun _ _ _ h => LiftX.mono (p1.trans p2) (k1.trans k2) (ex_of L h)) q⟩) (fun _ _ _ h => LiftX.mono p1 k1 (ex_of L h)) q⟩) (fun _ _ _ h => ex_of L h) q⟩
theorem ps_ag {e : Expr} {i : Nat} {x : Str} {op : Operator} {p1 pos : Pos} {m : SE} (M : MonoSE m) (h : PS X (.AugAssign (.Name x p1) op e pos) (tAug i (tO B W m) (rO B (xIp op)))) :
    PS X (.AugAssign (.Name x p1) op e pos) (tS B W fun σ s N => match σ[i]? with
    | some (some x) => m σ s (fun y s1 => xIp op x y s1 fun z s2 => N.nx (σ.set i (some z)) s2) (fun c fs s1 => N.ex c fs σ s1)
    | _ => False) := PS.imp h fun N σV H ⟨ρ, σ, s, L, S, q⟩ => by
  dsimp only at q
  split at q
  · rename_i d hd
    obtain ⟨v, h1, h2⟩ := L.at_ i d hd
    refine ⟨v, h1, ρ, σ, s, L, S, M _ _ _ _ _ _ (fun y s1 q ρ1 H1 vy p1 k1 ry S1 => ?_) (fun _ _ _ h => ex_of L h) q⟩
    exact ⟨d, y, s1, ρ1, h2.mono p1 k1, ry, S1, xIp_mono op _ _ (fun z s2 h ρ2 H2 vz p2 k2 rz S2 => h ρ2 H2 _ (p1.trans p2) (k1.trans k2) ((L.mono (p1.trans p2) (k1.trans k2)).set rz i) S2) q⟩
  · exact q.elim
theorem ps_iff {c : Expr} {a b : List Stmt} {mc : SE} {ma mb : SS} {pos : Pos} (Mc : MonoSE mc) (Ma : MonoSS ma) (Mb : MonoSS mb) (hc : PT X c (tT B W mc)) (ha : PSs X a (tS B W ma)) (hb : PSs X b (tS B W mb)) :
    PS X (.If c a b pos) (tS B W fun σ s N => mc σ s (fun x s1 => br (tru s1 x) (ma σ s1 N) (mb σ s1 N)) (fun c fs s1 => N.ex c fs σ s1)) :=
  PS.imp (ps_if hc ha hb) fun N σV H ⟨ρ, σ, s, L, S, q⟩ => ⟨ρ, σ, s, L, S, Mc _ _ _ _ _ _ (fun x s1 q => by
    obtain ⟨c, e, q⟩ := br_cases q
    rw [e]
    intro ρ1 H1 p1 k1 S1
    cases c with
    | true =>
      rw [if_pos rfl] at q ⊢
      exact ⟨ρ1, σ, s1, L.mono p1 k1, S1, Ma _ _ _ _ (LiftN.le p1 k1) q⟩
    | false =>
      rw [if_neg Bool.false_ne_true] at q ⊢
      exact ⟨ρ1, σ, s1, L.mono p1 k1, S1, Mb _ _ _ _ (LiftN.le p1 k1) q⟩) (fun _ _ _ h => ex_of L h) q⟩
end
end PX

/-! PX: loops, comprehensions, calls of defs. -/
namespace PX
open PySem PySem.Spec PyProof.Rows L2
section
variable {X : Cx} {B : Tb} {W : WQ} (hK : B.K = X.K)
theorem ps_wh {c : Expr} {body : List Stmt} {mc : SE} {mb : SS} {pos : Pos} (hp : PassesOwn (model X.prog X.w) X.A X.env X.xe) (Mc : MonoSE mc) (Mb : MonoSS mb) (hc : PT X c (tT B W mc)) (hb : PSs X body (tS B W mb)) :
    PS X (.While c body [] pos) (tS B W fun σ s N => whlGo mc mb N σ s) :=
  PS.imp (ps_while hp hc hb) fun N σV H ⟨ρ, σ, s, L, S, Wp, ⟨m0, w0⟩, q⟩ => by
    refine ⟨fun m σV2 H2 => ∃ ρ2 σ2 s2, ρ <+: ρ2 ∧ Keep H H2 ∧ RelL B H2 ρ2 σ2 σV2 ∧ RelS B H2 ρ2 s2 ∧ Wp m σ2 s2, ⟨m0, ρ, σ, s, List.prefix_refl _, Keep.refl _, L, S, w0⟩, ?_⟩
    rintro m σV2 H2 ⟨ρ2, σ2, s2, p2, k2, L2, S2, w2⟩
    refine ⟨ρ2, σ2, s2, L2, S2, Mc _ _ _ _ _ _ (fun d s3 q => ?_) (fun _ _ _ h => LiftX.mono (List.prefix_refl _) (Keep.refl _) (ex_of L2 (LiftN.le p2 k2 |>.ex _ _ _ _ h))) (q m σ2 s2 w2)⟩
    obtain ⟨b, e, q⟩ := br_cases q
    rw [e]
    intro ρ3 H3 p3 k3 S3
    cases b with
    | true =>
      rw [if_pos rfl] at q ⊢
      refine ⟨fun σ' H' => ∃ m', m' < m ∧ ∃ ρ2 σ2 s2, ρ <+: ρ2 ∧ Keep H H2 ∧ Keep H H' ∧ RelL B H' ρ2 σ2 σ' ∧ RelS B H' ρ2 s2 ∧ Wp m' σ2 s2, fun σ' H' ⟨m', hm, ρ4, σ4, s4, p4, _, k4, L4, S4, w4⟩ => ⟨m', hm, ρ4, σ4, s4, p4, k4, L4, S4, w4⟩, ?_⟩
      have P := p2.trans p3
      have KK := k2.trans k3
      refine ⟨ρ3, σ2, s3, L2.mono p3 k3, S3, Mb _ _ _ _ ⟨?_, ?_, ?_, ?_, ?_⟩ q⟩
      · rintro σ4 s4 ⟨m', hm, w4⟩ ρ4 H4 σV4 p4 k4 L4 S4
        exact ⟨m', hm, ρ4, σ4, s4, P.trans p4, k2, KK.trans k4, L4, S4, w4⟩
      · exact fun d s h => Lift.mono P KK h
      · exact fun σ s h => (LiftN.le (W := W) (N := N) P KK).nx σ s h
      · rintro σ4 s4 ⟨m', hm, w4⟩ ρ4 H4 σV4 p4 k4 L4 S4
        exact ⟨m', hm, ρ4, σ4, s4, P.trans p4, k2, KK.trans k4, L4, S4, w4⟩
      · exact fun c fs σ s h => (LiftN.le (W := W) (N := N) P KK).ex c fs σ s h
    | false =>
      rw [if_neg Bool.false_ne_true] at q ⊢
      exact q ρ3 H3 σV2 (p2.trans p3) (k2.trans k3) (L2.mono p3 k3) S3
/-- a for's turns, by the walk's invariant -/
theorem for_of {J : It} {tg : TG} {o : WK} {items : List D} {mb : SS} {N : Ends} {NN : En} {H1 : Hp} {ρ1 : List Addr} {σ1 : Sl} {s1 : Sto} {σV1 : L2.St} (Mb : MonoSS mb) (hN : En.le NN (LiftN B H1 ρ1 W N)) (V : Srv B J H1 ρ1 items o)
    (L1 : RelL B H1 ρ1 σ1 σV1) (S1 : RelS B H1 ρ1 s1) (q : forGo tg o items mb NN items σ1 s1) :
    ∃ W' : Nat → Nat → L2.St → Hp → Prop, (∃ m, W' 0 m σV1 H1) ∧ ∀ i m σ H, W' i m σ H → (J.stop i H ∧ N.nx σ H) ∨ (J.go i H ∧ ∃ Nx : L2.St → Hp → Prop, (∀ σ' H', Nx σ' H' → ∃ m', m' < m ∧ W' (i + 1) m' σ' H') ∧
      ∀ x H', J.yld i H x H' → gT B tg x σ H' fun σ2 H2 => tS B W mb { N with nx := Nx, ct := Nx, bk := N.nx } σ2 H2) := by
  refine ⟨fun i m σV2 H2 => m = items.length - i ∧ i ≤ items.length ∧ ∃ ρ2 σ2 s2, ρ1 <+: ρ2 ∧ Keep H1 H2 ∧ RelL B H2 ρ2 σ2 σV2 ∧ RelS B H2 ρ2 s2 ∧ forGo tg o items mb NN (items.drop i) σ2 s2,
    ⟨_, rfl, Nat.zero_le _, ρ1, σ1, s1, List.prefix_refl _, Keep.refl _, L1, S1, q⟩, ?_⟩
  rintro i m σV2 H2 ⟨rfl, hi, ρ2, σ2, s2, p2, k2, L2, S2, q⟩
  by_cases hlt : i < items.length
  · rw [List.drop_eq_getElem_cons hlt] at q
    obtain ⟨c, q⟩ := q
    refine .inr ⟨V.go i H2 ρ2 s2 p2 k2 S2 c hlt, fun σ' H' => ∃ ρ3 σ3 s3, ρ1 <+: ρ3 ∧ Keep H1 H' ∧ RelL B H' ρ3 σ3 σ' ∧ RelS B H' ρ3 s3 ∧ forGo tg o items mb NN (items.drop (i + 1)) σ3 s3,
      fun σ' H' h => ⟨items.length - (i + 1), by omega, rfl, hlt, h⟩, fun x H' y => ?_⟩
    obtain ⟨d, hd, S3, k3, r⟩ := V.yld i H2 ρ2 s2 x H' p2 k2 S2 c hlt y
    have e : items[i] = d := Option.some.inj ((List.getElem?_eq_getElem hlt).symm.trans hd)
    rw [e] at q
    refine ⟨ρ2, σ2, d, L2.mono (List.prefix_refl _) k3, r, xTg_mono tg (fun σ' h σV' L' => ⟨ρ2, σ', s2, L', S3, Mb _ _ _ _ ⟨?_, ?_, ?_, ?_, ?_⟩ h⟩) q⟩
    · exact fun σ4 s4 h ρ4 H4 σV4 p4 k4 L4 S4 => ⟨ρ4, σ4, s4, p2.trans p4, (k2.trans k3).trans k4, L4, S4, h⟩
    · exact fun d s h => Lift.mono p2 (k2.trans k3) (hN.rt d s h)
    · exact fun σ s h => (LiftN.le (W := W) (N := N) p2 (k2.trans k3)).nx σ s (hN.nx σ s h)
    · exact fun σ4 s4 h ρ4 H4 σV4 p4 k4 L4 S4 => ⟨ρ4, σ4, s4, p2.trans p4, (k2.trans k3).trans k4, L4, S4, h⟩
    · exact fun c fs σ s h => (LiftN.le (W := W) (N := N) p2 (k2.trans k3)).ex c fs σ s (hN.ex c fs σ s h)
  · have e : i = items.length := by omega
    subst e
    rw [List.drop_length] at q
    exact .inl ⟨V.stop H2 ρ2 s2 p2 k2 S2 q.1, hN.nx _ _ q.2 ρ2 H2 σV2 p2 k2 L2 S2⟩
theorem ps_fr {tg iter : Expr} {body : List Stmt} {t : TG} {ik : IK} {m : SA} {mb : SS} {pos : Pos} (hp : PassesOwn (model X.prog X.w) X.A X.env X.xe) (hc : X.calm = true) (M : MonoSA m) (Mb : MonoSS mb) (hi : PI X tg iter (tIt B W m ik)) (hg : PG X tg (gT B t)) (hb : PSs X body (tS B W mb))
    (hs : ∀ x, foldedSetIterable iter X.env x = pure x) :
    PS X (.For tg iter body [] pos) (tS B W fun σ s N => m σ s (fun vs s1 => xIt ik vs s1 fun items o => forGo t o items mb N items σ s1) (fun c fs s1 => N.ex c fs σ s1)) :=
  PS.imp (ps_for hp hc hi hg hb hs) fun N σV H ⟨ρ, σ, s, L, S, q⟩ => ⟨ρ, σ, s, L, S, M _ _ _ _ _ _ (fun vs s1 h => xIt_mono ik vs (fun items o q ρ1 H1 J p1 k1 S1 V =>
    for_of Mb (LiftN.le p1 k1) V (L.mono p1 k1) S1 q) h) (fun _ _ _ h => ex_of L h) q⟩
/-! ### comprehensions -/
def subT (vs : List Nat) : TG → Bool
  | .nm i => vs.contains i
  | .tp ts => subTs vs ts
where subTs (vs : List Nat) : List TG → Bool
  | [] => true
  | t :: ts => subT vs t && subTs vs ts
theorem wipe_set {σ : L2.St} {i : Nat} {x : Option V} : ∀ {vs : List Nat}, i ∈ vs → wipe (σ.set i x) vs = wipe σ vs
  | [], h => by simp at h
  | v :: vs, h => by
    unfold wipe
    by_cases hv : i ∈ vs
    · rw [wipe_set hv]
    · have e : i = v := (List.mem_cons.mp h).resolve_right hv
      subst e
      have hw : ∀ (vs : List Nat) (σ : L2.St), i ∉ vs → wipe (σ.set i x) vs = (wipe σ vs).set i x := by
        intro vs
        induction vs with
        | nil => intro σ _; rfl
        | cons w vs ih =>
          intro σ hn
          have h1 : i ≠ w := fun z => hn (by rw [z]; exact List.mem_cons_self)
          have h2 : i ∉ vs := fun z => hn (List.mem_cons_of_mem _ z)
          unfold wipe
          rw [ih σ h2, List.set_comm _ _ h1]
      rw [hw vs σ hv, List.set_set]
theorem wipe_idem {σ : L2.St} : ∀ vs : List Nat, wipe (wipe σ vs) vs = wipe σ vs := by
  intro vs
  apply List.ext_getElem?
  intro j
  have hout : ∀ (vs : List Nat) (σ : L2.St), j ∉ vs → (wipe σ vs)[j]? = σ[j]? := by
    intro vs
    induction vs with
    | nil => intro σ _; rfl
    | cons w vs ih =>
      intro σ hn
      have h1 : w ≠ j := fun z => hn (by rw [z]; exact List.mem_cons_self)
      unfold wipe
      rw [List.getElem?_set_ne h1, ih σ fun z => hn (List.mem_cons_of_mem _ z)]
  have hin : ∀ (vs : List Nat) (σ : L2.St), j ∈ vs → (wipe σ vs)[j]? = if j < σ.length then some none else none := by
    intro vs
    induction vs with
    | nil => intro σ h; simp at h
    | cons w vs ih =>
      intro σ h
      unfold wipe
      by_cases e : w = j
      · subst e
        rw [List.getElem?_set]
        simp [wipe_length]
      · rw [List.getElem?_set_ne e]
        exact ih σ ((List.mem_cons.mp h).resolve_left fun z => e z.symm)
  by_cases h : j ∈ vs
  · rw [hin vs _ h, hin vs _ h, wipe_length]
  · rw [hout vs _ h]
/-- a target in a comprehension: only the slots vs are stored -/
def gW (B : Tb) (vs : List Nat) (t : TG) : L2.TG := fun v σV H Q => ∃ (ρ : List Addr) (σ : Sl) (d : D), RelL B H ρ σ σV ∧ RelD B H ρ d v ∧ xTg t d σ fun σ' => ∀ σV', RelL B H ρ σ' σV' → wipe σV' vs = wipe σV vs → Q σV' H
def gWs (B : Tb) (vs : List Nat) (ts : List TG) : TGs := fun ws σV H Q => ∃ (ρ : List Addr) (σ : Sl) (ds : List D), RelL B H ρ σ σV ∧ RelDs B H ρ ds ws ∧ xTgs ts ds σ fun σ' => ∀ σV', RelL B H ρ σ' σV' → wipe σV' vs = wipe σV vs → Q σV' H
theorem pgw_nm {e : Expr} {i : Nat} {vs : List Nat} (hi : i ∈ vs) (h : PG X e (gName i)) : PG X e (gW B vs (.nm i)) := PG.imp h fun v σV H Q ⟨ρ, σ, d, L, r, q⟩ => q _ (L.set r i) (wipe_set hi)
theorem pgws_nl {vs : List Nat} : PGs X [] (gWs B vs []) := PGs.imp pgs_nil fun ws σV H Q ⟨ρ, σ, ds, L, r, q⟩ => by
  cases ds with
  | nil => exact ⟨r, q _ L rfl⟩
  | cons d ds => exact (show False from q).elim
theorem pgws_cn {e : Expr} {es : List Expr} {t : TG} {ts : List TG} {vs : List Nat} (h1 : PG X e (gW B vs t)) (h2 : PGs X es (gWs B vs ts)) (hs : (assignEach (e :: es) X.env).map (·.2) = assign e X.env :: (assignEach es X.env).map (·.2)) : PGs X (e :: es) (gWs B vs (t :: ts)) :=
  PGs.imp (pgs_cons h1 h2 hs) fun ws σV H Q ⟨ρ, σ, ds, L, r, q⟩ => by
    cases ds with
    | nil => exact (show False from q).elim
    | cons d ds =>
      obtain ⟨v, rr, rfl, r1, r2⟩ := r
      exact ⟨v, rr, rfl, ρ, σ, d, L, r1, xTg_mono t (fun σ' h σV' L' ew => ⟨ρ, σ', ds, L', r2, xTgs_mono ts (fun σ2 h σV2 L2 ew2 => h σV2 L2 (ew2.trans ew)) h⟩) q⟩
theorem lenTg : (∀ (t : TG) (d : D) (σ : Sl) (Q : Sl → Prop), xTg t d σ Q → ∃ σ', Q σ') := by
  intro t
  refine TG.rec (motive_1 := fun t => ∀ (d : D) (σ : Sl) (Q : Sl → Prop), xTg t d σ Q → ∃ σ', Q σ') (motive_2 := fun ts => ∀ (ds : List D) (σ : Sl) (Q : Sl → Prop), xTgs ts ds σ Q → ∃ σ', Q σ') ?_ ?_ ?_ ?_ t
  · intro i d σ Q q; exact ⟨_, q⟩
  · intro ts ih d σ Q q
    cases d <;> first | exact ih _ σ Q q | exact (show False from q).elim
  · intro ds σ Q q
    cases ds with
    | nil => exact ⟨_, q⟩
    | cons _ _ => exact (show False from q).elim
  · intro t ts ih1 ih2 ds σ Q q
    cases ds with
    | nil => exact (show False from q).elim
    | cons d ds =>
      obtain ⟨σ', h⟩ := ih1 d σ _ q
      exact ih2 ds σ' Q h
theorem lenTgs : ∀ (ts : List TG) (xs : List D) (σ : Sl) (Q : Sl → Prop), xTgs ts xs σ Q → ts.length = xs.length
  | [], [], _, _, _ => rfl
  | [], _ :: _, _, _, q => (show False from q).elim
  | _ :: _, [], _, _, q => (show False from q).elim
  | t :: ts, x :: xs, σ, Q, q => by
    obtain ⟨σ', h⟩ := lenTg t x σ _ q
    rw [List.length_cons, List.length_cons, lenTgs ts xs σ' Q h]
theorem pgw_tp {es : List Expr} {k : Nat} {ts : List TG} {vs : List Nat} {pos : Pos} (hc : X.calm = true) (hK : B.K = X.K) (h : PGs X es (gWs B vs ts)) (hl : ts.length = es.length) (hn : (assignEach es X.env).length = es.length) (hst : (assignEach es X.env).findIdx? (·.1) = none) :
    PG X (.Tuple es k pos) (gW B vs (.tp ts)) := PG.imp (pg_tup hc h hn hst) fun v σV H Q ⟨ρ, σ, d, L, r, q⟩ => by
  cases d <;> try exact (show False from q).elim
  rename_i xs
  have q : xTgs ts xs σ fun σ' => ∀ σV', RelL B H ρ σ' σV' → wipe σV' vs = wipe σV vs → Q σV' H := q
  obtain ⟨a, vs, rfl, sq, z, d⟩ := r
  exact ⟨a, vs, rfl, hK ▸ sq, by rw [← d.length, ← lenTgs _ _ _ _ q, hl], ρ, σ, xs, L, d, q⟩
/-- a clause's tests -/
def tTi (B : Tb) (m : Sl → Sto → (Bool → Sto → Prop) → Prop) : TT := fun σV H Q => ∃ (ρ : List Addr) (σ : Sl) (s : Sto), RelL B H ρ σ σV ∧ RelS B H ρ s ∧ m σ s (LiftB B H ρ Q)
theorem PTs.imp {es : List Expr} {t t' : TT} (h : PTs X es t) (i : ∀ σ H Q, t' σ H Q → t σ H Q) : PTs X es t' := ⟨fun pins s σ H Q I q => h.run pins s σ H Q I (i σ H Q q)⟩
abbrev W0 : WQ := fun _ _ _ _ _ _ => False
theorem pts_nl : PTs X [] (tTi B fun σ s K => K true s) := PTs.imp pts_nil fun σV H Q ⟨ρ, σ, s, L, S, q⟩ => q.here S
theorem pts_on {c : Expr} {m : SE} (M : MonoSE m) (h : PT X c (tT B W0 m)) : PTs X [c] (tTi B fun σ s K => m σ s (fun x s1 => br (tru s1 x) (K true s1) (K false s1)) (fun _ _ _ => False)) :=
  PTs.imp (pts_one h) fun σV H Q ⟨ρ, σ, s, L, S, q⟩ => ⟨ρ, σ, s, L, S, M _ _ _ _ _ _ (fun x s1 q => by
    obtain ⟨c, e, q⟩ := br_cases q
    rw [e]
    cases c with
    | true => rw [if_pos rfl] at q; exact q
    | false => rw [if_neg Bool.false_ne_true] at q; exact q) (fun _ _ _ h => h.elim) q⟩
theorem RelL.wipeB {H : Hp} {ρ : List Addr} {σ : Sl} {σV : L2.St} (L : RelL B H ρ σ σV) (vs : List Nat) : RelL B H ρ (wipeS σ vs) (L2.wipe σV vs) := L.wipe vs
theorem lc_of {J : It} {tg : TG} {o : WK} {items : List D} {vs : List Nat} {mt : Sl → Sto → (Bool → Sto → Prop) → Prop} {me : SE} {K : Sto → Prop} {Q : VK} {H1 : Hp} {ρ1 : List Addr} {σ1 : Sl} {s1 : Sto} {σV1 : L2.St} {Dn : Addr}
    (Mt : ∀ σ s K K', (∀ b s, K b s → K' b s) → mt σ s K → mt σ s K') (Me : MonoSE me) (V : Srv B J H1 ρ1 items o) (L1 : RelL B H1 ρ1 σ1 σV1) (S1 : RelS B H1 ρ1 s1) (hD : H1 Dn = none)
    (hK : ∀ ρ2 H2 s2, ρ1 <+: ρ2 → Keep H1 H2 → RelS B H2 ρ2 s2 → ρ2[s1.length]? = some Dn → K s2 → Q (.ref Dn) H2)
    (q : lcGo tg o items s1.length mt (fun σ' s' K => me σ' s' K (fun _ _ _ => False)) vs σ1 items (s1 ++ [.lst []]) K) :
    ∃ W' : Nat → Nat → Hp → Prop, (∃ m, W' 0 m (upd H1 Dn (.lst []))) ∧ ∀ i m H, W' i m H → (J.stop i H ∧ Q (.ref Dn) H) ∨ (J.go i H ∧ ∃ Nx : Hp → Prop, (∀ H', Nx H' → ∃ m', m' < m ∧ W' (i + 1) m' H') ∧
      ∀ x H', J.yld i H x H' → gW B vs tg x (wipe σV1 vs) H' fun σ2 H2 => wipe σ2 vs = wipe σV1 vs ∧ tTi B mt σ2 H2 fun b H3 =>
        if b = true then tO B W0 me σ2 H3 fun y H4 => ∃ acc, H4 Dn = some (.lst acc) ∧ acc.length < sizeLine ∧ Nx (upd H4 Dn (.lst (acc ++ [y]))) else Nx H3) := by
  have kD : Keep H1 (upd H1 Dn (.lst [])) := .new hD
  have pD : ρ1 <+: ρ1 ++ [Dn] := List.prefix_append _ _
  have eD : (ρ1 ++ [Dn])[s1.length]? = some Dn := by
    rw [← S1.len, List.getElem?_append_right (Nat.le_refl _), Nat.sub_self]
    rfl
  have S0 : RelS B (upd H1 Dn (.lst [])) (ρ1 ++ [Dn]) (s1 ++ [Ob.lst []]) := S1.push hD (show RelO B _ _ _ (Ob.lst []) from ⟨_, upd_same, [], rfl, rfl⟩)
  refine ⟨fun i m H2 => m = items.length - i ∧ i ≤ items.length ∧ ∃ ρ2 s2, (ρ1 ++ [Dn]) <+: ρ2 ∧ Keep H1 H2 ∧ RelL B H2 ρ2 σ1 σV1 ∧ RelS B H2 ρ2 s2 ∧ lcGo tg o items s1.length mt (fun σ' s' K => me σ' s' K (fun _ _ _ => False)) vs σ1 (items.drop i) s2 K,
    ⟨_, rfl, Nat.zero_le _, ρ1 ++ [Dn], s1 ++ [Ob.lst []], List.prefix_refl _, kD, L1.mono pD kD, S0, q⟩, ?_⟩
  rintro i m H2 ⟨rfl, hi, ρ2, s2, p2, k2, L2, S2, q⟩
  have p1 := pD.trans p2
  have e2 : ρ2[s1.length]? = some Dn := pre_get p2 eD
  by_cases hlt : i < items.length
  · rw [List.drop_eq_getElem_cons hlt] at q
    obtain ⟨c, q⟩ := q
    refine .inr ⟨V.go i H2 ρ2 s2 p1 k2 S2 c hlt, fun H' => ∃ ρ3 s3, (ρ1 ++ [Dn]) <+: ρ3 ∧ Keep H1 H' ∧ RelL B H' ρ3 σ1 σV1 ∧ RelS B H' ρ3 s3 ∧ lcGo tg o items s1.length mt (fun σ' s' K => me σ' s' K (fun _ _ _ => False)) vs σ1 (items.drop (i + 1)) s3 K,
      fun H' h => ⟨items.length - (i + 1), by omega, rfl, hlt, h⟩, fun x H' y => ?_⟩
    obtain ⟨d, hd, S3, k3, r⟩ := V.yld i H2 ρ2 s2 x H' p1 k2 S2 c hlt y
    have e : items[i] = d := Option.some.inj ((List.getElem?_eq_getElem hlt).symm.trans hd)
    rw [e] at q
    have L3 := L2.mono (List.prefix_refl _) k3
    refine ⟨ρ2, wipeS σ1 vs, d, L3.wipe vs, r, xTg_mono tg (fun σ' h σV' L' ew => ⟨ew.trans (wipe_idem vs), ρ2, σ', s2, L', S3, Mt _ _ _ _ (fun b s4 h ρ4 H4 p4 k4 S4 => ?_) h⟩) q⟩
    have K4 := (k2.trans k3).trans k4
    cases b with
    | false =>
      dsimp only at h ⊢
      rw [if_neg Bool.false_ne_true] at h ⊢
      exact ⟨ρ4, s4, p2.trans p4, K4, L3.mono p4 k4, S4, h⟩
    | true =>
      dsimp only at h ⊢
      rw [if_pos rfl] at h ⊢
      refine ⟨ρ4, σ', s4, L'.mono p4 k4, S4, Me _ _ _ _ _ _ (fun y5 s5 h ρ5 H5 v5 p5 k5 r5 S5 => ?_) (fun _ _ _ h => h.elim) h⟩
      split at h
      · rename_i acc hs
        have e5 : ρ5[s1.length]? = some Dn := pre_get (p4.trans p5) e2
        obtain ⟨av, g, da⟩ := S5.lstOf e5 hs
        have k6 : Keep H5 (upd H5 Dn (.lst (av ++ [v5]))) := .lst g
        exact ⟨av, g, by rw [← da.length]; exact h.1, ρ5, _, (p2.trans p4).trans p5, (K4.trans k5).trans k6, ((L3.mono p4 k4).mono p5 k5).mono (List.prefix_refl _) k6, S5.setL e5 hs g (da.append (rel_one r5)), h.2⟩
      · exact h.elim
  · have e : i = items.length := by omega
    subst e
    rw [List.drop_length] at q
    exact .inl ⟨V.stop H2 ρ2 s2 p1 k2 S2 q.1, hK ρ2 H2 s2 p1 k2 S2 e2 q.2⟩
theorem lc_imp {tg : TG} {ik : IK} {m : SA} {vs : List Nat} {mt : Sl → Sto → (Bool → Sto → Prop) → Prop} {me : SE} (M : MonoSA m) (Mt : ∀ σ s K K', (∀ b s, K b s → K' b s) → mt σ s K → mt σ s K') (Me : MonoSE me) {σV : L2.St} {H : Hp} {Q : VK}
    (h : tO B W (fun σ s Q E => m σ s (fun ds s1 => xIt ik ds s1 fun items o => lcGo tg o items s1.length mt (fun σ' s' K => me σ' s' K (fun _ _ _ => False)) vs σ items (s1 ++ [.lst []]) fun s' => Q (.ref s1.length) s') E) σV H Q) :
    tLc (tIt B W m ik) (gW B vs tg) (tTi B mt) (tO B W0 me) vs σV H Q := by
  obtain ⟨ρ, σ, s, L, S, q⟩ := h
  refine ⟨ρ, σ, s, L, S, M _ _ _ _ _ _ (fun ds s1 h => xIt_mono ik ds (fun items o q ρ1 H1 J p1 k1 S1 V Dn hD => ?_) h) (fun _ _ _ h => h) q⟩
  exact lc_of Mt Me V (L.mono p1 k1) S1 hD (fun ρ2 H2 s2 p2 k2 S2 e2 h => h ρ2 H2 (.ref Dn) (p1.trans p2) (k1.trans k2) ⟨Dn, rfl, e2⟩ S2) q
end
end PX

/-! PX: objects and their methods, dict comprehensions, more that is walked. -/
namespace PX
open PySem PySem.Spec PyProof.Rows L2
section
variable {X : Cx} {B : Tb} {W : WQ}
/-! ### enumerate -/
theorem enumL_len : ∀ (xs : List D) (b : Int), (enumL b xs).length = xs.length
  | [], _ => rfl
  | x :: r, b => by rw [enumL, List.length_cons, List.length_cons, enumL_len r]
theorem enumL_get : ∀ (xs : List D) (b : Int) (i : Nat), (enumL b xs)[i]? = (xs[i]?).map fun x => .tup [.int (b + i), x]
  | [], _, i => by simp [enumL]
  | x :: r, b, 0 => by simp [enumL]
  | x :: r, b, i + 1 => by
    rw [enumL, List.getElem?_cons_succ, List.getElem?_cons_succ, enumL_get r (b + 1) i]
    have : b + 1 + (i : Int) = b + ((i + 1 : Nat) : Int) := by omega
    rw [this]
section
variable {H0 : Hp} {ρ0 : List Addr}
theorem srv_enum {a : Addr} {n : Nat} {xs : List D} (hK : B.K = X.K) (e : ρ0[n]? = some a) : Srv B (Ite X.K a) H0 ρ0 (enumL 0 xs) (.enu 0 n) where
  go := fun i H ρ s p k S ⟨ys, c, ey⟩ hi => by
    obtain ⟨vs, g, d⟩ := S.lstOf (pre_get p e) c
    rw [ey, enumL_len, d.length] at hi
    exact ⟨vs, vs[i]'hi, SqL.of g, List.getElem?_eq_getElem _⟩
  yld := fun i H ρ s x H' p k S ⟨ys, c, ey⟩ hi y => by
    obtain ⟨vs, g, d⟩ := S.lstOf (pre_get p e) c
    obtain ⟨T, x0, rfl, hT, rfl, hx⟩ := y
    obtain ⟨z, h1, h2⟩ := d.getV (hx vs (SqL.of g))
    have kk : Keep H (upd H T (.tup [.int (i : Nat), x0])) := .new hT
    refine ⟨.tup [.int (i : Nat), z], ?_, S.out hT, kk, T, [.int (i : Nat), x0], rfl, .inl (.inl upd_same), by show 2 ≤ sizeLine; decide, .int (i : Nat), [x0], rfl, rfl, x0, [], rfl, h2.mono (List.prefix_refl _) kk, rfl⟩
    rw [ey, enumL_get, h1]
    simp
  stop := fun H ρ s p k S ⟨ys, c, ey⟩ => by
    obtain ⟨vs, g, d⟩ := S.lstOf (pre_get p e) c
    refine ⟨vs, SqL.of g, ?_⟩
    rw [ey, enumL_len, d.length]
    exact Nat.le_refl _
end
theorem pi_en {elts : List Expr} {kk : Nat} {tpos : Pos} {iter : Expr} {m : SA} (M : MonoSA m) (hK : B.K = X.K) (h : PI X (.Tuple elts kk tpos) iter (iEnum X.K (tAr B W m))) : PI X (.Tuple elts kk tpos) iter (tIt B W m .enum) := PI.imp h fun σV H R ⟨ρ, σ, s, L, S, q⟩ =>
  ⟨ρ, σ, s, L, S, M _ _ _ _ _ _ (fun ds s1 q ρ1 H1 vs p1 k1 rs S1 => by
    unfold xIt at q
    split at q <;> rename_i e1 <;> try cases e1
    · rename_i n
      split at q
      · rename_i xs hs
        obtain ⟨w, rfl, r⟩ := rel1 rs
        obtain ⟨a, rfl, e⟩ := r
        obtain ⟨ws, g, d⟩ := S1.lstOf e hs
        exact ⟨a, ws, rfl, SqL.of g, q ρ1 H1 (Ite X.K a) p1 k1 S1 (srv_enum hK e)⟩
      · exact q.elim
    all_goals exact q.elim) (fun _ _ _ h => h) q⟩
/-! ### fields -/
structure ClsOk (B : Tb) (K : PySem.W.Frag) (nf : Nat) : Prop where
  nm : NmOk B
  cls : ∀ c C, B.cl c = some C → Cls K C
  no : ∀ c C f x, B.cl c = some C → f < nf → B.at_[f]? = some x → NoAttr K C x
theorem insOf_eq {s : Sto} {x : D} {n c : Nat} {fs : List (Nat × D)} (h : insOf s x = some (n, c, fs)) : x = .ref n ∧ s[n]? = some (.ins c fs) := by
  cases x <;> simp only [insOf] at h <;> try cases h
  split at h
  · rename_i hs
    cases h
    exact ⟨rfl, hs⟩
  · cases h
theorem pe_fl {e : Expr} {x : Str} {f nf : Nat} {pos : Pos} {m : SE} (M : MonoSE m) (O : ClsOk B X.K nf) (hf : f < nf) (hx : B.at_[f]? = some x) (he : PE X e (tO B W m)) (hb : attributeBase e x X.env (eval e X.env) = eval e X.env) :
    PE X (.Attribute e x pos) (tO B W fun σ s Q E => m σ s (fun d s1 => xFld d f s1 Q) E) :=
  PE.imp (pe_fld he hb) fun σ H Q ⟨ρ, σ', s, L, S, q⟩ => ⟨ρ, σ', s, L, S, M _ _ _ _ _ _ (fun d s1 q ρ1 H1 v p1 k1 r S1 => by
    unfold xFld at q
    split at q
    · rename_i n c fs hi
      split at q
      · rename_i w hw
        obtain ⟨rfl, hs⟩ := insOf_eq hi
        obtain ⟨a, rfl, e⟩ := r
        obtain ⟨C, dx, l, hc, g, rf⟩ := S1.insOf e hs
        obtain ⟨v, h1, h2⟩ := (RelF.get O.nm hx rf).1 _ hw
        exact ⟨a, C, dx, l, v, rfl, g, O.cls c C hc, O.no c C f x hc hf hx, h1, Lift.here (Lift.mono p1 k1 q) h2 S1⟩
      · exact q.elim
    · exact q.elim) (fun _ _ _ h => h) q⟩
theorem ps_fs {o e : Expr} {x : Str} {f nf : Nat} {p1 pos : Pos} {mo me : SE} (Mo : MonoSE mo) (Me : MonoSE me) (O : ClsOk B X.K nf) (hf : f < nf) (hx : B.at_[f]? = some x) (ho : PE X o (tO B W mo)) (he : PE X e (tO B W me)) :
    PS X (.Assign [.Attribute o x p1] e pos) (tS B W fun σ s N => me σ s (fun v s1 => mo σ s1 (fun d s2 => xFset d f v s2 fun s3 => N.nx σ s3) (fun c fs s1 => N.ex c fs σ s1)) (fun c fs s1 => N.ex c fs σ s1)) :=
  PS.imp (ps_fld ho he (by cases e <;> rfl)) fun N σV H ⟨ρ, σ, s, L, S, q⟩ => ⟨ρ, σ, s, L, S, Me _ _ _ _ _ _ (fun dv s1 q ρ1 H1 vv p1 k1 rv S1 =>
    ⟨ρ1, σ, s1, L.mono p1 k1, S1, Mo _ _ _ _ _ _ (fun dx s2 q ρ2 H2 vx p2 k2 rx S2 => by
      unfold xFset at q
      split at q
      · rename_i n c fs hi
        obtain ⟨rfl, hs⟩ := insOf_eq hi
        obtain ⟨a, rfl, e⟩ := rx
        obtain ⟨C, dxx, l, hc, g, rf⟩ := S2.insOf e hs
        have hU : RelU B H2 ρ2 (.ins c fs) (.ins C dxx l) := ⟨C, dxx, l, hc, rfl, rf⟩
        have kk : Keep H2 (upd H2 a (.ins C dxx (putF x vv l))) := hU.keep rfl g
        refine ⟨a, C, dxx, l, rfl, g, O.cls c C hc, O.no c C f x hc hf hx, by rw [← rf.length]; exact q.1, ?_⟩
        exact q.2 ρ2 _ σV (p1.trans p2) ((k1.trans k2).trans kk) (L.mono (p1.trans p2) ((k1.trans k2).trans kk)) (S2.setO rfl e hs g hU ⟨C, dxx, _, hc, rfl, RelF.put O.nm hx (rv.mono p2 k2) rf⟩)
      · exact q.elim) (fun _ _ _ h => LiftX.mono p1 k1 (ex_of L h)) q⟩) (fun _ _ _ h => ex_of L h) q⟩
/-- in place, ints -/
def rIp (op : Operator) : V → V → Hp → VK → Prop := match op with
  | .Add => rAdd
  | .Sub => rSub
  | _ => fun _ _ _ _ => False
theorem in_ip {op : Operator} (h : op = .Add ∨ op = .Sub) : InOp X op (rIp op) := by
  rcases h with rfl | rfl
  · exact in_add
  · exact in_sub
def faG (mo me : SE) (f : Nat) (op : Operator) : SS := fun σ s N => mo σ s (fun x s1 => xFa1 x f s1 fun n c v => me σ s1 (fun y s2 => xFa2 op n c f v y s2 fun s3 => N.nx σ s3) (fun c fs s1 => N.ex c fs σ s1)) (fun c fs s1 => N.ex c fs σ s1)
theorem ps_fa {o e : Expr} {x : Str} {f nf : Nat} {op : Operator} {p1 pos : Pos} {mo me : SE} (Mo : MonoSE mo) (Me : MonoSE me) (O : ClsOk B X.K nf) (hf : f < nf) (hx : B.at_[f]? = some x) (hop : op = .Add ∨ op = .Sub) (ho : PE X o (tO B W mo)) (he : PE X e (tO B W me)) :
    PS X (.AugAssign (.Attribute o x p1) op e pos) (tS B W (faG mo me f op)) :=
  PS.imp (ps_fldaug ho he (in_ip hop)) fun N σV H ⟨ρ, σ, s, L, S, q⟩ => by
  unfold faG at q
  refine ⟨ρ, σ, s, L, S, Mo _ _ _ _ _ _ (fun d s1 q ρ1 H1 v p1 k1 r S1 => ?_) (fun _ _ _ h => ex_of L h) q⟩
  unfold xFa1 at q
  split at q
  · rename_i n c fs hi
    split at q
    · rename_i w hw
      obtain ⟨rfl, hs⟩ := insOf_eq hi
      obtain ⟨a, rfl, e⟩ := r
      obtain ⟨C, dx, l, hc, g, rf⟩ := S1.insOf e hs
      obtain ⟨v, h1, h2⟩ := (RelF.get O.nm hx rf).1 _ hw
      refine ⟨a, C, dx, l, v, rfl, g, O.cls c C hc, O.no c C f x hc hf hx, h1, ρ1, σ, s1, L.mono p1 k1, S1, Me _ _ _ _ _ _ (fun y s2 q2 ρ2 H2 vy p2 k2 ry S2 => ?_) (fun _ _ _ h => LiftX.mono p1 k1 (ex_of L h)) q⟩
      have fin : ∀ (z : Int), (match s2[n]? with
              | some (.ins c' fs') => c' = c ∧ fs'.length < 1000 ∧ (LiftN B H ρ W N).nx σ (s2.set n (.ins c (fPut fs' f (.int z))))
              | _ => False) → ∃ dx' fs', H2 a = some (.ins C dx' fs') ∧ fs'.length < 1000 ∧ N.nx σV (upd H2 a (.ins C dx' (putF x (.int z) fs'))) := fun z q => by
        split at q
        · rename_i c' fs' hs2
          obtain ⟨rfl, hl, q⟩ := q
          have e2 := pre_get p2 e
          obtain ⟨C', dx', l', hc', g', rf'⟩ := S2.insOf e2 hs2
          rw [hc] at hc'
          cases hc'
          have hU : RelU B H2 ρ2 (.ins c' fs') (.ins C dx' l') := ⟨C, dx', l', hc, rfl, rf'⟩
          have kk : Keep H2 (upd H2 a (.ins C dx' (putF x (.int z) l'))) := hU.keep rfl g'
          refine ⟨dx', l', g', by rw [← rf'.length]; exact hl, ?_⟩
          exact q ρ2 _ σV (p1.trans p2) ((k1.trans k2).trans kk) (L.mono (p1.trans p2) ((k1.trans k2).trans kk)) (S2.setO rfl e2 hs2 g' hU ⟨C, dx', _, hc, rfl, RelF.put (d := .int z) (v := .int z) O.nm hx rfl rf'⟩)
        · exact q.elim
      unfold xFa2 at q2
      cases w <;> cases y <;> dsimp only at q2 <;> try exact q2.elim
      case int.int i j =>
        cases int_of h2
        cases int_of ry
        rcases hop with rfl | rfl
        · exact ⟨i, j, rfl, rfl, fin _ q2⟩
        · exact ⟨i, j, rfl, rfl, fin _ q2⟩
    · exact q.elim
  · exact q.elim
/-! ### calls of classes and of methods -/
theorem run_makeSD {CX : CXT} {k : Nat} {f C : Addr} {fd : FuncData} {ps : List Str} {sp : Sp} {E : L2.St → XK} {pins : List (Addr × Obj)} {σ : L2.St} {H : Hp} {s : Shared} {Q : VK} {us : List Value} {vs : List V} (M : Mk X.K C f) (F : FnOk X.prog X.w X.K X.mg X.base CX k f fd ps sp) (hr : Room (k + 1) X.A) (hb : Binds X.K fd ps [])
    (hx : PassesAt CX X σ (E σ)) (I : Inv X pins σ H s) (r : Vals vs us)
    (h : ∀ x dx, H x = none → H dx = none → dx ≠ x → sp (.ref x :: vs) (upd (upd H dx (.own x)) x (.ins C dx [])) (fun v H2 => v = .non ∧ Q (.ref x) H2) (E σ)) :
    wpAny (model X.prog X.w) X.A (call (.ref C) us) (EP X pins σ Q) X.xe s := by
  have hq := h (s.heap.objs.size + 1) s.heap.objs.size (I.hok.fresh (Nat.le_succ _)) (I.hok.fresh (Nat.le_refl _)) (Nat.ne_of_lt (Nat.lt_succ_self _))
  have I2 := Inv.made (C := C) I
  have r2 : Vals (V.ref (s.heap.objs.size + 1) :: vs) (Value.ref (s.heap.objs.size + 1) :: us) := .cons rfl r
  have hl : (Value.ref (s.heap.objs.size + 1) :: us ++ ([] : List Value)).length = ps.length := by
    have e := r2.length
    rw [F.len _ _ _ _ hq] at e
    rw [List.append_nil]
    exact e.symm
  have hbt := hb _ (Value.ref (s.heap.objs.size + 1) :: us) I2.kIn hl
  rw [List.append_nil] at hbt
  refine wpAny_call (make_map (f := f) I.kIn M.makes M.init (beq_iff_eq.mp M.fn) (codeAny_mono (F.run _ X.stack _ _ ⟨Value.ref (s.heap.objs.size + 1) :: us, []⟩ (Value.ref (s.heap.objs.size + 1) :: us) _ _ (E σ) (hr.make C us [])
    (I2.env0.make C us []) hbt r2 hq) fun r s' hq' => ?_))
  cases r with
  | error e => exact hx pins _ _ e s' I2 hq'
  | ok fl =>
    cases fl with
    | ret u =>
      obtain ⟨v, H', I3, rv, ev, q3⟩ := I2.after hq'
      subst ev
      exact ⟨rv, ⟨V.ref (s.heap.objs.size + 1), H', I3, rfl, q3⟩⟩
    | next => exact False.elim hq'
    | brk => exact False.elim hq'
    | cont => exact False.elim hq'
def tMakeSD (C : Addr) (sp : Sp) (E : L2.St → XK) (t : TA) : L2.TE := fun σ H Q => t σ H fun vs H1 => ∀ x dx, H1 x = none → H1 dx = none → dx ≠ x →
  sp (.ref x :: vs) (upd (upd H1 dx (.own x)) x (.ins C dx [])) (fun v H2 => v = .non ∧ Q (.ref x) H2) (E σ)
section
variable {CX : CXT} {k : Nat} {f C : Addr} {fd : FuncData} {ps : List Str} {sp : Sp} {E : L2.St → XK} {x m : Str} {p pos apos : Pos} {e o : Expr} {es : List Expr} {ta : L2.TE} {t : TA}
theorem pe_makeSD (M : Mk X.K C f) (F : FnOk X.prog X.w X.K X.mg X.base CX k f fd ps sp) (hr : Room (k + 1) X.A) (hg : Gl X x) (hm : X.mg x = some (.ref C)) (hb : Binds X.K fd ps []) (hx : ∀ σ, PassesAt CX X σ (E σ))
    (ha : PA X (e :: es) t) (hdb : (x == ("__debug__" : Str)) = false) (he : starEach (e :: es) X.env = (false, eval e X.env) :: starEach es X.env) (hpl : (backTo pos (starEach es X.env)).any (·.1) = false) :
    PE X (.Call (.Name x p) (e :: es) [] pos) (tMakeSD C sp E t) := by
  refine ⟨fun pins s σ H Q I h => ?_⟩
  refine wpAny_Call_Name_kw (ld_glob I hg hm ?_ hdb)
  refine PySem.W.callWith_K (h₀ := X.base) I.ok.mod.kin M.kp (thn (ha.run pos pins s σ H _ I h) fun us s1 ⟨vs, H1, I1, r, q⟩ => ⟨I1.kIn, ?_⟩) he hpl
  exact run_makeSD M F hr hb (hx σ) I1 r q
theorem pe_makeSD0 (M : Mk X.K C f) (F : FnOk X.prog X.w X.K X.mg X.base CX k f fd ps sp) (hr : Room (k + 1) X.A) (hg : Gl X x) (hm : X.mg x = some (.ref C)) (hb : Binds X.K fd ps []) (hx : ∀ σ, PassesAt CX X σ (E σ))
    (hdb : (x == ("__debug__" : Str)) = false) : PE X (.Call (.Name x p) [] [] pos) (tMakeSD C sp E tNil) := by
  refine ⟨fun pins s σ H Q I h => ?_⟩
  refine wpAny_Call_Name_kw (ld_glob I hg hm ?_ hdb)
  exact PySem.W.callWith_K0 I.kIn M.kp (run_makeSD (us := []) M F hr hb (hx σ) I .nil h)
theorem meth_eq {args : List Expr} {env : Env} (hbase : attributeBase o m env (eval o env) = eval o env)
    (hfew : ((backTo pos (starEach args env)).all (fun x => !x.1) && (backToKw pos (keywordEach [] env)).all (fun x => x.1.isSome)
      && decide (args.length + ([] : List Keyword).length + (if ([] : List Keyword).isEmpty then 0 else 1) < 30)) = true) (hline : (apos.endLine == pos.line) = true) :
    ∃ pl, eval (.Call (.Attribute o m apos) args [] pos) env = (do
      let ov ← eval o env
      standAt apos.atName
      let (f, first) ← holding [ov] (getMethod ov m pl)
      callWith pos f first (backTo pos (starEach args env)) (backToKw pos (keywordEach [] env))) := by
  refine ⟨(do return (← importBound o env).getD true), ?_⟩
  rw [arm_eval_Call, hbase]
  have hform : methodCallForm (args.length + ([] : List Keyword).length) (backTo pos (starEach args env)) (backToKw pos (keywordEach [] env)) = true := hfew
  unfold methodCall calleeOf methodCallPos
  simp only [hform, hline, if_true, Bool.not_true, Bool.or_true]
  rfl
/-- o.m(..), the class told by the heap -/
def tMethD (X : Cx) (CX : CXT) (k : Nat) (E : L2.St → XK) (ta : L2.TE) (m : Str) (t : TA) : L2.TE := fun σ H Q => ta σ H fun x H1 => ∃ (a C dx : Addr) (fs : List (Str × V)) (f : Addr) (fd : FuncData) (ps : List Str) (sp : Sp), x = .ref a ∧ H1 a = some (.ins C dx fs) ∧ fs.lookup m = none ∧
  Cls X.K C ∧ Meth X.K C m f ∧ FnOk X.prog X.w X.K X.mg X.base CX k f fd ps sp ∧ Binds X.K fd ps [] ∧ t σ H1 fun vs H2 => sp (x :: vs) H2 Q (E σ)
theorem pe_methD (he : PE X o ta) (hr : Room k X.A) (hx : ∀ σ, PassesAt CX X σ (E σ)) (ha : PA X (e :: es) t)
    (hbase : attributeBase o m X.env (eval o X.env) = eval o X.env)
    (hfew : ((backTo pos (starEach (e :: es) X.env)).all (fun x => !x.1) && (backToKw pos (keywordEach [] X.env)).all (fun x => x.1.isSome)
      && decide ((e :: es).length + ([] : List Keyword).length + (if ([] : List Keyword).isEmpty then 0 else 1) < 30)) = true) (hline : (apos.endLine == pos.line) = true)
    (hst : starEach (e :: es) X.env = (false, eval e X.env) :: starEach es X.env) (hpl : (backTo pos (starEach es X.env)).any (·.1) = false) :
    PE X (.Call (.Attribute o m apos) (e :: es) [] pos) (tMethD X CX k E ta m t) := by
  obtain ⟨pl, ht⟩ := meth_eq hbase hfew hline
  refine ⟨fun pins s σ H Q I h => ?_⟩
  refine PySem.W.methodCall_KW (pl := pl) (thn (he.run pins s σ H _ I h) fun u s1 ⟨x, H1, I1, rx, a, C, dx, fs, f, fd, ps, sp, ex, ea, l, c, hm, F, hb, q⟩ => ?_) ht
  subst ex
  obtain rfl : u = Value.ref a := rx
  refine getmeth_ok I1 ea c hm l ?_
  refine PySem.W.callWith_K (first := [.ref a]) (h₀ := X.base) I.ok.mod.kin hm.kp (thn (ha.run pos pins s1 σ H1 _ I1 q) fun us s2 ⟨vs, H2, I2, r, q2⟩ => ⟨I2.kIn, ?_⟩) hst hpl
  exact run_fnSD (dvs := []) (ds := []) (us := .ref a :: us) (vs := .ref a :: vs) F hr hb .nil (hx σ) I2 (.cons rfl r) (by rw [List.append_nil]; exact q2)
theorem pe_methD0 (he : PE X o ta) (hr : Room k X.A) (hx : ∀ σ, PassesAt CX X σ (E σ))
    (hbase : attributeBase o m X.env (eval o X.env) = eval o X.env) (hline : (apos.endLine == pos.line) = true) :
    PE X (.Call (.Attribute o m apos) [] [] pos) (tMethD X CX k E ta m tNil) := by
  obtain ⟨pl, ht⟩ := meth_eq (args := []) (o := o) (m := m) (apos := apos) (pos := pos) (env := X.env) hbase (by rfl) hline
  refine ⟨fun pins s σ H Q I h => ?_⟩
  refine PySem.W.methodCall_KW (pl := pl) (thn (he.run pins s σ H _ I h) fun u s1 ⟨x, H1, I1, rx, a, C, dx, fs, f, fd, ps, sp, ex, ea, l, c, hm, F, hb, q⟩ => ?_) ht
  subst ex
  obtain rfl : u = Value.ref a := rx
  refine getmeth_ok I1 ea c hm l ?_
  have q : sp (.ref a :: []) H1 Q (E σ) := q
  exact PySem.W.callWith_K0 (first := [.ref a]) I1.kIn hm.kp (run_fnSD (dvs := []) (ds := []) (us := [.ref a]) (vs := [.ref a]) F hr hb .nil (hx σ) I1 (.cons rfl .nil) q)
end
/-! ### dict comprehensions -/
theorem dc_of {J : It} {tg : TG} {o : WK} {items : List D} {vs : List Nat} {mt : Sl → Sto → (Bool → Sto → Prop) → Prop} {mk' me : SE} {K : Sto → Prop} {Q : VK} {H1 : Hp} {ρ1 : List Addr} {σ1 : Sl} {s1 : Sto} {σV1 : L2.St} {Dn : Addr}
    (Mt : ∀ σ s K K', (∀ b s, K b s → K' b s) → mt σ s K → mt σ s K') (Mk' : MonoSE mk') (Me : MonoSE me) (V : Srv B J H1 ρ1 items o) (L1 : RelL B H1 ρ1 σ1 σV1) (S1 : RelS B H1 ρ1 s1) (hD : H1 Dn = none)
    (hK : ∀ ρ2 H2 s2, ρ1 <+: ρ2 → Keep H1 H2 → RelS B H2 ρ2 s2 → ρ2[s1.length]? = some Dn → K s2 → Q (.ref Dn) H2)
    (q : dcGo tg o items s1.length mt (fun σ' s' K => mk' σ' s' K (fun _ _ _ => False)) (fun σ' s' K => me σ' s' K (fun _ _ _ => False)) vs σ1 items (s1 ++ [.dic []]) K) :
    ∃ W' : Nat → Nat → Hp → Prop, (∃ m, W' 0 m (upd H1 Dn (.dK []))) ∧ ∀ i m H, W' i m H → (J.stop i H ∧ Q (.ref Dn) H) ∨ (J.go i H ∧ ∃ Nx : Hp → Prop, (∀ H', Nx H' → ∃ m', m' < m ∧ W' (i + 1) m' H') ∧
      ∀ x H', J.yld i H x H' → gW B vs tg x (wipe σV1 vs) H' fun σ2 H2 => wipe σ2 vs = wipe σV1 vs ∧ tTi B mt σ2 H2 fun b H3 =>
        if b = true then tO B W0 mk' σ2 H3 fun y H4 => tO B W0 me σ2 H4 fun z H5 => ∃ kvs k, y = kV k ∧ H5 Dn = some (.dK kvs) ∧ kvs.length < sizeLine ∧ Nx (upd H5 Dn (.dK (putK kvs k z))) else Nx H3) := by
  have kD : Keep H1 (upd H1 Dn (.dK [])) := .new hD
  have pD : ρ1 <+: ρ1 ++ [Dn] := List.prefix_append _ _
  have eD : (ρ1 ++ [Dn])[s1.length]? = some Dn := by
    rw [← S1.len, List.getElem?_append_right (Nat.le_refl _), Nat.sub_self]
    rfl
  have S0 : RelS B (upd H1 Dn (.dK [])) (ρ1 ++ [Dn]) (s1 ++ [Ob.dic []]) := S1.push hD (show RelO B _ _ _ (Ob.dic []) from ⟨_, upd_same, [], rfl, rfl⟩)
  refine ⟨fun i m H2 => m = items.length - i ∧ i ≤ items.length ∧ ∃ ρ2 s2, (ρ1 ++ [Dn]) <+: ρ2 ∧ Keep H1 H2 ∧ RelL B H2 ρ2 σ1 σV1 ∧ RelS B H2 ρ2 s2 ∧ dcGo tg o items s1.length mt (fun σ' s' K => mk' σ' s' K (fun _ _ _ => False)) (fun σ' s' K => me σ' s' K (fun _ _ _ => False)) vs σ1 (items.drop i) s2 K,
    ⟨_, rfl, Nat.zero_le _, ρ1 ++ [Dn], s1 ++ [Ob.dic []], List.prefix_refl _, kD, L1.mono pD kD, S0, q⟩, ?_⟩
  rintro i m H2 ⟨rfl, hi, ρ2, s2, p2, k2, L2, S2, q⟩
  have p1 := pD.trans p2
  have e2 : ρ2[s1.length]? = some Dn := pre_get p2 eD
  by_cases hlt : i < items.length
  · rw [List.drop_eq_getElem_cons hlt] at q
    obtain ⟨c, q⟩ := q
    refine .inr ⟨V.go i H2 ρ2 s2 p1 k2 S2 c hlt, fun H' => ∃ ρ3 s3, (ρ1 ++ [Dn]) <+: ρ3 ∧ Keep H1 H' ∧ RelL B H' ρ3 σ1 σV1 ∧ RelS B H' ρ3 s3 ∧ dcGo tg o items s1.length mt (fun σ' s' K => mk' σ' s' K (fun _ _ _ => False)) (fun σ' s' K => me σ' s' K (fun _ _ _ => False)) vs σ1 (items.drop (i + 1)) s3 K,
      fun H' h => ⟨items.length - (i + 1), by omega, rfl, hlt, h⟩, fun x H' y => ?_⟩
    obtain ⟨d, hd, S3, k3, r⟩ := V.yld i H2 ρ2 s2 x H' p1 k2 S2 c hlt y
    have e : items[i] = d := Option.some.inj ((List.getElem?_eq_getElem hlt).symm.trans hd)
    rw [e] at q
    have L3 := L2.mono (List.prefix_refl _) k3
    refine ⟨ρ2, wipeS σ1 vs, d, L3.wipe vs, r, xTg_mono tg (fun σ' h σV' L' ew => ⟨ew.trans (wipe_idem vs), ρ2, σ', s2, L', S3, Mt _ _ _ _ (fun b s4 h ρ4 H4 p4 k4 S4 => ?_) h⟩) q⟩
    have K4 := (k2.trans k3).trans k4
    cases b with
    | false =>
      dsimp only at h ⊢
      rw [if_neg Bool.false_ne_true] at h ⊢
      exact ⟨ρ4, s4, p2.trans p4, K4, L3.mono p4 k4, S4, h⟩
    | true =>
      dsimp only at h ⊢
      rw [if_pos rfl] at h ⊢
      refine ⟨ρ4, σ', s4, L'.mono p4 k4, S4, Mk' _ _ _ _ _ _ (fun y5 s5 h ρ5 H5 v5 p5 k5 r5 S5 => ?_) (fun _ _ _ h => h.elim) h⟩
      refine ⟨ρ5, σ', s5, (L'.mono p4 k4).mono p5 k5, S5, Me _ _ _ _ _ _ (fun y6 s6 h ρ6 H6 v6 p6 k6 r6 S6 => ?_) (fun _ _ _ h => h.elim) h⟩
      split at h
      · rename_i kvs hs
        obtain ⟨hk, hl, h⟩ := h
        have e6 : ρ6[s1.length]? = some Dn := pre_get ((p4.trans p5).trans p6) e2
        obtain ⟨l, g, rk⟩ := S6.dicOf e6 hs
        obtain ⟨k, h1, rfl⟩ := keyV_of r5 hk
        have hU : RelU B H6 ρ6 (.dic kvs) (.dK l) := ⟨l, rfl, rk⟩
        have k7 : Keep H6 (upd H6 Dn (.dK (putK l k v6))) := hU.keep rfl g
        exact ⟨l, k, rfl, g, by rw [← kv_len rk]; exact hl, ρ6, _, ((p2.trans p4).trans p5).trans p6, ((K4.trans k5).trans k6).trans k7, (((L3.mono p4 k4).mono p5 k5).mono p6 k6).mono (List.prefix_refl _) k7, S6.setO (o' := .dic (dPut kvs y5 y6)) rfl e6 hs g hU ⟨_, rfl, kv_put h1 r6 rk⟩, h⟩
      · exact h.elim
  · have e : i = items.length := by omega
    subst e
    rw [List.drop_length] at q
    exact .inl ⟨V.stop H2 ρ2 s2 p1 k2 S2 q.1, hK ρ2 H2 s2 p1 k2 S2 e2 q.2⟩
theorem dc_imp {tg : TG} {ik : IK} {m : SA} {vs : List Nat} {mt : Sl → Sto → (Bool → Sto → Prop) → Prop} {mk' me : SE} (M : MonoSA m) (Mt : ∀ σ s K K', (∀ b s, K b s → K' b s) → mt σ s K → mt σ s K') (Mk' : MonoSE mk') (Me : MonoSE me) {σV : L2.St} {H : Hp} {Q : VK}
    (h : tO B W (fun σ s Q E => m σ s (fun ds s1 => xIt ik ds s1 fun items o => dcGo tg o items s1.length mt (fun σ' s' K => mk' σ' s' K (fun _ _ _ => False)) (fun σ' s' K => me σ' s' K (fun _ _ _ => False)) vs σ items (s1 ++ [.dic []]) fun s' => Q (.ref s1.length) s') E) σV H Q) :
    tDc (tIt B W m ik) (gW B vs tg) (tTi B mt) (tO B W0 mk') (tO B W0 me) vs σV H Q := by
  obtain ⟨ρ, σ, s, L, S, q⟩ := h
  refine ⟨ρ, σ, s, L, S, M _ _ _ _ _ _ (fun ds s1 h => xIt_mono ik ds (fun items o q ρ1 H1 J p1 k1 S1 V Dn hD => ?_) h) (fun _ _ _ h => h) q⟩
  exact dc_of Mt Mk' Me V (L.mono p1 k1) S1 hD (fun ρ2 H2 s2 p2 k2 S2 e2 h => h ρ2 H2 (.ref Dn) (p1.trans p2) (k1.trans k2) ⟨Dn, rfl, e2⟩ S2) q
theorem ps_setDc {i : Nat} {y : Str} {py : Pos} {kx vx tg iter : Expr} {ifs : List Expr} {scope : Scope} {own : List (Str × Nat)} {pos spos : Pos} {wi : TI} {g : L2.TG} {tt : TT} {tk te : L2.TE} (hc : X.calm = true) (hN : X.N.Nodup) (hy : X.N[i]? = some y) (hyl : X.env.scope.names.lookup y = some .local)
    (hsw : swapsWith (.DictComp kx vx [⟨tg, iter, ifs, 0⟩] scope pos) (some (.Name y py)) spos.line X.env = pure true) (hi : PI X tg iter wi) (ok : BlkOk X.N X.env.scope scope own)
    (hg : ∀ (s : Shared) (H : Hp) (C : Addr) (cl : List (Str × Addr)) (fp : List Addr), PG (X.blk s H scope (compEnvC scope cl C X.env) fp) tg g) (ht : ∀ (s : Shared) (H : Hp) (C : Addr) (cl : List (Str × Addr)) (fp : List Addr), PTs (X.blk s H scope (compEnvC scope cl C X.env) fp) ifs tt)
    (hk : ∀ (s : Shared) (H : Hp) (C : Addr) (cl : List (Str × Addr)) (fp : List Addr), PE (X.blk s H scope (compEnvC scope cl C X.env) fp) kx tk)
    (he : ∀ (s : Shared) (H : Hp) (C : Addr) (cl : List (Str × Addr)) (fp : List Addr), PE (X.blk s H scope (compEnvC scope cl C X.env) fp) vx te) (hs : ∀ x, foldedSetIterable iter X.env x = pure x) :
    PS X (.Assign [.Name y py] (.DictComp kx vx [⟨tg, iter, ifs, 0⟩] scope pos) spos) (tAsg (tDc wi g tt tk te (own.map (·.2))) (gName i)) := by
  refine ⟨fun pins s σ H D I h => ?_⟩
  rw [exec_Assign_Name_used _ _ _ _ hsw]
  refine wpAny_bind (wpAny_standAt (wpAny_bind ?_))
  show wpAny _ X.A (do let _ ← comprehension (.DictComp kx vx [⟨tg, iter, ifs, 0⟩] scope pos) scope X.env (firstIterPos [⟨tg, iter, ifs, 0⟩] pos) newDict false (eval iter X.env) (some (assign (.Name y py) X.env))) _ _ s
  have h : tDc wi g tt tk te (own.map (·.2)) σ H (fun x H1 => gName i x σ H1 D.nx) := h
  refine wpAny_bind (thn (dc_core (Qf := fun _ s' => SP X pins D .next s') hc hN I hi ok hg ht hk he hs h fun L C s' m H' I' q hn f => ?_) fun _ s' hq => wpAny_pure (wpAny_pure hq))
  show wpAny _ _ (assign (.Name y py) X.env (.ref L)) _ _ _
  refine wpAny_assign_Name (store_ok2 (v := V.ref L) I' hN hy (.inl hyl) rfl (fun s2 I2 ⟨a, sb, ha⟩ => ?_) (.inr hyl))
  obtain ⟨f0, f1, f2, f3, f4, f5⟩ := f
  have haC : C ≠ a := by
    rcases ha with z | z
    · rw [z]; exact f1
    · exact fun e => f4 y a z e.symm
  refine ⟨m, hn.sameBut sb haC, fun h3 sb3 => ?_⟩
  exact ⟨_, H', I2.turned (t' := s2.toks) (fun b o hb e => (sb3.2 b hb).trans e) f0 f1 f3 f4 f5, q⟩
/-! ### xs[::-1] -/
theorem pe_rv {e : Expr} {k : Nat} {p1 p2 p3 pos : Pos} {m : SE} (M : MonoSE m) (hK : B.K = X.K) (he : PE X e (tO B W m)) : PE X (.Subscript e (.Slice none none (some (.UnaryOp .USub (.Constant (.int 1) k p1) p2)) p3) pos) (tO B W fun σ s Q E => m σ s (fun x s1 => xRvs x s1 Q) E) :=
  PE.imp (pe_revL he) fun σ H Q ⟨ρ, σ', s, L, S, q⟩ => ⟨ρ, σ', s, L, S, M _ _ _ _ _ _ (fun d s1 q ρ1 H1 v p1 k1 r S1 => by
    unfold xRvs at q
    split at q
    · rename_i xs hx
      obtain ⟨a, vs, rfl, sq, d⟩ := seq_list S1 r hx q.1
      exact ⟨a, vs, rfl, hK ▸ sq, fun p hp => mk_new S1 d.reverse (mk_mono (fun _ _ h => Lift.mono p1 k1 h) q.2) hp⟩
    · exact q.elim) (fun _ _ _ h => h) q⟩
/-! ### for k in d -/
theorem kv_at {H : Hp} {ρ : List Addr} : ∀ {kvs : List (D × D)} {l : List (Key × V)}, RelKV B H ρ kvs l → ∀ {i : Nat} {k : Key} {v : V}, l[i]? = some (k, v) → ∃ x d, kvs[i]? = some (x, d) ∧ keyV x = some k
  | [], l, h, i, k, v, e => by rw [show l = [] from h] at e; simp at e
  | (x, d) :: r, l, h, i, k, v, e => by
    obtain ⟨k', v', l', rfl, h1, h2, h3⟩ := h
    cases i with
    | zero => cases e; exact ⟨x, d, rfl, h1⟩
    | succ i => exact kv_at h3 (i := i) e
section
variable {H0 : Hp} {ρ0 : List Addr}
theorem srv_key {a : Addr} {n : Nat} {od : Obj} {kvs : List (D × D)} {l : List (Key × V)} (e : ρ0[n]? = some a) (h0 : H0 a = some (.frz od (.dK l))) (r : RelKV B H0 ρ0 kvs l) : Srv B (Itk a od l) H0 ρ0 (kvs.map (·.1)) (.key n kvs) where
  go := fun i H ρ s p k S c hi => by
    rw [List.length_map] at hi
    exact ⟨k.frz _ _ _ h0, by rw [← kv_len r]; exact hi⟩
  yld := fun i H ρ s x H' p k S c hi y => by
    obtain ⟨rfl, kk, v, h1, rfl⟩ := y
    obtain ⟨z, d, h2, h3⟩ := kv_at r h1
    exact ⟨z, by rw [List.getElem?_map, h2]; rfl, S, Keep.refl _, keyV_rel h3⟩
  stop := fun H ρ s p k S c => ⟨k.frz _ _ _ h0, by rw [List.length_map, kv_len r]; exact Nat.le_refl _⟩
end
/-- what stays when a dict is locked, or let go -/
theorem KeepD.dict {H : Hp} {a : Addr} {u u' : HO} (h : H a = some u) (ht : ∀ xs, u ≠ .tup xs) (h1 : ∀ o xs, u ≠ .frz o (.tup xs)) (h2 : ∀ o xs, u ≠ .frz o (.lst xs)) : KeepD H (upd H a u') :=
  ⟨fun b xs e => by rw [upd_ne (ne_of e h (ht xs).symm)]; exact e, fun b o xs e => by rw [upd_ne (ne_of e h (h1 o xs).symm)]; exact e, fun b o xs e => by rw [upd_ne (ne_of e h (h2 o xs).symm)]; exact e⟩
theorem ps_fk {tg : Expr} {x : Str} {px pos : Pos} {body : List Stmt} {t : TG} {i : Nat} {mb : SS} (hp : PassesOwn (model X.prog X.w) X.A X.env X.xe) (hc : X.calm = true) (Mb : MonoSS mb) (hv : PE X (.Name x px) (tVar i)) (hg : PG X tg (gT B t)) (hb : PSs X body (tS B W mb)) :
    PS X (.For tg (.Name x px) body [] pos) (tS B W fun σ s N => xFk σ i s fun n kvs => forGo t (.key n kvs) (kvs.map (·.1)) mb
        { nx := fun σ s => s[n]? = some (.ldic kvs) ∧ N.nx σ (s.set n (.dic kvs)), bk := fun σ s => s[n]? = some (.ldic kvs) ∧ N.bk σ (s.set n (.dic kvs)), ct := fun σ s => s[n]? = some (.ldic kvs) ∧ N.ct σ (s.set n (.dic kvs)),
          rt := fun d s => s[n]? = some (.ldic kvs) ∧ N.rt d (s.set n (.dic kvs)), ex := fun _ _ _ _ => False } (kvs.map (·.1)) σ (s.set n (.ldic kvs))) :=
  PS.imp (ps_lock (ps_for hp hc (pi_keys hv) hg hb)) fun N σV H ⟨ρ, σ, s, L, S, q⟩ => by
  unfold xFk at q
  dsimp only at q
  split at q
  · rename_i n hn
    split at q
    · rename_i kvs hs
      obtain ⟨v, h1, a, rfl, e⟩ := L.at_ i _ hn
      obtain ⟨l, g, r⟩ := S.dicOf e hs
      refine ⟨a, .dK l, g, trivial, fun od => ?_⟩
      have hU : RelU B H ρ (.dic kvs) (.dK l) := ⟨l, rfl, r⟩
      have k0 : Keep H (upd H a (.frz od (.dK l))) := hU.keep rfl g
      have S0 : RelS B (upd H a (.frz od (.dK l))) ρ (s.set n (.ldic kvs)) := S.setO (o' := .ldic kvs) rfl e hs g hU ⟨od, l, rfl, r⟩
      have L0 := L.mono (List.prefix_refl _) k0
      have V := srv_key (B := B) e (upd_same (H := H) (a := a) (o := .frz od (.dK l))) (r.mono (List.prefix_refl _) k0)
      refine ⟨.ref a, h1, a, od, rfl, .inl ⟨l, upd_same, ?_⟩⟩
      -- behind: the dict is let go
      have back : ∀ {ρ2 H2 s2}, ρ <+: ρ2 → Keep (upd H a (.frz od (.dK l))) H2 → RelS B H2 ρ2 s2 → s2[n]? = some (.ldic kvs) → H2 a = some (.frz od (.dK l)) ∧ Keep H (upd H2 a (.dK l)) ∧ KeepD H2 (upd H2 a (.dK l)) ∧ RelS B (upd H2 a (.dK l)) ρ2 (s2.set n (.dic kvs)) := fun {ρ2 H2 s2} p2 k2 S2 c => by
        have f : H2 a = some (.frz od (.dK l)) := k2.frz _ _ _ upd_same
        have kd : KeepD H2 (upd H2 a (.dK l)) := KeepD.dict f (fun xs z => by cases z) (fun o xs z => by cases z) (fun o xs z => by cases z)
        have ka : Keep H (upd H2 a (.dK l)) := ⟨fun b xs eb => by
          have nb : b ≠ a := ne_of eb g (by intro z; cases z)
          rw [upd_ne nb]
          exact k2.tup _ _ (by rw [upd_ne nb]; exact eb), fun b o u eb => by
          have nb : b ≠ a := ne_of eb g (by intro z; cases z)
          rw [upd_ne nb]
          exact k2.frz _ _ _ (by rw [upd_ne nb]; exact eb)⟩
        have e2 := pre_get p2 e
        exact ⟨f, ka, kd, S2.setK kd e2 c ⟨l, rfl, (r.mono p2 (k0.trans k2))⟩⟩
      have backL : ∀ {ρ2 H2 σ2 σV2}, KeepD H2 (upd H2 a (.dK l)) → RelL B H2 ρ2 σ2 σV2 → RelL B (upd H2 a (.dK l)) ρ2 σ2 σV2 := fun kd L2 => ⟨L2.len, fun j d ej => let ⟨v, q1, q2⟩ := L2.at_ j d ej; ⟨v, q1, q2.monoD (List.prefix_refl _) kd⟩⟩
      refine for_of (W := W) (N := ⟨fun σ' H' => H' a = some (.frz od (.dK l)) ∧ N.nx σ' (upd H' a (.dK l)), fun v H' => H' a = some (.frz od (.dK l)) ∧ N.rt v (upd H' a (.dK l)), fun σ' H' => H' a = some (.frz od (.dK l)) ∧ N.bk σ' (upd H' a (.dK l)), fun σ' H' => H' a = some (.frz od (.dK l)) ∧ N.ct σ' (upd H' a (.dK l))⟩) Mb ⟨?_, ?_, ?_, ?_, ?_⟩ V L0 S0 q
      · rintro σ2 s2 ⟨c, h⟩ ρ2 H2 σV2 p2 k2 L2 S2
        obtain ⟨f, ka, kd, S3⟩ := back p2 k2 S2 c
        exact ⟨f, h ρ2 _ σV2 p2 ka (backL kd L2) S3⟩
      · rintro d s2 ⟨c, h⟩ ρ2 H2 v p2 k2 rv S2
        obtain ⟨f, ka, kd, S3⟩ := back p2 k2 S2 c
        exact ⟨f, h ρ2 _ v p2 ka (rv.monoD (List.prefix_refl _) kd) S3⟩
      · rintro σ2 s2 ⟨c, h⟩ ρ2 H2 σV2 p2 k2 L2 S2
        obtain ⟨f, ka, kd, S3⟩ := back p2 k2 S2 c
        exact ⟨f, h ρ2 _ σV2 p2 ka (backL kd L2) S3⟩
      · rintro σ2 s2 ⟨c, h⟩ ρ2 H2 σV2 p2 k2 L2 S2
        obtain ⟨f, ka, kd, S3⟩ := back p2 k2 S2 c
        exact ⟨f, h ρ2 _ σV2 p2 ka (backL kd L2) S3⟩
      · exact fun _ _ _ _ h => h.elim
    · exact q.elim
  · exact q.elim
end
end PX

/-! PX: the translation of a def's body, and its soundness. -/
namespace PX
open PySem PySem.Spec PyProof.Rows L2
/-- a global name: a def (its number, its arity), a constant -/
inductive GE where
  | fn (id ar : Nat) | cst (d : D) | blt | cls (id ar : Nat)
structure TE where
  N : List Str
  sc : List (Str × NameKind)
  st : List (Str × NameKind)
  gl : List (Str × GE)
  /-- the names of attributes, fields first; how many fields; the classes of each method; the slots that hold dicts to be walked -/
  at_ : List Str
  nf : Nat
  mc : List (Nat × List Nat)
  dk : List Nat
def TE.slot (te : TE) (x : Str) : Option Nat :=
  match te.sc.lookup x with
  | some .local | some .cell | some .free => te.N.findIdx? (· == x)
  | _ => none
def TE.stor (te : TE) (x : Str) : Option Nat :=
  match te.st.lookup x with
  | some .local | some .cell => te.slot x
  | _ => none
def TE.glob (te : TE) (x : Str) : Option GE :=
  match te.sc.lookup x with
  | some .globalImplicit => te.gl.lookup x
  | _ => none
/-- a field, a method -/
def TE.fi (te : TE) (x : Str) : Option Nat := match te.at_.findIdx? (· == x) with
  | some i => if i < te.nf then some i else none
  | none => none
def TE.mi (te : TE) (x : Str) : Option (Nat × List Nat) := match te.at_.findIdx? (· == x) with
  | some i => (te.mc.lookup i).map fun cs => (i, cs)
  | none => none
def strC (x : Str) : Bool := decide (x.cps.toList.length ≤ sizeLine) && x.cps.toList.all (· < 1114112)
def litOf : Const → Option D
  | .none => some .non
  | .bool b => some (.bl b)
  | .int i => some (.int i)
  | .str x => if strC x then some (.str x.cps.toList) else none
  | _ => none
def tok : Expr → Bool
  | .IfExp _ _ _ _ => false
  | _ => true
def isSlice : Expr → Bool
  | .Slice _ _ _ _ => true
  | _ => false
def isTup : Expr → Bool
  | .Tuple _ _ _ => true
  | _ => false
def opOk : Operator → Bool
  | .Add | .Sub | .Mult | .FloorDiv | .Mod | .Pow => true
  | _ => false
def bfMore (x : Str) : Option BF := if x = "min" then some .min1 else if x = "max" then some .max1 else if x = "sum" then some .sum else if x = "sorted" then some .sorted else none
def bfOf (x : Str) (n : Nat) : Option BF :=
  if n = 1 then
    match bfMore x with
    | some f => some f
    | none =>
    if x = "len" then some .len else if x = "int" then some .int else if x = "abs" then some .abs else if x = "str" then some .str
    else if x = "tuple" then some .tuple else if x = "list" then some .list else none
  else if n = 2 then (if x = "max" then some .max2 else if x = "min" then some .min2 else none)
  else none
def mfOf (x : Str) (n : Nat) : Option MF :=
  if n = 0 then (if x = "pop" then some .pop0 else if x = "reverse" then some .reverse else if x = "rstrip" then some .rstrip else none)
  else if n = 1 then (if x = "append" then some .append else if x = "extend" then some .extend else if x = "join" then some .join else if x = "index" then some .index else none)
  else if n = 2 then (if x = "insert" then some .insert else if x = "get" then some .get2 else none)
  else none
def relab (scope : Scope) (te : TE) : List (Str × NameKind) := scope.names.map fun (n, k) => if (k == .free && te.sc.lookup n == some .cell) then (n, .cell) else (n, k)
/-- the own names of a comprehension's block, with their slots -/
def ownOf (scope : Scope) (te : TE) : List (Str × Nat) := scope.names.filterMap fun (n, k) => if k == .local || k == .cell then (te.N.findIdx? (· == n)).map fun i => (n, i) else none
mutual
def trG (te : TE) : Nat → Expr → Option TG
  | 0, _ => none
  | n + 1, .Name x _ => (te.stor x).map .nm
  | n + 1, .Tuple es _ _ => (trGs te n es).map .tp
  | _, _ => none
def trGs (te : TE) : Nat → List Expr → Option (List TG)
  | 0, _ => none
  | n + 1, [] => some []
  | n + 1, e :: es => match trG te n e, trGs te n es with
    | some t, some ts => some (t :: ts)
    | _, _ => none
end
/-- no call without arguments (it might be super()) -/
def noCall0 : Expr → Bool
  | .Call _ [] _ _ => false
  | _ => true
def isSet : Expr → Bool
  | .Set _ _ _ => true
  | _ => false
def tyNm (k : Nat) : String := if k = 0 then "int" else if k = 1 then "bool" else if k = 2 then "str" else if k = 3 then "tuple" else if k = 4 then "list" else "NoneType"
def tyCode (x : Str) : Option Nat := if x = "int" then some 0 else if x = "bool" then some 1 else if x = "str" then some 2 else if x = "tuple" then some 3 else if x = "list" then some 4 else none
/-- isinstance(e, T) -/
def isiArgs (te : TE) (x : Str) : List Expr → Option (Expr × Nat)
  | [e, .Name T _] => if x = ("isinstance" : Str) then match te.glob x, te.glob T, tyCode T with
    | some .blt, some .blt, some t => some (e, t)
    | _, _, _ => none
    else none
  | _ => none
def rangeArgs (te : TE) : Expr → Option (List Expr)
  | .Call (.Name x _) es [] _ => if x = ("range" : Str) then (match te.glob x with
    | some .blt => some es
    | _ => none) else none
  | _ => none
/-- enumerate(e) -/
def enumArgs (te : TE) : Expr → Option Expr
  | .Call (.Name x _) [e] [] _ => if x = ("enumerate" : Str) then (match te.glob x with
    | some .blt => some e
    | _ => none) else none
  | _ => none
def tgOk : IK → Expr → Bool
  | .enum, .Tuple _ _ _ => true
  | .enum, _ => false
  | _, _ => true
mutual
def trE : Nat → TE → Expr → Option EX
  | 0, _, _ => none
  | n + 1, te, .Constant c _ _ => (litOf c).map .lit
  | n + 1, te, .Name x _ => if x == ("__debug__" : Str) || x == ("__classdict__" : Str) then none else match te.slot x with
    | some i => some (.var i)
    | none => match te.glob x with
      | some (.cst d) => some (.lit d)
      | _ => none
  | n + 1, te, .BinOp a op b _ => if opOk op then match trE n te a, trE n te b with
    | some x, some y => some (.bin op x y)
    | _, _ => none
    else none
  | n + 1, te, .UnaryOp .USub a _ => (trE n te a).map .neg
  | n + 1, te, .UnaryOp .Not a _ => if tok a then (trE n te a).map .not else none
  | n + 1, te, .Compare a [op] [b] _ => if behindInMarks op b then none else match trE n te a, trE n te b with
    | some x, some y => some (.cmp op x y)
    | _, _ => none
  | n + 1, te, .Compare a [op, op'] [b, c] _ => if lastMarks [op, op'] [b, c] then none else match trE n te a, trE n te b, trE n te c with
    | some x, some y, some z => some (.chn op op' x y z)
    | _, _, _ => none
  | n + 1, te, .BoolOp op vs _ => trL n te op vs
  | n + 1, te, .IfExp c a b _ => if tok c then match trE n te c, trE n te a, trE n te b with
    | some x, some y, some z => some (.ite x y z)
    | _, _, _ => none
    else none
  | n + 1, te, .Tuple es _ _ => (trEs n te es).map .tup
  | n + 1, te, .List es _ => (trEs n te es).map .lst
  | n + 1, te, .Dict keys vals _ => if keys.isEmpty = false ∧ keys.length ≤ 15 then (trKV n te keys vals).map .dct else none
  | n + 1, te, .Subscript a (.Slice lo hi none _) _ => match trE n te a, trO n te lo, trO n te hi with
    | some x, some y, some z => some (.sl x y z)
    | _, _, _ => none
  | n + 1, te, .Subscript a (.Slice none none (some (.UnaryOp .USub (.Constant (.int 1) _ _) _)) _) _ => (trE n te a).map .rvs
  | n + 1, te, .Subscript a b _ => if isSlice b then none else match trE n te a, trE n te b with
    | some x, some y => some (.ix x y)
    | _, _ => none
  | n + 1, te, .Call (.Name x _) es [] _ => if x == ("__debug__" : Str) || x == ("__name__" : Str) then none else match isiArgs te x es with
    | some (e, t) => (trE n te e).map fun m => .blt (.isi t) [m]
    | none => match te.glob x with
      | some (.fn id ar) => if es.length = ar then (trEs n te es).map (.call id) else none
      | some (.cls id ar) => if es.length = ar then (trEs n te es).map (.call id) else none
      | some .blt => match bfOf x es.length, trEs n te es with
        | some f, some xs => some (.blt f xs)
        | _, _ => none
      | _ => none
  | n + 1, te, .Call (.Attribute o m ap) es [] cp => if (ap.endLine == cp.line) = true ∧ es.length < 20 ∧ noCall0 o = true then match te.mi m with
    | some (i, cs) => match trE n te o, trEs n te es with
      | some x, some xs => some (.mcall i cs x xs)
      | _, _ => none
    | none => match mfOf m es.length, trE n te o, trEs n te es with
      | some f, some x, some xs => some (.meth f x xs)
      | _, _, _ => none
    else none
  | n + 1, te, .Attribute o x _ => if noCall0 o then match te.fi x, trE n te o with
    | some f, some m => some (.fld m f)
    | _, _ => none
    else none
  | n + 1, te, .DictComp kx vx [⟨tg, it, ifs, 0⟩] scope _ =>
    let own := ownOf scope te
    let te2 : TE := { te with sc := relab scope te, st := scope.names }
    if blkC te.N ⟨.function, te.sc, false, false, []⟩ scope own then match trI n te it, trG te2 n tg, trEs n te2 ifs, trE n te2 kx, trE n te2 vx with
      | some (ik, its), some t, some cs, some k, some v => if subT (own.map (·.2)) t && ifs.length ≤ 1 && ifs.all tok && tgOk ik tg then some (.dc (own.map (·.2)) t ik its cs k v) else none
      | _, _, _, _, _ => none
    else none
  | n + 1, te, .ListComp elt [⟨tg, it, ifs, 0⟩] scope _ =>
    let own := ownOf scope te
    let te2 : TE := { te with sc := relab scope te, st := scope.names }
    if blkC te.N ⟨.function, te.sc, false, false, []⟩ scope own then match trI n te it, trG te2 n tg, trEs n te2 ifs, trE n te2 elt with
      | some (ik, its), some t, some cs, some e => if subT (own.map (·.2)) t && ifs.length ≤ 1 && ifs.all tok && tgOk ik tg then some (.lc (own.map (·.2)) t ik its cs e) else none
      | _, _, _, _ => none
    else none
  | _, _, _ => none
def trEs : Nat → TE → List Expr → Option (List EX)
  | 0, _, _ => none
  | n + 1, te, [] => some []
  | n + 1, te, e :: es => match trE n te e, trEs n te es with
    | some x, some xs => some (x :: xs)
    | _, _ => none
def trKV : Nat → TE → List (Option Expr) → List Expr → Option (List EX)
  | 0, _, _, _ => none
  | n + 1, te, [], [] => some []
  | n + 1, te, some k :: ks, v :: vs => match trE n te k, trE n te v, trKV n te ks vs with
    | some a, some b, some r => some (a :: b :: r)
    | _, _, _ => none
  | n + 1, _, _, _ => none
def trL : Nat → TE → BoolOp → List Expr → Option EX
  | 0, _, _, _ => none
  | n + 1, te, op, [] => none
  | n + 1, te, op, [e] => if tok e then trE n te e else none
  | n + 1, te, op, e :: e2 :: es => if tok e then match trE n te e, trL n te op (e2 :: es) with
    | some x, some y => some (match op with | .And => .and x y | .Or => .or x y)
    | _, _ => none
    else none
def trO : Nat → TE → Option Expr → Option EX
  | 0, _, _ => none
  | n + 1, te, none => some (.lit (.kd 0))
  | n + 1, te, some e => trE n te e
def trI : Nat → TE → Expr → Option (IK × List EX)
  | 0, _, _ => none
  | n + 1, te, e => match rangeArgs te e with
    | some es => match trEs n te es with
      | some [a] => some (.rng1, [a])
      | some [a, b] => some (.rng2, [a, b])
      | _ => none
    | none => match enumArgs te e with
      | some e1 => match trEs n te [e1] with
        | some [m] => some (.enum, [m])
        | _ => none
      | none => if isSet e then none else (trE n te e).map fun m => (.seq, [m])
end
/-- a dict's name that is walked -/
def dkOf (te : TE) : Expr → Option Nat
  | .Name x _ => if x == ("__debug__" : Str) || x == ("__classdict__" : Str) then none else match te.slot x with
    | some i => if te.dk.contains i then some i else none
    | none => none
  | _ => none
/-- name = [.. for ..] on one line: the model's own road -/
def swB (te : TE) (scope : Scope) (pos : Pos) (x : Str) (py : Pos) : Bool :=
  te.sc.lookup x == some .local && py.line == pos.line && !(scope.names.any fun (n, k) => n == x && (k == .local || k == .cell))
def noComp : Expr → Bool
  | .ListComp _ _ _ _ | .SetComp _ _ _ _ | .DictComp _ _ _ _ _ => false
  | _ => true
mutual
def trS : Nat → TE → Stmt → Option ST
  | 0, _, _ => none
  | n + 1, te, .Expr e _ => if noComp e then (trE n te e).map .expr else none
  | n + 1, te, .Assign [.Name x py] e pos => match te.stor x, trE n te e with
    | some i, some m => some (.asg (.nm i) m)
    | _, _ => none
  | n + 1, te, .Assign [.Tuple ts k p] e _ => if isTup e then none else match trG te n (.Tuple ts k p), trE n te e with
    | some t, some m => some (.asg t m)
    | _, _ => none
  | n + 1, te, .Assign [.Subscript o i _] e _ => if isSlice i then none else match trE n te o, trE n te i, trE n te e with
    | some x, some y, some z => some (.aset x y z)
    | _, _, _ => none
  | n + 1, te, .Assign [.Attribute o x _] e _ => match te.fi x, trE n te o, trE n te e with
    | some f, some m, some v => some (.fset m f v)
    | _, _, _ => none
  | n + 1, te, .AugAssign (.Attribute o x _) op e _ => match op, te.fi x, trE n te o, trE n te e with
    | .Add, some f, some m, some v => some (.faug m f .Add v)
    | .Sub, some f, some m, some v => some (.faug m f .Sub v)
    | _, _, _, _ => none
  | n + 1, te, .AugAssign (.Name x _) op e _ => match op, te.stor x, trE n te e with
    | .Add, some i, some m => some (.aug i .Add m)
    | .Sub, some i, some m => some (.aug i .Sub m)
    | _, _, _ => none
  | n + 1, te, .If c a b _ => if tok c then match trE n te c, trSs n te a, trSs n te b with
    | some x, some y, some z => some (.ite x y z)
    | _, _, _ => none
    else none
  | n + 1, te, .While c b [] _ => if tok c then match trE n te c, trSs n te b with
    | some x, some y => some (.whl x y)
    | _, _ => none
    else none
  | n + 1, te, .For tg it b [] _ => match dkOf te it with
    | some i => match trG te n tg, trSs n te b with
      | some t, some y => some (.forK t i y)
      | _, _ => none
    | none => match trG te n tg, trI n te it, trSs n te b with
      | some t, some (ik, its), some y => if tgOk ik tg then some (.for_ t ik its y) else none
      | _, _, _ => none
  | n + 1, te, .Return (some e) _ => (trE n te e).map .ret
  | n + 1, te, .Return none _ => some (.ret (.lit .non))
  | n + 1, te, .Break _ => some .brk
  | n + 1, te, .Continue _ => some .cnt
  | n + 1, te, .Pass _ => some .pass
  | _, _, _ => none
def trSs : Nat → TE → List Stmt → Option (List ST)
  | 0, _, _ => none
  | n + 1, te, [] => some []
  | n + 1, te, s :: r => match trS n te s, trSs n te r with
    | some x, some xs => some (x :: xs)
    | _, _ => none
end
end PX

/-! PX: the translation is sound. -/
namespace PX
open PySem PySem.Spec PyProof.Rows L2
abbrev RXT := Nat → List (Nat × D) → Value → Option Addr → Hp → List Addr → Prop
def exW (B : Tb) (RX : RXT) (W : WQ) (σ : L2.St) : XK := fun cls d H => ∃ (c : Nat) (fs : List (Nat × D)) (ρ : List Addr) (s : Sto), RX c fs cls d H ρ ∧ RelS B H ρ s ∧ W c fs σ H ρ s
structure Ok (B : Tb) (G : FS) (RX : RXT) (CXx : CXT) (k : Nat) (te : TE) (X : Cx) (W : WQ) : Prop where
  K : B.K = X.K
  pw : B.pw = X.w.params
  un : X.A.units + 65 < cLine
  calm : X.calm = true
  N : X.N = te.N
  nd : te.N.Nodup
  kd : X.env.scope.kind = .function
  sc : X.env.scope.names = te.sc
  st : ∀ x i, te.stor x = some i → Loc X.env.scope x ∧ (X.fn x = true ∨ X.env.scope.names.lookup x = some .local)
  room : Room k X.A
  fns : ∀ x id ar, te.gl.lookup x = some (.fn id ar) → ∃ (fa : Addr) (fd : FuncData) (ps : List Str), X.mg x = some (.ref fa) ∧ PySem.W.keepIn X.K (.ref fa) = true ∧ Binds X.K fd ps [] ∧ ps.length = ar ∧ FnOk X.prog X.w X.K X.mg X.base CXx k fa fd ps (spD B RX G id)
  csts : ∀ x d, te.gl.lookup x = some (.cst d) → ∃ v u, X.mg x = some u ∧ RelV v u ∧ ∀ H ρ, RelD B H ρ d v
  blts : ∀ x, te.gl.lookup x = some .blt → X.mg x = none
  px : ∀ σ, PassesAt CXx X σ (exW B RX W σ)
  cx0 : ∀ outer H s e s', ¬ CXx outer H s (fun _ _ _ => False) e s'
  Gm : G.Mono
  ob : ClsOk B X.K te.nf
  an : te.at_ = B.at_
  ctr : ∀ x id ar, te.gl.lookup x = some (.cls id ar) → ∃ C : Addr, X.mg x = some (.ref C) ∧ PySem.W.keepIn X.K (.ref C) = true ∧ ((∃ (fi : Addr) (fd : FuncData) (ps : List Str) (k' c i : Nat) (G' : FS), k = k' + 1 ∧ Mk X.K C fi ∧ Binds X.K fd ps [] ∧
    FnOk X.prog X.w X.K X.mg X.base CXx k' fi fd ps (spD B RX G' i) ∧ B.cl c = some C ∧ FS.Mono G' ∧ ∀ vs s Q E, G id vs s Q E → vs.length = ar ∧ G' i (.ref s.length :: vs) (s ++ [.ins c []]) (fun v s' => v = .non ∧ Q (.ref s.length) s') E) ∨ ∀ vs s Q E, ¬ G id vs s Q E)
  mth : ∀ m cs x c, te.mc.lookup m = some cs → B.at_[m]? = some x → c ∈ cs → ∃ (C f : Addr) (fd : FuncData) (ps : List Str), B.cl c = some C ∧ Meth X.K C x f ∧ FnOk X.prog X.w X.K X.mg X.base CXx k f fd ps (spD B RX G (mid c m)) ∧ Binds X.K fd ps []
section
variable {B : Tb} {G : FS} {RX : RXT} {CXx : CXT} {k : Nat} {te : TE} {X : Cx} {W : WQ}
theorem find_slot {N : List Str} {x : Str} {i : Nat} (h : N.findIdx? (· == x) = some i) : N[i]? = some x := by
  rw [List.findIdx?_eq_some_iff_getElem] at h
  obtain ⟨hi, e, _⟩ := h
  rw [List.getElem?_eq_getElem hi]
  exact congrArg some (by simpa using e)
theorem Ok.slot (o : Ok B G RX CXx k te X W) {x : Str} {i : Nat} (h : te.slot x = some i) : X.N[i]? = some x ∧ Vis X.env.scope x := by
  unfold TE.slot at h
  unfold Vis
  rw [o.N, o.sc]
  split at h
  · rename_i e; exact ⟨find_slot h, .inl e⟩
  · rename_i e; exact ⟨find_slot h, .inr (.inl e)⟩
  · rename_i e; exact ⟨find_slot h, .inr (.inr e)⟩
  · cases h
theorem stor_slot {x : Str} {i : Nat} (h : te.stor x = some i) : te.slot x = some i := by
  unfold TE.stor at h
  split at h
  · exact h
  · exact h
  · cases h
theorem Ok.glob (o : Ok B G RX CXx k te X W) {x : Str} {g : GE} (h : te.glob x = some g) : Gl X x ∧ te.gl.lookup x = some g := by
  unfold TE.glob at h
  split at h
  · rename_i e
    refine ⟨?_, h⟩
    show X.env.scope.names.lookup x = _
    rw [o.sc]
    exact e
  · cases h
theorem MonoX (hG : G.Mono) (e : EX) : MonoSE (fun σ s Q E => xE G e σ s Q E) := fun σ s Q Q' E E' hQ hE h => xE_mono hG e hQ hE h
theorem MonoXs (hG : G.Mono) (es : List EX) : MonoSA (fun σ s Q E => xEs G es σ s Q E) := fun σ s Q Q' E E' hQ hE h => xEs_mono hG es hQ hE h
theorem MonoSt (hG : G.Mono) (e : ST) : MonoSS (fun σ s N => xS G e σ s N) := fun σ s N N' hN h => xS_mono hG e hN h
theorem MonoSts (hG : G.Mono) (e : List ST) : MonoSS (fun σ s N => xSs G e σ s N) := fun σ s N N' hN h => xSs_mono hG e hN h
/-- the reading of a term -/
abbrev rE (B : Tb) (G : FS) (W : WQ) (e : EX) : L2.TE := tO B W fun σ s Q E => xE G e σ s Q E
abbrev rT (B : Tb) (G : FS) (W : WQ) (e : EX) : TT := tT B W fun σ s Q E => xE G e σ s Q E
abbrev rA (B : Tb) (G : FS) (W : WQ) (es : List EX) : TA := tAr B W fun σ s Q E => xEs G es σ s Q E
/-- f(), where what is raised is wished for at the caller's slots -/
theorem pe_callSD0 {CX : CXT} {k : Nat} {f : Addr} {fd : FuncData} {ps : List Str} {sp : Sp} {dvs : List V} {ds : List Value} {E : L2.St → XK} {x : Str} {p pos : Pos} (F : FnOk X.prog X.w X.K X.mg X.base CX k f fd ps sp) (hr : Room k X.A) (hg : Gl X x) (hm : X.mg x = some (.ref f)) (hk : PySem.W.keepIn X.K (.ref f) = true) (hb : Binds X.K fd ps ds) (hd : Vals dvs ds) (hx : ∀ σ, PassesAt CX X σ (E σ))
    (hdb : (x == ("__debug__" : Str)) = false) : PE X (.Call (.Name x p) [] [] pos) (tCallSD sp dvs E tNil) := by
  refine ⟨fun pins s σ H Q I h => ?_⟩
  refine wpAny_Call_Name_kw (ld_glob I hg hm ?_ hdb)
  exact PySem.W.callWith_K0 I.kIn hk (run_fnSD (us := []) F hr hb hd (hx σ) I .nil h)
theorem star_ok {n : Nat} {e : Expr} {x : EX} (h : trE n te e = some x) (es : List Expr) (env : Env) : starEach (e :: es) env = (false, eval e env) :: starEach es env := by
  cases e <;> first | rfl | (cases n <;> simp [trE] at h)
theorem star_all : ∀ {es : List Expr} {xs : List EX} (n : Nat), trEs n te es = some xs → ∀ (pos : Pos) (env : Env), (backTo pos (starEach es env)).any (·.1) = false ∧ (backTo pos (starEach es env)).all (fun x => !x.1) = true ∧ xs.length = es.length
  | [], xs, 0, h, pos, env => by simp [trEs] at h
  | [], xs, n + 1, h, pos, env => by
    simp [trEs] at h
    subst h
    exact ⟨rfl, rfl, rfl⟩
  | e :: es, xs, 0, h, pos, env => by simp [trEs] at h
  | e :: es, xs, n + 1, h, pos, env => by
    simp only [trEs] at h
    split at h
    · rename_i y ys h1 h2
      cases h
      obtain ⟨g1, g2, g3⟩ := star_all n h2 pos env
      rw [star_ok h1]
      refine ⟨?_, ?_, by rw [List.length_cons, List.length_cons, g3]⟩
      · show (false || (backTo pos (starEach es env)).any (·.1)) = false
        rw [g1]
        rfl
      · show (!false && (backTo pos (starEach es env)).all (fun x => !x.1)) = true
        rw [g2]
        rfl
    · cases h
theorem trEs_len : ∀ (n : Nat) {es : List Expr} {xs : List EX}, trEs n te es = some xs → xs.length = es.length
  | 0, es, xs, h => by simp [trEs] at h
  | n + 1, [], xs, h => by
    simp [trEs] at h
    subst h
    rfl
  | n + 1, e :: es, xs, h => by
    simp only [trEs] at h
    split at h
    · rename_i y ys h1 h2
      cases h
      rw [List.length_cons, List.length_cons, trEs_len n h2]
    · cases h
theorem one_arg {n : Nat} {es : List Expr} {a : EX} (h : trEs n te es = some [a]) : ∃ e, es = [e] ∧ ∀ es env, starEach (e :: es) env = (false, eval e env) :: starEach es env := by
  cases n with
  | zero => simp [trEs] at h
  | succ n =>
    match es, h with
    | [], h => simp [trEs] at h
    | [e], h =>
      simp only [trEs] at h
      split at h
      · rename_i h1 h2; exact ⟨e, rfl, star_ok h1⟩
      · cases h
    | e :: e2 :: es, h =>
      simp only [trEs] at h
      split at h
      · rename_i y ys h1 h2
        cases h
        have := trEs_len n h2
        simp at this
      · cases h
theorem two_arg {n : Nat} {es : List Expr} {a b : EX} (h : trEs n te es = some [a, b]) : ∃ e e2, es = [e, e2] ∧ (∀ es env, starEach (e :: es) env = (false, eval e env) :: starEach es env) ∧ ∀ es env, starEach (e2 :: es) env = (false, eval e2 env) :: starEach es env := by
  cases n with
  | zero => simp [trEs] at h
  | succ n =>
    match es, h with
    | [], h => simp [trEs] at h
    | e :: es, h =>
      simp only [trEs] at h
      split at h
      · rename_i y ys h1 h2
        cases h
        obtain ⟨e2, rfl, s2⟩ := one_arg h2
        exact ⟨e, e2, rfl, star_ok h1, s2⟩
      · cases h
theorem truth_ok {e : Expr} (X : Cx) (h : tok e = true) (h1 : ∀ a p, e ≠ .UnaryOp .Not a p) (h2 : ∀ op vs p, e ≠ .BoolOp op vs p) (h3 : ∀ a ops cs p, e ≠ .Compare a ops cs p) : ∀ whole, isTrue e X.env whole = (do let v ← whole; standAt e.pos; holding [v] (truthy v)) := by
  intro whole
  cases e <;> first
    | rfl
    | exact absurd rfl (h2 _ _ _)
    | exact absurd rfl (h3 _ _ _ _)
    | (simp [tok] at h; done)
    | skip
  case UnaryOp op a p => cases op <;> first | rfl | exact absurd rfl (h1 _ _)
theorem ixPlain {b : Expr} (h : isSlice b = false) : PlainIx b := by
  intro o i
  cases b <;> first | rfl | simp [isSlice] at h
/-! ### a comprehension's block -/
theorem relab_keep {names : List (Str × NameKind)} {te : TE} {x : Str} {kk : NameKind} (hk : kk ≠ .free) (h : names.lookup x = some kk) :
    (names.map fun (n, k) => if (k == .free && te.sc.lookup n == some .cell) = true then (n, NameKind.cell) else (n, k)).lookup x = some kk := by
  induction names with
  | nil => simp at h
  | cons y r ih =>
    obtain ⟨n, k⟩ := y
    rw [List.lookup_cons] at h
    rw [List.map_cons, List.lookup_cons]
    have e1 : (if (k == NameKind.free && te.sc.lookup n == some NameKind.cell) = true then (n, NameKind.cell) else (n, k)).1 = n := by split <;> rfl
    rw [e1]
    cases hx : x == n with
    | true =>
      rw [hx] at h
      have e2 : k = kk := Option.some.inj h
      subst e2
      rw [if_neg (by
        intro z
        rw [Bool.and_eq_true] at z
        exact hk (by simpa using z.1))]
    | false =>
      rw [hx] at h
      exact ih h
theorem Ok.blk (o : Ok B G RX CXx k te X W) {scope : Scope} {own : List (Str × Nat)} (hb : blkC te.N ⟨.function, te.sc, false, false, []⟩ scope own = true) (s : Shared) (H : Hp) (C : Addr) (cl : List (Str × Addr)) (fp : List Addr) :
    Ok B G RX CXx k { te with sc := relab scope te, st := scope.names } (X.blk s H scope (compEnvC scope cl C X.env) fp) W0 := by
  have hk : scope.kind = .function := by
    have := (blkOk_by hb).kind
    exact this
  have hsc : (relabel scope X.env).names = relab scope te := by
    unfold relabel relab
    simp only
    congr 1
    funext ⟨n, kk⟩
    have e1 : (X.env.scope.kind == ScopeKind.function) = true := by rw [o.kd]; rfl
    have e2 : X.env.kindOf n = te.sc.lookup n := by
      show X.env.scope.names.lookup n = _
      rw [o.sc]
    rw [e1, e2, Bool.and_true]
  refine ⟨o.K, o.pw, o.un, o.calm, o.N, o.nd, hk, hsc, fun x i h => ?_, o.room, o.fns, o.csts, o.blts, fun σ => ?_, o.cx0, o.Gm, o.ob, o.an, o.ctr, o.mth⟩
  · unfold TE.stor at h
    unfold L2.Loc
    show ((relabel scope X.env).names.lookup x = _ ∨ (relabel scope X.env).names.lookup x = _) ∧ ((scope.names.lookup x == some .cell) = true ∨ (relabel scope X.env).names.lookup x = _)
    rw [hsc]
    simp only at h
    split at h
    · rename_i e
      have := relab_keep (te := te) (kk := .local) (by decide) e
      exact ⟨.inl this, .inr this⟩
    · rename_i e
      have := relab_keep (te := te) (kk := .cell) (by decide) e
      exact ⟨.inr this, .inl (by rw [e]; rfl)⟩
    · cases h
  · have e : exW B RX W0 σ = fun _ _ _ => False := by
      funext cls d H
      exact propext ⟨fun ⟨_, _, _, _, _, _, w⟩ => w, fun h => h.elim⟩
    rw [e]
    exact fun pins H s e s' I c => (o.cx0 _ _ _ _ _ c).elim
/-! ### the induction -/
section
variable (B : Tb) (G : FS) (RX : RXT) (CXx : CXT) (k : Nat)
def PEs (n : Nat) : Prop := ∀ te X W e ir, Ok B G RX CXx k te X W → trE n te e = some ir → PE X e (rE B G W ir) ∧ (tok e = true → PT X e (rT B G W ir))
def PLs (n : Nat) : Prop := ∀ te X W op es ir pos, Ok B G RX CXx k te X W → trL n te op es = some ir → PE X (.BoolOp op es pos) (rE B G W ir) ∧ PW X (.BoolOp op es pos) (rT B G W ir)
def PAs (n : Nat) : Prop := ∀ te X W es irs, Ok B G RX CXx k te X W → trEs n te es = some irs → PA X es (rA B G W irs) ∧ (W = W0 → es.length ≤ 1 → es.all tok = true → PTs X es (tTi B fun σ s K => xIf G irs σ s K))
def POs (n : Nat) : Prop := ∀ te X W e ir, Ok B G RX CXx k te X W → trO n te e = some ir → PO X e (tPo B W fun σ s Q E => xE G ir σ s Q E)
def PIs (n : Nat) : Prop := ∀ te X W tg e ik its, Ok B G RX CXx k te X W → trI n te e = some (ik, its) → tgOk ik tg = true → PI X tg e (tIt B W (fun σ s Q E => xEs G its σ s Q E) ik) ∧ ∀ x, foldedSetIterable e X.env x = pure x
def PDs (n : Nat) : Prop := ∀ te X W keys vals irs, Ok B G RX CXx k te X W → trKV n te keys vals = some irs → ∃ ms : List (SE × SE), (∀ p ∈ ms, MonoSE p.1 ∧ MonoSE p.2) ∧ (∀ pos, PPs X pos keys vals (ms.map fun p => (tO B W p.1, tO B W p.2))) ∧ keys.all (·.isSome) = true ∧ keys.length = vals.length ∧ ∀ σ s Q E, xEs G irs σ s Q E = flatP ms σ s Q E
end
variable {n : Nat}
theorem pds_succ (he : PEs B G RX CXx k n) (hd : PDs B G RX CXx k n) : PDs B G RX CXx k (n + 1) := by
  intro te X W keys vals irs o h
  match keys, vals, h with
  | [], [], h =>
    simp only [trKV] at h
    cases h
    exact ⟨[], (by intro p hp; simp at hp), (fun pos => pps_nil), rfl, rfl, fun σ s Q E => rfl⟩
  | some k :: ks, v :: vs, h =>
    simp only [trKV] at h
    split at h
    · rename_i a b r h1 h2 h3
      cases h
      obtain ⟨ms, g1, g2, g3, g4, g5⟩ := hd te X W ks vs r o h3
      refine ⟨((fun σ s Q E => xE G a σ s Q E), (fun σ s Q E => xE G b σ s Q E)) :: ms, fun p hp => ?_, fun pos => pps_cons (he te X W k a o h1).1 (he te X W v b o h2).1 (g2 pos), ?_, by rw [List.length_cons, List.length_cons, g4], fun σ s Q E => ?_⟩
      · rcases List.mem_cons.mp hp with rfl | hp
        · exact ⟨MonoX o.Gm a, MonoX o.Gm b⟩
        · exact g1 p hp
      · rw [List.all_cons, g3]; rfl
      · simp only [xEs, flatP]
        congr 1
        funext x s1
        congr 1
        funext y s2
        exact g5 _ _ _ _
    · cases h
  | none :: _, _, h => simp [trKV] at h
  | some _ :: _, [], h => simp [trKV] at h
  | [], _ :: _, h => simp [trKV] at h
theorem pas_succ (he : PEs B G RX CXx k n) (ha : PAs B G RX CXx k n) : PAs B G RX CXx k (n + 1) := by
  intro te X W es irs o h
  cases es with
  | nil =>
    simp only [trEs] at h
    cases h
    exact ⟨pa_nl, fun _ _ _ => pts_nl⟩
  | cons e es =>
    simp only [trEs] at h
    split at h
    · rename_i x xs h1 h2
      cases h
      refine ⟨pa_cn (MonoX o.Gm x) (MonoXs o.Gm xs) (he te X W e x o h1).1 (ha te X W es xs o h2).1 (star_ok h1 es X.env), fun hw hlen hall => ?_⟩
      subst hw
      have e0 : es = [] := List.eq_nil_of_length_eq_zero (by
        rw [List.length_cons] at hlen
        omega)
      subst e0
      have e1 : xs = [] := List.eq_nil_of_length_eq_zero (trEs_len n h2)
      subst e1
      have ht : tok e = true := by simpa using hall
      exact pts_on (MonoX o.Gm x) ((he te X W0 e x o h1).2 ht)
    · cases h
theorem pos_succ (he : PEs B G RX CXx k n) : POs B G RX CXx k (n + 1) := by
  intro te X W e ir o h
  cases e with
  | none =>
    simp only [trO] at h
    cases h
    exact po_no
  | some e =>
    simp only [trO] at h
    exact po_so (MonoX o.Gm ir) (he te X W e ir o h).1
theorem pls_succ (he : PEs B G RX CXx k n) (hl : PLs B G RX CXx k n) : PLs B G RX CXx k (n + 1) := by
  intro te X W op es ir pos o h
  match es, h with
  | [], h => simp [trL] at h
  | [e], h =>
    simp only [trL] at h
    split at h
    · rename_i ht
      obtain ⟨g1, g2⟩ := he te X W e ir o h
      refine ⟨pe_one g1, ?_⟩
      cases op with
      | And => exact pw_and1 (g2 ht)
      | Or => exact pw_or1 (g2 ht)
    · cases h
  | e :: e2 :: es, h =>
    simp only [trL] at h
    split at h
    · rename_i ht
      split at h
      · rename_i x y h1 h2
        cases h
        obtain ⟨g1, g2⟩ := he te X W e x o h1
        obtain ⟨g3, g4⟩ := hl te X W op (e2 :: es) y pos o h2
        cases op with
        | And => exact ⟨pe_an o.K (MonoX o.Gm x) (MonoX o.Gm y) g1 g3, pw_an o.K (MonoX o.Gm x) (MonoX o.Gm y) (g2 ht) g4⟩
        | Or => exact ⟨pe_orr o.K (MonoX o.Gm x) (MonoX o.Gm y) g1 g3, pw_orr o.K (MonoX o.Gm x) (MonoX o.Gm y) (g2 ht) g4⟩
      · cases h
    · cases h
theorem pis_succ (he : PEs B G RX CXx k n) (ha : PAs B G RX CXx k n) : PIs B G RX CXx k (n + 1) := by
  intro te X W tg e ik its o h htg
  simp only [trI] at h
  split at h
  · rename_i es hr
    unfold rangeArgs at hr
    split at hr
    · rename_i x p es' pos
      split at hr
      · rename_i hx
        subst hx
        split at hr
        · rename_i hg
          cases hr
          obtain ⟨g1, g2⟩ := o.glob hg
          have hm := o.blts _ g2
          split at h
          · rename_i a h1
            cases h
            obtain ⟨e1, rfl, s1⟩ := one_arg h1
            exact ⟨pi_r1 (MonoXs o.Gm [a]) (pi_range1 g1 hm (ha te X W _ _ o h1).1 (s1 [] X.env)), fun _ => rfl⟩
          · rename_i a b h1
            cases h
            obtain ⟨e1, e2, rfl, s1, s2⟩ := two_arg h1
            exact ⟨pi_r2 (MonoXs o.Gm [a, b]) (pi_range2 g1 hm (ha te X W _ _ o h1).1 ((s1 [e2] X.env).trans (by rw [s2 [] X.env]; rfl)) (s2 [] X.env)), fun _ => rfl⟩
          · cases h
        · cases hr
      · cases hr
    · cases hr
  · split at h
    · rename_i e1 he1
      split at h
      · rename_i m hm
        cases h
        cases tg <;> try cases htg
        rename_i elts kk tpos
        unfold enumArgs at he1
        split at he1
        · rename_i x p e' pos
          split at he1
          · rename_i hx
            subst hx
            split at he1
            · rename_i hg
              cases he1
              obtain ⟨g1, g2⟩ := o.glob hg
              obtain ⟨e2, q, s1⟩ := one_arg hm
              cases q
              exact ⟨pi_en (MonoXs o.Gm [m]) o.K (pi_enum g1 (o.blts _ g2) (ha te X W _ _ o hm).1 (s1 [] X.env)), fun _ => rfl⟩
            · cases he1
          · cases he1
        · cases he1
      · cases h
    split at h
    · cases h
    · rename_i hs
      cases e1 : trE n te e with
      | none => rw [e1] at h; cases h
      | some m =>
        rw [e1] at h
        cases h
        refine ⟨pi_sq (MonoX o.Gm m) o.K (he te X W e m o e1).1, fun x => ?_⟩
        cases e <;> first | rfl | simp [isSet] at hs
theorem bf_more {f : BF} {x : Str} {p pos : Pos} {e : Expr} {es : List Expr} {xs : List EX} (o : Ok B G RX CXx k te X W) (hf : bfMore x = some f) (hg : Gl X x) (hm : X.mg x = none) (ha : PA X (e :: es) (rA B G W xs))
    (s1 : starEach (e :: es) X.env = (false, eval e X.env) :: starEach es X.env) (s2 : (backTo pos (starEach es X.env)).any (·.1) = false) :
    PE X (.Call (.Name x p) (e :: es) [] pos) (tO B W fun σ s Q E => xEs G xs σ s (fun vs s1 => xBlt f vs s1 Q) E) := by
  have M := MonoXs o.Gm xs
  unfold bfMore at hf
  split at hf
  · rename_i hx; subst hx; cases hf
    exact PE.imp (pe_callB (bf_min1 o.calm) hg hm PyProof.Rows.boot_min ha (by decide +kernel) (by decide +kernel) s1 s2) fun _ _ _ h => tcb_imp M h
  · split at hf
    · rename_i hx; subst hx; cases hf
      exact PE.imp (pe_callB (bf_max1 o.calm) hg hm PyProof.Rows.boot_max ha (by decide +kernel) (by decide +kernel) s1 s2) fun _ _ _ h => tcb_imp M h
    · split at hf
      · rename_i hx; subst hx; cases hf
        exact PE.imp (pe_callB (bf_sum o.calm) hg hm (by decide +kernel) ha (by decide +kernel) (by decide +kernel) s1 s2) fun _ _ _ h => tcb_imp M h
      · split at hf
        · rename_i hx; subst hx; cases hf
          exact PE.imp (pe_callB bf_sorted hg hm (by decide +kernel) ha (by decide +kernel) (by decide +kernel) s1 s2) fun _ _ _ h => tcb_imp M h
        · cases hf
/-- a built-in's call -/
theorem bf_call {f : BF} {x : Str} {p pos : Pos} {e : Expr} {es : List Expr} {xs : List EX} (o : Ok B G RX CXx k te X W) (hf : bfOf x (e :: es).length = some f) (hg : Gl X x) (hm : X.mg x = none) (ha : PA X (e :: es) (rA B G W xs))
    (s1 : starEach (e :: es) X.env = (false, eval e X.env) :: starEach es X.env) (s2 : (backTo pos (starEach es X.env)).any (·.1) = false) :
    PE X (.Call (.Name x p) (e :: es) [] pos) (tO B W fun σ s Q E => xEs G xs σ s (fun vs s1 => xBlt f vs s1 Q) E) := by
  have M := MonoXs o.Gm xs
  unfold bfOf at hf
  split at hf
  · split at hf
    · rename_i f' hf'
      cases hf
      exact bf_more o hf' hg hm ha s1 s2
    split at hf
    · rename_i hx; subst hx; cases hf
      exact PE.imp (pe_callB (bf_len o.K) hg hm PySem.boot_len ha (by decide +kernel) (by decide +kernel) s1 s2) fun _ _ _ h => tcb_imp M h
    · split at hf
      · rename_i hx; subst hx; cases hf
        exact PE.imp (pe_callTy bf_int hg hm PyProof.Rows.boot_int ha (by decide +kernel) (by decide +kernel) s1 s2) fun _ _ _ h => tcb_imp M h
      · split at hf
        · rename_i hx; subst hx; cases hf
          exact PE.imp (pe_callB bf_abs hg hm PyProof.Rows.boot_abs ha (by decide +kernel) (by decide +kernel) s1 s2) fun _ _ _ h => tcb_imp M h
        · split at hf
          · rename_i hx; subst hx; cases hf
            exact PE.imp (pe_callTy bf_str hg hm PyProof.Rows.boot_str ha (by decide +kernel) (by decide +kernel) s1 s2) fun _ _ _ h => tcb_imp M h
          · split at hf
            · rename_i hx; subst hx; cases hf
              exact PE.imp (pe_callTy (bf_tuple o.K) hg hm PyProof.Rows.boot_tuple ha (by decide +kernel) (by decide +kernel) s1 s2) fun _ _ _ h => tcb_imp M h
            · split at hf
              · rename_i hx; subst hx; cases hf
                exact PE.imp (pe_callTy (bf_list o.K) hg hm PyProof.Rows.boot_list ha (by decide +kernel) (by decide +kernel) s1 s2) fun _ _ _ h => tcb_imp M h
              · cases hf
  · split at hf
    · split at hf
      · rename_i hx; subst hx; cases hf
        exact PE.imp (pe_callB (bf_max o.calm) hg hm PyProof.Rows.boot_max ha (by decide +kernel) (by decide +kernel) s1 s2) fun _ _ _ h => tcb_imp M h
      · split at hf
        · rename_i hx; subst hx; cases hf
          exact PE.imp (pe_callB (bf_min o.calm) hg hm PyProof.Rows.boot_min ha (by decide +kernel) (by decide +kernel) s1 s2) fun _ _ _ h => tcb_imp M h
        · cases hf
    · cases hf
theorem base_ok {o : Expr} {m : Str} (X : Cx) (h : noCall0 o = true) : attributeBase o m X.env (eval o X.env) = eval o X.env := by
  cases o <;> try rfl
  rename_i f args kws pos
  cases args with
  | nil => simp [noCall0] at h
  | cons a r => cases f <;> rfl
/-- a built-in method's call -/
theorem mf_call {f : MF} {m : Str} {ap cp : Pos} {o : Expr} {es : List Expr} {mo : EX} {xs : List EX} (ok : Ok B G RX CXx k te X W) (hf : mfOf m es.length = some f) (hl : (ap.endLine == cp.line) = true) (hn : es.length < 20) (h0 : noCall0 o = true)
    (ho : PE X o (rE B G W mo)) (ha : PA X es (rA B G W xs)) (h1 : trEs n te es = some xs) :
    PE X (.Call (.Attribute o m ap) es [] cp) (tO B W fun σ s Q E => xE G mo σ s (fun x s1 => mTy f x s1 ∧ xEs G xs σ s1 (fun vs s2 => xMeth f x vs s2 Q) E) E) := by
  have M := MonoXs ok.Gm xs
  have Mo := MonoX ok.Gm mo
  match es, h1 with
  | [], h1 =>
    have e0 : xs = [] := List.eq_nil_of_length_eq_zero (trEs_len n h1)
    subst e0
    simp only [List.length_nil, mfOf, if_true] at hf
    split at hf
    · rename_i hx; subst hx; cases hf
      exact PE.imp (pe_bm0 PySem.F.plainAttrs_list PySem.F.slot_list_pop PySem.F.type_list_pop mf_pop0 ho (base_ok X h0) hl) fun _ _ _ h => bm0_imp rfl (by decide) Mo h
    · split at hf
      · rename_i hx; subst hx; cases hf
        exact PE.imp (pe_bm0 PySem.F.plainAttrs_list PySem.F.slot_list_reverse PySem.F.type_list_reverse mf_reverse ho (base_ok X h0) hl) fun _ _ _ h => bm0_imp rfl (by decide) Mo h
      · split at hf
        · rename_i hx; subst hx; cases hf
          exact PE.imp (pe_bm0 PySem.F.plainAttrs_str PySem.F.slot_str_rstrip PySem.F.type_str_rstrip mf_rstrip ho (base_ok X h0) hl) fun _ _ _ h => bm0_imp rfl (by decide) Mo h
        · cases hf
  | e :: es, h1 =>
    cases n with
    | zero => simp [trEs] at h1
    | succ n =>
      simp only [trEs] at h1
      split at h1
      · rename_i y ys g1 g2
        cases h1
        have s1 := star_ok g1 es X.env
        obtain ⟨s2, s3, _⟩ := star_all n g2 cp X.env
        have hfew : ((backTo cp (starEach (e :: es) X.env)).all (fun x => !x.1) && (backToKw cp (keywordEach [] X.env)).all (fun x => x.1.isSome)
            && decide ((e :: es).length + ([] : List Keyword).length + (if ([] : List Keyword).isEmpty then 0 else 1) < 30)) = true := by
          rw [s1]
          show ((!false && (backTo cp (starEach es X.env)).all (fun x => !x.1)) && true && decide ((e :: es).length + 0 + 0 < 30)) = true
          rw [s3, decide_eq_true (by omega)]
          rfl
        have hlen : ¬ (e :: es).length = 0 := by simp
        unfold mfOf at hf
        rw [if_neg hlen] at hf
        split at hf
        · split at hf
          · rename_i hx; subst hx; cases hf
            exact PE.imp (pe_bm PySem.F.plainAttrs_list PySem.F.slot_list_append PySem.F.type_list_append mf_append ho ha (base_ok X h0) hfew hl s1 s2) fun _ _ _ h => bm_imp rfl (by decide) Mo M h
          · split at hf
            · rename_i hx; subst hx; cases hf
              exact PE.imp (pe_bm PySem.F.plainAttrs_list PySem.F.slot_list_extend PySem.F.type_list_extend mf_extend ho ha (base_ok X h0) hfew hl s1 s2) fun _ _ _ h => bm_imp rfl (by decide) Mo M h
            · split at hf
              · rename_i hx; subst hx; cases hf
                exact PE.imp (pe_bm PySem.F.plainAttrs_str PySem.F.slot_str_join PySem.F.type_str_join (mf_join ok.K) ho ha (base_ok X h0) hfew hl s1 s2) fun _ _ _ h => bm_imp rfl (by decide) Mo M h
              · split at hf
                · rename_i hx; subst hx; cases hf
                  exact PE.imp (pe_bm PySem.F.plainAttrs_list PySem.F.slot_list_index PySem.F.type_list_index mf_index ho ha (base_ok X h0) hfew hl s1 s2) fun _ _ _ h => bm_imp rfl (by decide) Mo M h
                · cases hf
        · split at hf
          · split at hf
            · rename_i hx; subst hx; cases hf
              exact PE.imp (pe_bm PySem.F.plainAttrs_list PySem.F.slot_list_insert PySem.F.type_list_insert mf_insert ho ha (base_ok X h0) hfew hl s1 s2) fun _ _ _ h => bm_imp rfl (by decide) Mo M h
            · split at hf
              · rename_i hx; subst hx; cases hf
                exact pe_get2 Mo M ok.K ok.pw ok.un ho ha (base_ok X h0) hfew hl s1 s2
              · cases hf
          · cases hf
      · cases h1
theorem Ok.at_of {te : TE} {X : Cx} {W : WQ} (o : Ok B G RX CXx k te X W) {x : Str} {i : Nat} (h : te.at_.findIdx? (· == x) = some i) : B.at_[i]? = some x := by
  rw [← o.an]
  exact find_slot h
theorem Ok.fi (o : Ok B G RX CXx k te X W) {x : Str} {f : Nat} (h : te.fi x = some f) : f < te.nf ∧ B.at_[f]? = some x := by
  unfold TE.fi at h
  split at h
  · rename_i i hi
    split at h
    · rename_i hn
      cases h
      exact ⟨hn, o.at_of hi⟩
    · cases h
  · cases h
theorem Ok.mi (o : Ok B G RX CXx k te X W) {x : Str} {m : Nat} {cs : List Nat} (h : te.mi x = some (m, cs)) : te.mc.lookup m = some cs ∧ B.at_[m]? = some x := by
  unfold TE.mi at h
  split at h
  · rename_i i hi
    cases e : te.mc.lookup i with
    | none => rw [e] at h; cases h
    | some l =>
      rw [e] at h
      cases h
      exact ⟨e, o.at_of hi⟩
  · cases h
/-- an own method's call -/
theorem meth_call {m : Str} {i : Nat} {cs : List Nat} {ap cp : Pos} {o : Expr} {es : List Expr} {mo : EX} {xs : List EX} (ok : Ok B G RX CXx k te X W) (hm : te.mi m = some (i, cs)) (hl : (ap.endLine == cp.line) = true) (hn : es.length < 20) (h0 : noCall0 o = true)
    (ho : PE X o (rE B G W mo)) (ha : PA X es (rA B G W xs)) (h1 : trEs n te es = some xs) : PE X (.Call (.Attribute o m ap) es [] cp) (rE B G W (.mcall i cs mo xs)) := by
  obtain ⟨g1, g2⟩ := ok.mi hm
  have fin : ∀ σ H Q, rE B G W (.mcall i cs mo xs) σ H Q → tMethD X CXx k (exW B RX W) (rE B G W mo) m (rA B G W xs) σ H Q := fun σ H Q ⟨ρ, σ', s, L, S, q⟩ => by
    refine ⟨ρ, σ', s, L, S, MonoX ok.Gm mo _ _ _ _ _ _ (fun x s1 q ρ1 H1 v p1 k1 r S1 => ?_) (fun _ _ _ h => h) q⟩
    unfold xMc at q
    cases hc : clsM s1 x i with
    | none => rw [hc] at q; exact q.elim
    | some c =>
      rw [hc] at q
      unfold clsM at hc
      split at hc
      · rename_i nn c' fs hi
        split at hc
        · rename_i hnone
          cases hc
          obtain ⟨rfl, hs⟩ := insOf_eq hi
          have rr := r
          obtain ⟨a, rfl, e⟩ := r
          obtain ⟨C, dx, l, hC, g, rf⟩ := S1.insOf e hs
          obtain ⟨C', f, fd, ps, c1, c2, c3, c4⟩ := ok.mth i cs m c g1 g2 q.1
          rw [hC] at c1
          cases c1
          refine ⟨a, C, dx, l, f, fd, ps, _, rfl, g, (RelF.get ok.ob.nm g2 rf).2 (by simpa using hnone), ok.ob.cls c C hC, c2, c3, c4, ρ1, σ', s1, L.mono p1 k1, S1, MonoXs ok.Gm xs _ _ _ _ _ _ (fun ds s2 q ρ2 H2 vs p2 k2 rs S2 => ?_) (fun _ _ _ h => LiftX.mono p1 k1 h) q.2⟩
          refine ⟨ρ2, .ref nn :: ds, s2, ⟨_, _, rfl, rr.mono p2 k2, rs⟩, S2, ok.Gm _ _ _ _ _ _ _ (fun _ _ h => Lift.mono (p1.trans p2) (k1.trans k2) h) (fun c fs s3 h ρ3 H3 cls d p3 k3 S3 rx => ⟨c, fs, ρ3, s3, rx, S3, h ρ3 H3 ((p1.trans p2).trans p3) ((k1.trans k2).trans k3) S3⟩) q⟩
        · cases hc
      · cases hc
  match es, h1, ha with
  | [], h1, ha =>
    have e0 : xs = [] := List.eq_nil_of_length_eq_zero (trEs_len n h1)
    subst e0
    refine PE.imp (pe_methD0 (CX := CXx) (k := k) ho ok.room ok.px (base_ok X h0) hl) fun σ H Q h => ?_
    obtain ⟨ρ, σ', s, L, S, q⟩ := fin σ H Q h
    refine ⟨ρ, σ', s, L, S, MonoX ok.Gm mo _ _ _ _ _ _ (fun x s1 q ρ1 H1 v p1 k1 r S1 => ?_) (fun _ _ _ h => h) q⟩
    obtain ⟨a, C, dx, fs, f, fd, ps, sp, e1, e2, e3, e4, e5, e6, e7, q⟩ := q ρ1 H1 v p1 k1 r S1
    obtain ⟨ρ2, σ2, s2, L2, S2, q⟩ := q
    exact ⟨a, C, dx, fs, f, fd, ps, sp, e1, e2, e3, e4, e5, e6, e7, q ρ2 H1 [] (List.prefix_refl _) (Keep.refl _) rfl S2⟩
  | e :: es, h1, ha =>
    cases n with
    | zero => simp [trEs] at h1
    | succ n =>
      simp only [trEs] at h1
      split at h1
      · rename_i y ys g3 g4
        cases h1
        have s1 := star_ok g3 es X.env
        obtain ⟨s2, s3, _⟩ := star_all n g4 cp X.env
        have hfew : ((backTo cp (starEach (e :: es) X.env)).all (fun x => !x.1) && (backToKw cp (keywordEach [] X.env)).all (fun x => x.1.isSome)
            && decide ((e :: es).length + ([] : List Keyword).length + (if ([] : List Keyword).isEmpty then 0 else 1) < 30)) = true := by
          rw [s1]
          show ((!false && (backTo cp (starEach es X.env)).all (fun x => !x.1)) && true && decide ((e :: es).length + 0 + 0 < 30)) = true
          rw [s3, decide_eq_true (by omega)]
          rfl
        exact PE.imp (pe_methD (CX := CXx) (k := k) ho ok.room ok.px ha (base_ok X h0) hfew hl s1 s2) fin
      · cases h1
/-- a class called -/
theorem cls_call {x : Str} {p pos : Pos} {id ar : Nat} {es : List Expr} {xs : List EX} (o : Ok B G RX CXx k te X W) (hg : te.glob x = some (.cls id ar)) (x1 : (x == ("__debug__" : Str)) = false) (h1 : trEs n te es = some xs) (A : PA X es (rA B G W xs)) :
    PE X (.Call (.Name x p) es [] pos) (rE B G W (.call id xs)) := by
  obtain ⟨g1, g2⟩ := o.glob hg
  obtain ⟨C, m1, kp, alt⟩ := o.ctr _ _ _ g2
  have star : ∀ (e : Expr) (es' : List Expr), es = e :: es' → starEach (e :: es') X.env = (false, eval e X.env) :: starEach es' X.env ∧ (backTo pos (starEach es' X.env)).any (·.1) = false := fun e es' he => by
    subst he
    cases n with
    | zero => simp [trEs] at h1
    | succ n =>
      simp only [trEs] at h1
      split at h1
      · rename_i y ys g3 g4
        exact ⟨star_ok g3 es' X.env, (star_all n g4 pos X.env).1⟩
      · cases h1
  rcases alt with ⟨fi, fd, ps, k', c, i, G', rfl, M, hb, F, hC, Gm', hG⟩ | hG
  · have fin : ∀ σ H Q, rE B G W (.call id xs) σ H Q → tMakeSD C (spD B RX G' i) (exW B RX W) (rA B G W xs) σ H Q := fun σ H Q ⟨ρ, σ', s, L, S, q⟩ => by
      refine ⟨ρ, σ', s, L, S, MonoXs o.Gm xs _ _ _ _ _ _ (fun ds s1 q ρ1 H1 vs p1 k1 rs S1 => ?_) (fun _ _ _ h => h) q⟩
      intro a dx ha hdx hne
      obtain ⟨hl, q⟩ := hG _ _ _ _ q
      have ha2 : (upd H1 dx (.own a)) a = none := by rw [upd_ne (Ne.symm hne)]; exact ha
      have k2 : Keep H1 (upd (upd H1 dx (.own a)) a (.ins C dx [])) := (Keep.new hdx).trans (.new ha2)
      have pr : ρ1 <+: ρ1 ++ [a] := List.prefix_append _ _
      have ea : (ρ1 ++ [a])[s1.length]? = some a := by
        rw [← S1.len, List.getElem?_append_right (Nat.le_refl _), Nat.sub_self]
        rfl
      have S2 : RelS B (upd (upd H1 dx (.own a)) a (.ins C dx [])) (ρ1 ++ [a]) (s1 ++ [.ins c []]) := (S1.out hdx).push ha2 ⟨_, upd_same, C, dx, [], hC, rfl, rfl⟩
      refine ⟨ρ1 ++ [a], .ref s1.length :: ds, _, ⟨.ref a, vs, rfl, ⟨a, rfl, ea⟩, rs.mono pr k2⟩, S2, Gm' _ _ _ _ _ _ _ (fun v s' h ρ3 H3 w p3 k3 r S3 => ?_) (fun c fs s3 h ρ3 H3 cls d p3 k3 S3 rx => ?_) q⟩
      · obtain ⟨rfl, h⟩ := h
        exact ⟨r, h ρ3 H3 (.ref a) (p1.trans (pr.trans p3)) (k1.trans (k2.trans k3)) ⟨a, rfl, pre_get p3 ea⟩ S3⟩
      · exact ⟨c, fs, ρ3, s3, rx, S3, h ρ3 H3 (p1.trans (pr.trans p3)) (k1.trans (k2.trans k3)) S3⟩
    match es, h1, A, star with
    | [], h1, A, _ =>
      have e0 : xs = [] := List.eq_nil_of_length_eq_zero (trEs_len n h1)
      subst e0
      refine PE.imp (pe_makeSD0 M F o.room g1 m1 hb o.px x1) fun σ H Q h => ?_
      obtain ⟨ρ, σ', s, L, S, q⟩ := fin σ H Q h
      exact q ρ H [] (List.prefix_refl _) (Keep.refl _) rfl S
    | e :: es, h1, A, star =>
      obtain ⟨s1, s2⟩ := star e es rfl
      exact PE.imp (pe_makeSD M F o.room g1 m1 hb o.px A x1 s1 s2) fin
  · match es, h1, A, star with
    | [], h1, A, _ =>
      have e0 : xs = [] := List.eq_nil_of_length_eq_zero (trEs_len n h1)
      subst e0
      exact ⟨fun pins s σ H Q I ⟨ρ, σ', st, L, S, q⟩ => (hG _ _ _ _ q).elim⟩
    | e :: es, h1, A, star =>
      obtain ⟨s1, s2⟩ := star e es rfl
      refine ⟨fun pins s σ H Q I ⟨ρ, σ', st, L, S, q⟩ => ?_⟩
      refine wpAny_Call_Name_kw (ld_glob I g1 m1 ?_ x1)
      refine PySem.W.callWith_K (h₀ := X.base) I.ok.mod.kin kp (thn (A.run pos pins s σ H (fun _ _ => False) I ⟨ρ, σ', st, L, S, MonoXs o.Gm xs _ _ _ _ _ _ (fun ds s1 q => (hG _ _ _ _ q).elim) (fun _ _ _ h => h) q⟩) fun us s1 ⟨vs, H1, I1, r, q⟩ => q.elim) s1 s2
theorem ty_of {H : Hp} {ρ : List Addr} {s : Sto} {x : D} {v : V} {t : Nat} (hK : B.K = X.K) (r : RelD B H ρ x v) (S : RelS B H ρ s) (h : tyD s x = some t) : TyX X.K H v (.type (tyNm t)) := by
  cases x <;> simp only [tyD] at h
  case non => cases h; cases (show v = .non from r); exact .base .non
  case bl b => cases h; cases (show v = .bl b from r); exact .base (.bl b)
  case int i => cases h; cases int_of r; exact .base (.int i)
  case str a => cases h; obtain ⟨rfl, _⟩ := r; exact .base (.str _)
  case tup xs =>
    cases h
    obtain ⟨a, vs, rfl, q, _⟩ := r
    rcases q with (q | ⟨ob, q⟩) | ⟨ob, its, n, q, c, _⟩
    · exact .base (.tup q)
    · exact .fTuple q
    · exact .kTuple (hK ▸ q) c
  case fl xs =>
    cases h
    obtain ⟨a, vs, rfl, q, _⟩ := r
    rcases q with ⟨ob, q⟩ | ⟨ob, its, n, q, c, _⟩
    · exact .base (.frz q)
    · exact .kList (hK ▸ q) c
  case ref n =>
    obtain ⟨a, rfl, e⟩ := r
    split at h
    · rename_i xs hs
      cases h
      obtain ⟨vs, g, _⟩ := S.lstOf e hs
      exact .base (.lst g)
    · cases h
  all_goals cases h
theorem tyD_lt {s : Sto} {x : D} {t : Nat} (h : tyD s x = some t) : t < 6 := by
  cases x <;> simp only [tyD] at h
  case ref n =>
    split at h
    · cases h; decide
    · cases h
  all_goals first | (cases h; decide) | cases h
theorem kit_tab (K : PySem.W.Frag) : ∀ a : Fin 6, ∀ b : Fin 5, PySem.W.kitOne K (.type (tyNm a)) (.type (tyNm b)) = some (a.val == b.val || (a.val == 1 && b.val == 0)) := by
  intro a b
  exact kit_ty (by
    revert a b
    decide +kernel)
theorem isi_call {x : Str} {p pos : Pos} {es : List Expr} {e : Expr} {t : Nat} {m : EX} (o : Ok B G RX CXx k te X W) (h : isiArgs te x es = some (e, t)) (he : PE X e (rE B G W m)) (hs : ∀ es env, starEach (e :: es) env = (false, eval e env) :: starEach es env) :
    PE X (.Call (.Name x p) es [] pos) (rE B G W (.blt (.isi t) [m])) := by
  unfold isiArgs at h
  split at h
  · rename_i e' T pT
    split at h
    · rename_i hx
      subst hx
      split at h
      · rename_i t' h1 h2 h3
        cases h
        obtain ⟨g1, g2⟩ := o.glob h1
        obtain ⟨g3, g4⟩ := o.glob h2
        have hT : ∃ b : Fin 5, T = (tyNm b : Str) ∧ t = b.val ∧ bootBuiltins T = some (.type (tyNm b)) ∧ T ≠ "__name__" ∧ (T == ("__debug__" : Str)) = false := by
          unfold tyCode at h3
          split at h3
          · rename_i hx; subst hx; cases h3; exact ⟨0, rfl, rfl, by decide +kernel, by decide +kernel, by decide +kernel⟩
          · split at h3
            · rename_i hx; subst hx; cases h3; exact ⟨1, rfl, rfl, by decide +kernel, by decide +kernel, by decide +kernel⟩
            · split at h3
              · rename_i hx; subst hx; cases h3; exact ⟨2, rfl, rfl, by decide +kernel, by decide +kernel, by decide +kernel⟩
              · split at h3
                · rename_i hx; subst hx; cases h3; exact ⟨3, rfl, rfl, by decide +kernel, by decide +kernel, by decide +kernel⟩
                · split at h3
                  · rename_i hx; subst hx; cases h3; exact ⟨4, rfl, rfl, by decide +kernel, by decide +kernel, by decide +kernel⟩
                  · cases h3
        obtain ⟨b, -, rfl, hv, hn1, hn2⟩ := hT
        have A : PA X [e, .Name T pT] (tCons (rE B G W m) (tCons (tC (.ty (tyNm b))) tNil)) := pa_cons he (pa_cons (pe_bltn g3 (o.blts _ g4) hv rfl hn1 hn2) pa_nil rfl) (hs _ _)
        refine PE.imp (pe_callB call_isi g1 (o.blts _ g2) (by decide +kernel) A (by decide +kernel) (by decide +kernel) (hs _ _) rfl) fun σ H Q ⟨ρ, σ', s, L, S, q⟩ => ?_
        refine ⟨ρ, σ', s, L, S, MonoX o.Gm m _ _ _ _ _ _ (fun x s1 q ρ1 H1 v p1 k1 r S1 => ?_) (fun _ _ _ h => h) q⟩
        have q : xBlt (.isi b) [x] s1 (Lift B H ρ Q) := q
        simp only [xBlt, isiD] at q
        cases e1 : tyD s1 x with
        | none => rw [e1] at q; exact q.elim
        | some a =>
          rw [e1] at q
          exact ⟨v, .ty (tyNm b), .type (tyNm a), .type (tyNm b), _, rfl, .ty _, ty_of o.K r S1 e1, kit_tab X.K ⟨a, tyD_lt e1⟩ b, Lift.here (Lift.mono p1 k1 q) rfl S1⟩
      · cases h
    · cases h
  · cases h
/-- targets -/
theorem trG_shape {n : Nat} {e : Expr} {t : TG} (h : trG te n e = some t) (es : List Expr) (env : Env) : assignEach (e :: es) env = (false, assign e env) :: assignEach es env := by
  cases n with
  | zero => simp [trG] at h
  | succ n => cases e <;> first | rfl | simp [trG] at h
theorem nm_ok (o : Ok B G RX CXx k te X W) {x : Str} {p : Pos} {i : Nat} (h : te.stor x = some i) : PG X (.Name x p) (gName i) :=
  let ⟨h1, h2⟩ := o.st x i h
  pg_name (by rw [o.N]; exact o.nd) (o.slot (stor_slot h)).1 h1 h2
mutual
theorem gw_ok (vs : List Nat) : ∀ (n : Nat) {te : TE} {X : Cx} {W : WQ} {e : Expr} {t : TG}, Ok B G RX CXx k te X W → trG te n e = some t → subT vs t = true → PG X e (gW B vs t)
  | 0, te, X, W, e, t, o, h, s => by simp [trG] at h
  | n + 1, te, X, W, e, t, o, h, s => by
    cases e <;> try (simp [trG] at h; done)
    case Name x p =>
      simp only [trG] at h
      cases e1 : te.stor x with
      | none => rw [e1] at h; cases h
      | some i =>
        rw [e1] at h
        cases h
        exact pgw_nm (by simpa [subT] using s) (nm_ok o e1)
    case Tuple es kk p =>
      simp only [trG] at h
      cases e1 : trGs te n es with
      | none => rw [e1] at h; cases h
      | some ts =>
        rw [e1] at h
        cases h
        obtain ⟨g1, g2, g3, g4⟩ := gws_ok vs n o e1 (by simpa [subT] using s)
        exact pgw_tp o.calm o.K g1 g2 g3 g4
theorem gws_ok (vs : List Nat) : ∀ (n : Nat) {te : TE} {X : Cx} {W : WQ} {es : List Expr} {ts : List TG}, Ok B G RX CXx k te X W → trGs te n es = some ts → subT.subTs vs ts = true →
    PGs X es (gWs B vs ts) ∧ ts.length = es.length ∧ (assignEach es X.env).length = es.length ∧ (assignEach es X.env).findIdx? (·.1) = none
  | 0, te, X, W, es, ts, o, h, s => by simp [trGs] at h
  | n + 1, te, X, W, [], ts, o, h, s => by
    simp [trGs] at h
    subst h
    exact ⟨pgws_nl, rfl, rfl, rfl⟩
  | n + 1, te, X, W, e :: es, ts, o, h, s => by
    simp only [trGs] at h
    split at h
    · rename_i t ts' h1 h2
      cases h
      simp only [subT.subTs, Bool.and_eq_true] at s
      obtain ⟨g1, g2, g3, g4⟩ := gws_ok vs n o h2 s.2
      have sh := trG_shape h1 es X.env
      refine ⟨pgws_cn (gw_ok vs n o h1 s.1) g1 (by rw [sh]; rfl), by rw [List.length_cons, List.length_cons, g2], by rw [sh, List.length_cons, List.length_cons, g3], ?_⟩
      rw [sh, List.findIdx?_cons, g4]
      rfl
    · cases h
end
mutual
theorem gt_ok : ∀ (n : Nat) {te : TE} {X : Cx} {W : WQ} {e : Expr} {t : TG}, Ok B G RX CXx k te X W → trG te n e = some t → PG X e (gT B t)
  | 0, te, X, W, e, t, o, h => by simp [trG] at h
  | n + 1, te, X, W, e, t, o, h => by
    cases e <;> try (simp [trG] at h; done)
    case Name x p =>
      simp only [trG] at h
      cases e1 : te.stor x with
      | none => rw [e1] at h; cases h
      | some i =>
        rw [e1] at h
        cases h
        exact pg_nm (nm_ok o e1)
    case Tuple es kk p =>
      simp only [trG] at h
      cases e1 : trGs te n es with
      | none => rw [e1] at h; cases h
      | some ts =>
        rw [e1] at h
        cases h
        obtain ⟨g1, g2, g3, g4⟩ := gts_ok n o e1
        exact pg_tp o.calm o.K g1 g2 g3 g4
theorem gts_ok : ∀ (n : Nat) {te : TE} {X : Cx} {W : WQ} {es : List Expr} {ts : List TG}, Ok B G RX CXx k te X W → trGs te n es = some ts →
    PGs X es (gTs B ts) ∧ ts.length = es.length ∧ (assignEach es X.env).length = es.length ∧ (assignEach es X.env).findIdx? (·.1) = none
  | 0, te, X, W, es, ts, o, h => by simp [trGs] at h
  | n + 1, te, X, W, [], ts, o, h => by
    simp [trGs] at h
    subst h
    exact ⟨pgs_nl, rfl, rfl, rfl⟩
  | n + 1, te, X, W, e :: es, ts, o, h => by
    simp only [trGs] at h
    split at h
    · rename_i t ts' h1 h2
      cases h
      obtain ⟨g1, g2, g3, g4⟩ := gts_ok n o h2
      have sh := trG_shape h1 es X.env
      refine ⟨pgs_cn (gt_ok n o h1) g1 (by rw [sh]; rfl), by rw [List.length_cons, List.length_cons, g2], by rw [sh, List.length_cons, List.length_cons, g3], ?_⟩
      rw [sh, List.findIdx?_cons, g4]
      rfl
    · cases h
end
theorem lit_ok {c : Const} {d : D} {kk : Nat} {pos : Pos} (h : litOf c = some d) : PE X (.Constant c kk pos) (rE B G W (.lit d)) := by
  cases c <;> simp only [litOf] at h <;> try cases h
  case none => exact pe_lit pe_non fun _ _ => rfl
  case bool b => exact pe_lit pe_bl fun _ _ => rfl
  case int i => exact pe_lit pe_int fun _ _ => rfl
  case str x =>
    split at h
    · rename_i hc
      cases h
      unfold strC at hc
      rw [Bool.and_eq_true] at hc
      refine pe_lit pe_str fun _ _ => ⟨by rw [Array.toArray_toList], of_decide_eq_true hc.1, fun c hcm => ?_⟩
      exact of_decide_eq_true (List.all_eq_true.mp hc.2 c hcm)
    · cases h
theorem binop_ok (o : Ok B G RX CXx k te X W) {op : Operator} (h : opOk op = true) : OpR X (binaryOp op) (rO B (xBin op)) := by
  cases op <;> simp only [opOk] at h
  case Add => exact or_add o.K
  case Sub => exact or_sub
  case Mult => exact or_mul
  case FloorDiv => exact or_fdiv
  case Mod => exact or_mod
  case Pow => exact or_pow
  all_goals cases h
theorem mono_if (hG : G.Mono) (cs : List EX) : ∀ σ s K K', (∀ b s, K b s → K' b s) → xIf G cs σ s K → xIf G cs σ s K' := fun σ s K K' hK h => xIf_mono hG cs hK h
theorem pes_succ (he : PEs B G RX CXx k n) (hl : PLs B G RX CXx k n) (ha : PAs B G RX CXx k n) (ho : POs B G RX CXx k n) (hi : PIs B G RX CXx k n) (hd : PDs B G RX CXx k n) : PEs B G RX CXx k (n + 1) := by
  intro te X W e ir o h
  -- a term whose test is its truth
  have plain : ∀ {e : Expr} {ir : EX}, (∀ a p, e ≠ .UnaryOp .Not a p) → (∀ op vs p, e ≠ .BoolOp op vs p) → (∀ a ops cs p, e ≠ .Compare a ops cs p) → PE X e (rE B G W ir) → PE X e (rE B G W ir) ∧ (tok e = true → PT X e (rT B G W ir)) :=
    fun {e ir} h1 h2 h3 p => ⟨p, fun ht => pt_tr o.K (MonoX o.Gm ir) p (truth_ok X ht h1 h2 h3)⟩
  cases e <;> try (simp [trE] at h; done)
  case Constant c kk pos =>
    simp only [trE] at h
    cases e1 : litOf c with
    | none => rw [e1] at h; cases h
    | some d =>
      rw [e1] at h
      cases h
      exact plain (by intro a p z; cases z) (by intro a b c z; cases z) (by intro a b c d z; cases z) (lit_ok e1)
  case Name x pos =>
    simp only [trE] at h
    split at h
    · cases h
    · rename_i hx
      rw [Bool.or_eq_true, not_or] at hx
      have x1 : (x == ("__debug__" : Str)) = false := by simpa using hx.1
      have x2 : (x == ("__classdict__" : Str)) = false := by simpa using hx.2
      refine plain (by intro a p z; cases z) (by intro a b c z; cases z) (by intro a b c d z; cases z) ?_
      split at h
      · rename_i i hs
        cases h
        obtain ⟨g1, g2⟩ := o.slot hs
        exact pe_vr (pe_var g1 g2 x1 x2)
      · split at h
        · rename_i d hg
          cases h
          obtain ⟨g1, g2⟩ := o.glob hg
          obtain ⟨v, u, g3, g4, g5⟩ := o.csts _ _ g2
          exact pe_lit (pe_glob g1 g3 g4 x1) g5
        · cases h
  case BinOp a op b pos =>
    simp only [trE] at h
    split at h
    · rename_i hop
      split at h
      · rename_i x y h1 h2
        cases h
        exact plain (by intro a p z; cases z) (by intro a b c z; cases z) (by intro a b c d z; cases z) (pe_bin (MonoX o.Gm x) (MonoX o.Gm y) (binop_ok o hop) (he te X W a x o h1).1 (he te X W b y o h2).1)
      · cases h
    · cases h
  case UnaryOp op a pos =>
    cases op <;> try (simp [trE] at h; done)
    case Not =>
      simp only [trE] at h
      split at h
      · rename_i ht
        cases e1 : trE n te a with
        | none => rw [e1] at h; cases h
        | some x =>
          rw [e1] at h
          cases h
          obtain ⟨g1, g2⟩ := he te X W a x o e1
          exact ⟨pe_nt o.K (MonoX o.Gm x) g1, fun _ => pt_nt o.K (MonoX o.Gm x) (g2 ht)⟩
      · cases h
    case USub =>
      simp only [trE] at h
      cases e1 : trE n te a with
      | none => rw [e1] at h; cases h
      | some x =>
        rw [e1] at h
        cases h
        exact plain (by intro a p z; cases z) (by intro a b c z; cases z) (by intro a b c d z; cases z) (pe_ng (MonoX o.Gm x) (he te X W a x o e1).1)
  case Compare a ops cs pos =>
    match ops, cs, h with
    | [op], [b], h =>
      simp only [trE] at h
      split at h
      · cases h
      · rename_i hm
        split at h
        · rename_i x y h1 h2
          cases h
          have hm' : behindInMarks op b = false := by simpa using hm
          exact ⟨pe_cm (MonoX o.Gm x) (MonoX o.Gm y) (or_cmp o.K o.pw o.un op) (he te X W a x o h1).1 (he te X W b y o h2).1 hm', fun _ => pt_cm (MonoX o.Gm x) (MonoX o.Gm y) (or_cmp o.K o.pw o.un op) (he te X W a x o h1).1 (he te X W b y o h2).1 hm'⟩
        · cases h
    | [op, op'], [b, c], h =>
      simp only [trE] at h
      split at h
      · cases h
      · rename_i hm
        split at h
        · rename_i x y z h1 h2 h3
          cases h
          have hm' : lastMarks [op, op'] [b, c] = false := by simpa using hm
          exact ⟨pe_chn (MonoX o.Gm x) (MonoX o.Gm y) (MonoX o.Gm z) (or_cmp o.K o.pw o.un op) (or_cmp o.K o.pw o.un op') (he te X W a x o h1).1 (he te X W b y o h2).1 (he te X W c z o h3).1 hm',
            fun _ => pt_chn (MonoX o.Gm x) (MonoX o.Gm y) (MonoX o.Gm z) (or_cmp o.K o.pw o.un op) (or_cmp o.K o.pw o.un op') (he te X W a x o h1).1 (he te X W b y o h2).1 (he te X W c z o h3).1 hm'⟩
        · cases h
    | [], _, h => simp [trE] at h
    | [_], [], h => simp [trE] at h
    | [_], _ :: _ :: _, h => simp [trE] at h
    | [_, _], [], h => simp [trE] at h
    | [_, _], [_], h => simp [trE] at h
    | [_, _], _ :: _ :: _ :: _, h => simp [trE] at h
    | _ :: _ :: _ :: _, _, h => simp [trE] at h
  case BoolOp op vs pos =>
    simp only [trE] at h
    obtain ⟨g1, g2⟩ := hl te X W op vs ir pos o h
    exact ⟨g1, fun _ => PW.pt g2⟩
  case IfExp c a b pos =>
    simp only [trE] at h
    split at h
    · rename_i ht
      split at h
      · rename_i x y z h1 h2 h3
        cases h
        exact ⟨pe_it o.K (MonoX o.Gm x) (MonoX o.Gm y) (MonoX o.Gm z) ((he te X W c x o h1).2 ht) (he te X W a y o h2).1 (he te X W b z o h3).1, fun z => by simp [tok] at z⟩
      · cases h
    · cases h
  case Tuple es kk pos =>
    simp only [trE] at h
    cases e1 : trEs n te es with
    | none => rw [e1] at h; cases h
    | some xs =>
      rw [e1] at h
      cases h
      exact plain (by intro a p z; cases z) (by intro a b c z; cases z) (by intro a b c d z; cases z) (pe_tp (MonoXs o.Gm xs) (ha te X W es xs o e1).1)
  case List es pos =>
    simp only [trE] at h
    cases e1 : trEs n te es with
    | none => rw [e1] at h; cases h
    | some xs =>
      rw [e1] at h
      cases h
      exact plain (by intro a p z; cases z) (by intro a b c z; cases z) (by intro a b c d z; cases z) (pe_ls (MonoXs o.Gm xs) (ha te X W es xs o e1).1)
  case Dict keys vals pos =>
    simp only [trE] at h
    split at h
    · rename_i hk
      cases e1 : trKV n te keys vals with
      | none => rw [e1] at h; cases h
      | some irs =>
        rw [e1] at h
        cases h
        obtain ⟨ms, g1, g2, g3, g4, g5⟩ := hd te X W keys vals irs o e1
        refine plain (by intro a p z; cases z) (by intro a b c z; cases z) (by intro a b c d z; cases z) (PE.imp (pe_dct g1 (g2 pos) g3 g4 (fun z => by rw [z] at hk; simp at hk) hk.2) fun σ H Q ⟨ρ, σ', s, L, S, q⟩ => ⟨ρ, σ', s, L, S, ?_⟩)
        simp only [xE] at q
        rw [g5] at q
        exact q
    · cases h
  case Subscript a b pos =>
    refine plain (by intro a p z; cases z) (by intro a b c z; cases z) (by intro a b c d z; cases z) ?_
    by_cases hs : ∃ lo hi p2, b = .Slice lo hi none p2
    · obtain ⟨lo, hi, p2, rfl⟩ := hs
      simp only [trE] at h
      split at h
      · rename_i x y z h1 h2 h3
        cases h
        exact pe_sl (MonoX o.Gm x) (MonoX o.Gm y) (MonoX o.Gm z) o.K (he te X W a x o h1).1 (ho te X W lo y o h2) (ho te X W hi z o h3)
      · cases h
    · by_cases hr : ∃ kk p1 p2 p3, b = .Slice none none (some (.UnaryOp .USub (.Constant (.int 1) kk p1) p2)) p3
      · obtain ⟨kk, p1, p2, p3, rfl⟩ := hr
        simp only [trE] at h
        cases e1 : trE n te a with
        | none => rw [e1] at h; cases h
        | some x =>
          rw [e1] at h
          cases h
          exact pe_rv (MonoX o.Gm x) o.K (he te X W a x o e1).1
      have hb : trE (n + 1) te (.Subscript a b pos) = if isSlice b then none else match trE n te a, trE n te b with
        | some x, some y => some (.ix x y)
        | _, _ => none := by
        rw [trE]
        all_goals first
          | rfl
          | (intro lo hi p2 z; exact hs ⟨lo, hi, p2, z⟩)
          | (intro kk p1 p2 p3 z; exact hr ⟨kk, p1, p2, p3, z⟩)
      rw [hb] at h
      split at h
      · cases h
      · rename_i hsl
        split at h
        · rename_i x y h1 h2
          cases h
          exact pe_ixx (MonoX o.Gm x) (MonoX o.Gm y) o.K o.pw o.un (he te X W a x o h1).1 (he te X W b y o h2).1 (ixPlain (by simpa using hsl))
        · cases h
  case Attribute oo x pos =>
    refine plain (by intro a p z; cases z) (by intro a b c z; cases z) (by intro a b c d z; cases z) ?_
    simp only [trE] at h
    split at h
    · rename_i h0
      split at h
      · rename_i f m hf h1
        cases h
        obtain ⟨f1, f2⟩ := o.fi hf
        exact pe_fl (MonoX o.Gm m) o.ob f1 f2 (he te X W oo m o h1).1 (base_ok X h0)
      · cases h
    · cases h
  case DictComp kx vx gs scope pos =>
    refine plain (by intro a p z; cases z) (by intro a b c z; cases z) (by intro a b c d z; cases z) ?_
    match gs, h with
    | [], h => simp [trE] at h
    | _ :: _ :: _, h => simp [trE] at h
    | [⟨tg, it, ifs, as⟩], h =>
      by_cases has : as = 0
      · subst has
        simp only [trE] at h
        split at h
        · rename_i hb
          split at h
          · rename_i ik its t cs ek ev h1 h2 h3 h4 h5
            split at h
            · rename_i hc
              cases h
              rw [Bool.and_eq_true, Bool.and_eq_true, Bool.and_eq_true] at hc
              have hbk : blkC X.N X.env.scope scope (ownOf scope te) = true := by
                rw [o.N]
                unfold blkC at hb ⊢
                rw [o.sc]
                exact hb
              have O := fun s H C cl fp => o.blk hb s H C cl fp
              obtain ⟨i1, i2⟩ := hi te X W tg it ik its o h1 hc.2
              refine PE.imp (pe_dc (tt := tTi B fun σ s K => xIf G cs σ s K) (tk := tO B W0 fun σ s Q E => xE G ek σ s Q E) (tv := tO B W0 fun σ s Q E => xE G ev σ s Q E) (g := gW B ((ownOf scope te).map (·.2)) t) o.calm (by rw [o.N]; exact o.nd) i1 (blkOk_by hbk)
                (fun s H C cl fp => gw_ok _ n (O s H C cl fp) h2 hc.1.1.1) (fun s H C cl fp => ?_) (fun s H C cl fp => (he _ _ _ _ _ (O s H C cl fp) h4).1) (fun s H C cl fp => (he _ _ _ _ _ (O s H C cl fp) h5).1) i2) fun σ H Q h => dc_imp (MonoXs o.Gm its) (mono_if o.Gm cs) (MonoX o.Gm ek) (MonoX o.Gm ev) h
              exact (ha _ _ _ _ _ (O s H C cl fp) h3).2 rfl (by simpa using hc.1.1.2) hc.1.2
            · cases h
          · cases h
        · cases h
      · match as, has, h with
        | .ofNat 0, has, h => exact absurd rfl has
        | .ofNat (m + 1), _, h =>
          have e0 : trE (n + 1) te (.DictComp kx vx [⟨tg, it, ifs, Int.ofNat (m + 1)⟩] scope pos) = none := rfl
          rw [e0] at h
          cases h
        | .negSucc m, _, h => simp [trE] at h
  case Call f es kws pos =>
    refine plain (by intro a p z; cases z) (by intro a b c z; cases z) (by intro a b c d z; cases z) ?_
    cases kws with
    | cons kw r => cases f <;> simp [trE] at h
    | nil =>
      cases f <;> try (simp [trE] at h; done)
      case Name x p =>
        simp only [trE] at h
        split at h
        · cases h
        · rename_i hx
          rw [Bool.or_eq_true, not_or] at hx
          have x1 : (x == ("__debug__" : Str)) = false := by simpa using hx.1
          split at h
          · rename_i e t hisi
            cases e1 : trE n te e with
            | none => rw [e1] at h; cases h
            | some m =>
              rw [e1] at h
              cases h
              exact isi_call o hisi (he te X W e m o e1).1 (star_ok e1)
          split at h
          · rename_i id ar hg
            split at h
            · rename_i har
              cases e1 : trEs n te es with
              | none => rw [e1] at h; cases h
              | some xs =>
                rw [e1] at h
                cases h
                obtain ⟨g1, g2⟩ := o.glob hg
                obtain ⟨fa, fd, ps, m1, m2, m3, m4, F⟩ := o.fns _ _ _ g2
                have px := o.px
                have A := (ha te X W es xs o e1).1
                have fin : ∀ σ H Q, rE B G W (.call id xs) σ H Q → tCallSD (spD B RX G id) [] (exW B RX W) (rA B G W xs) σ H Q := fun σ H Q ⟨ρ, σ', s, L, S, q⟩ =>
                  ⟨ρ, σ', s, L, S, MonoXs o.Gm xs _ _ _ _ _ _ (fun ds s1 q ρ1 H1 vs p1 k1 rs S1 => by
                    show spD B RX G id (vs ++ []) H1 Q (exW B RX W σ)
                    rw [List.append_nil]
                    exact ⟨ρ1, ds, s1, rs, S1, o.Gm _ _ _ _ _ _ _ (fun _ _ h => Lift.mono p1 k1 h) (fun c fs s2 h ρ2 H2 cls d p2 k2 S2 rx => ⟨c, fs, ρ2, s2, rx, S2, h ρ2 H2 (p1.trans p2) (k1.trans k2) S2⟩) q⟩) (fun _ _ _ h => h) q⟩
                match es, e1, A with
                | [], e1, A =>
                  have e0 : xs = [] := List.eq_nil_of_length_eq_zero (trEs_len n e1)
                  subst e0
                  exact PE.imp (pe_callSD0 F o.room g1 m1 m2 m3 .nil px x1) fun σ H Q h => by
                    obtain ⟨ρ, σ', s, L, S, q⟩ := fin σ H Q h
                    exact q ρ H [] (List.prefix_refl _) (Keep.refl _) rfl S
                | e :: es, e1, A =>
                  cases n with
                  | zero => simp [trEs] at e1
                  | succ n =>
                    simp only [trEs] at e1
                    split at e1
                    · rename_i y ys g3 g4
                      have s1 := star_ok g3 es X.env
                      obtain ⟨s2, _, _⟩ := star_all n g4 pos X.env
                      exact PE.imp (pe_callSD F o.room g1 m1 m2 m3 .nil px A x1 s1 s2) fin
                    · cases e1
            · cases h
          · rename_i id ar hg
            split at h
            · cases e1 : trEs n te es with
              | none => rw [e1] at h; cases h
              | some xs =>
                rw [e1] at h
                cases h
                exact cls_call o hg x1 e1 (ha te X W es xs o e1).1
            · cases h
          · rename_i hg
            split at h
            · rename_i f xs hf e1
              cases h
              obtain ⟨g1, g2⟩ := o.glob hg
              have A := (ha te X W es xs o e1).1
              match es, e1, A, hf with
              | [], e1, A, hf => simp [bfOf] at hf
              | e :: es, e1, A, hf =>
                cases n with
                | zero => simp [trEs] at e1
                | succ n =>
                  simp only [trEs] at e1
                  split at e1
                  · rename_i y ys g3 g4
                    have s1 := star_ok g3 es X.env
                    obtain ⟨s2, _, _⟩ := star_all n g4 pos X.env
                    exact bf_call o hf g1 (o.blts _ g2) A s1 s2
                  · cases e1
            · cases h
          · cases h
      case Attribute oo m ap =>
        simp only [trE] at h
        split at h
        · rename_i hc
          split at h
          · rename_i i cs hm
            split at h
            · rename_i x xs h1 h2
              cases h
              exact meth_call o hm hc.1 hc.2.1 hc.2.2 (he te X W oo x o h1).1 (ha te X W es xs o h2).1 h2
            · cases h
          split at h
          · rename_i f x xs hf h1 h2
            cases h
            exact mf_call o hf hc.1 hc.2.1 hc.2.2 (he te X W oo x o h1).1 (ha te X W es xs o h2).1 h2
          · cases h
        · cases h
  case ListComp elt gs scope pos =>
    refine plain (by intro a p z; cases z) (by intro a b c z; cases z) (by intro a b c d z; cases z) ?_
    match gs, h with
    | [], h => simp [trE] at h
    | _ :: _ :: _, h => simp [trE] at h
    | [⟨tg, it, ifs, as⟩], h =>
      by_cases has : as = 0
      · subst has
        simp only [trE] at h
        split at h
        · rename_i hb
          split at h
          · rename_i ik its t cs e h1 h2 h3 h4
            split at h
            · rename_i hc
              cases h
              rw [Bool.and_eq_true, Bool.and_eq_true, Bool.and_eq_true] at hc
              have hbk : blkC X.N X.env.scope scope (ownOf scope te) = true := by
                rw [o.N]
                unfold blkC at hb ⊢
                rw [o.sc]
                exact hb
              have O := fun s H C cl fp => o.blk hb s H C cl fp
              obtain ⟨i1, i2⟩ := hi te X W tg it ik its o h1 hc.2
              refine PE.imp (pe_lc (tt := tTi B fun σ s K => xIf G cs σ s K) (te := tO B W0 fun σ s Q E => xE G e σ s Q E) (g := gW B ((ownOf scope te).map (·.2)) t) o.calm (by rw [o.N]; exact o.nd) i1 (blkOk_by hbk)
                (fun s H C cl fp => gw_ok _ n (O s H C cl fp) h2 hc.1.1.1) (fun s H C cl fp => ?_) (fun s H C cl fp => (he _ _ _ _ _ (O s H C cl fp) h4).1) i2) fun σ H Q h => lc_imp (MonoXs o.Gm its) (mono_if o.Gm cs) (MonoX o.Gm e) h
              exact (ha _ _ _ _ _ (O s H C cl fp) h3).2 rfl (by simpa using hc.1.1.2) hc.1.2
            · cases h
          · cases h
        · cases h
      · match as, has, h with
        | .ofNat 0, has, h => exact absurd rfl has
        | .ofNat (m + 1), _, h =>
          have e0 : trE (n + 1) te (.ListComp elt [⟨tg, it, ifs, Int.ofNat (m + 1)⟩] scope pos) = none := rfl
          rw [e0] at h
          cases h
        | .negSucc m, _, h => simp [trE] at h
theorem zero_all : PEs B G RX CXx k 0 ∧ PLs B G RX CXx k 0 ∧ PAs B G RX CXx k 0 ∧ POs B G RX CXx k 0 ∧ PIs B G RX CXx k 0 ∧ PDs B G RX CXx k 0 :=
  ⟨fun te X W e ir o h => by simp [trE] at h, fun te X W op es ir pos o h => by simp [trL] at h, fun te X W es irs o h => by simp [trEs] at h, fun te X W e ir o h => by simp [trO] at h, fun te X W tg e ik its o h => by simp [trI] at h, fun te X W keys vals irs o h => by simp [trKV] at h⟩
theorem snd_all : ∀ n, PEs B G RX CXx k n ∧ PLs B G RX CXx k n ∧ PAs B G RX CXx k n ∧ POs B G RX CXx k n ∧ PIs B G RX CXx k n ∧ PDs B G RX CXx k n
  | 0 => zero_all
  | n + 1 => let ⟨he, hl, ha, ho, hi, hd⟩ := snd_all n
    ⟨pes_succ he hl ha ho hi hd, pls_succ he hl, pas_succ he ha, pos_succ he, pis_succ he ha, pds_succ he hd⟩
/-! ### statements -/
theorem no_sw {e : Expr} (h : noComp e = true) (t : Option Expr) (l : Nat) (env : Env) : swapsWith e t l env = pure false := by
  cases e <;> first | rfl | simp [noComp] at h
theorem sw_false {elt : Expr} {gs : List Comprehension} {scope : Scope} {pos py : Pos} {y : Str} {l : Nat} (o : Ok B G RX CXx k te X W) (h : swB te scope pos y py = false) : swapsWith (.ListComp elt gs scope pos) (some (.Name y py)) l X.env = pure false := by
  have hb : X.env.blockKind = .function := by unfold Env.blockKind; rw [o.kd]; rfl
  have hk : X.env.kindOf y = te.sc.lookup y := by
    show X.env.scope.names.lookup y = _
    rw [o.sc]
  unfold swB at h
  unfold swapsWith
  simp only [hb, hk, Expr.pos]
  rw [show ((ScopeKind.function == ScopeKind.function) : Bool) = true from rfl, Bool.true_and, h]
theorem sw_tr {elt : Expr} {gs : List Comprehension} {scope : Scope} {pos py : Pos} {y : Str} {l : Nat} (o : Ok B G RX CXx k te X W) (h : swB te scope pos y py = true) : swapsWith (.ListComp elt gs scope pos) (some (.Name y py)) l X.env = pure true := by
  have hb : X.env.blockKind = .function := by unfold Env.blockKind; rw [o.kd]; rfl
  have hk : X.env.kindOf y = te.sc.lookup y := by
    show X.env.scope.names.lookup y = _
    rw [o.sc]
  unfold swB at h
  unfold swapsWith
  simp only [hb, hk, Expr.pos]
  rw [show ((ScopeKind.function == ScopeKind.function) : Bool) = true from rfl, Bool.true_and, h]
theorem sw_falseD {kx vx : Expr} {gs : List Comprehension} {scope : Scope} {pos py : Pos} {y : Str} {l : Nat} (o : Ok B G RX CXx k te X W) (h : swB te scope pos y py = false) : swapsWith (.DictComp kx vx gs scope pos) (some (.Name y py)) l X.env = pure false := by
  have hb : X.env.blockKind = .function := by unfold Env.blockKind; rw [o.kd]; rfl
  have hk : X.env.kindOf y = te.sc.lookup y := by
    show X.env.scope.names.lookup y = _
    rw [o.sc]
  unfold swB at h
  unfold swapsWith
  simp only [hb, hk, Expr.pos]
  rw [show ((ScopeKind.function == ScopeKind.function) : Bool) = true from rfl, Bool.true_and, h]
theorem sw_trD {kx vx : Expr} {gs : List Comprehension} {scope : Scope} {pos py : Pos} {y : Str} {l : Nat} (o : Ok B G RX CXx k te X W) (h : swB te scope pos y py = true) : swapsWith (.DictComp kx vx gs scope pos) (some (.Name y py)) l X.env = pure true := by
  have hb : X.env.blockKind = .function := by unfold Env.blockKind; rw [o.kd]; rfl
  have hk : X.env.kindOf y = te.sc.lookup y := by
    show X.env.scope.names.lookup y = _
    rw [o.sc]
  unfold swB at h
  unfold swapsWith
  simp only [hb, hk, Expr.pos]
  rw [show ((ScopeKind.function == ScopeKind.function) : Bool) = true from rfl, Bool.true_and, h]
/-- name = value -/
theorem set_ok' (o : Ok B G RX CXx k te X W) {x : Str} {py pos : Pos} {e : Expr} {i n : Nat} {m : EX} (hs : te.stor x = some i) (h : trE (n + 1) te e = some m) : PS X (.Assign [.Name x py] e pos) (tAsg (rE B G W m) (gName i)) := by
  obtain ⟨he, hl, ha, ho, hi, hd⟩ := snd_all (B := B) (G := G) (RX := RX) (CXx := CXx) (k := k) (n + 1)
  obtain ⟨s1, s2⟩ := o.st x i hs
  have hN : X.N.Nodup := by rw [o.N]; exact o.nd
  have hx := (o.slot (stor_slot hs)).1
  have plain : swapsWith e (some (.Name x py)) pos.line X.env = pure false → PS X (.Assign [.Name x py] e pos) (tAsg (rE B G W m) (gName i)) := fun hw =>
    ps_set hN hx s1 (he te X W e m o h).1 hw s2
  by_cases hc : noComp e = true
  · exact plain (no_sw hc _ _ _)
  · cases e <;> try (simp [noComp] at hc; done)
    case ListComp elt gs scope lpos =>
      cases hsw : swB te scope lpos x py with
      | false => exact plain (sw_false o hsw)
      | true =>
        have hlo : X.env.scope.names.lookup x = some .local := by
          unfold swB at hsw
          rw [Bool.and_eq_true, Bool.and_eq_true] at hsw
          rw [o.sc]
          simpa using hsw.1.1
        match gs, h with
        | [], h => simp [trE] at h
        | _ :: _ :: _, h => simp [trE] at h
        | [⟨tg, it, ifs, as⟩], h =>
          by_cases has : as = 0
          · subst has
            simp only [trE] at h
            split at h
            · rename_i hb
              split at h
              · rename_i ik its t cs e h1 h2 h3 h4
                split at h
                · rename_i hc
                  cases h
                  rw [Bool.and_eq_true, Bool.and_eq_true, Bool.and_eq_true] at hc
                  obtain ⟨he, hl, ha, ho, hi, hd⟩ := snd_all (B := B) (G := G) (RX := RX) (CXx := CXx) (k := k) n
                  have hbk : blkC X.N X.env.scope scope (ownOf scope te) = true := by
                    rw [o.N]
                    unfold blkC at hb ⊢
                    rw [o.sc]
                    exact hb
                  have O := fun s H C cl fp => o.blk hb s H C cl fp
                  obtain ⟨i1, i2⟩ := hi te X W tg it ik its o h1 hc.2
                  refine PS.imp (ps_setLc (tt := tTi B fun σ s K => xIf G cs σ s K) (te := tO B W0 fun σ s Q E => xE G e σ s Q E) (g := gW B ((ownOf scope te).map (·.2)) t) o.calm hN hx hlo (sw_tr o hsw) i1 (blkOk_by hbk)
                    (fun s H C cl fp => gw_ok _ n (O s H C cl fp) h2 hc.1.1.1) (fun s H C cl fp => (ha _ _ _ _ _ (O s H C cl fp) h3).2 rfl (by simpa using hc.1.1.2) hc.1.2) (fun s H C cl fp => (he _ _ _ _ _ (O s H C cl fp) h4).1) i2) fun D σ H h => ?_
                  exact lc_imp (W := W) (MonoXs o.Gm its) (mono_if o.Gm cs) (MonoX o.Gm e) h
                · cases h
              · cases h
            · cases h
          · match as, has, h with
            | .ofNat 0, has, h => exact absurd rfl has
            | .ofNat (m + 1), _, h =>
              have e0 : trE (n + 1) te (.ListComp elt [⟨tg, it, ifs, Int.ofNat (m + 1)⟩] scope lpos) = none := rfl
              rw [e0] at h
              cases h
            | .negSucc m, _, h => simp [trE] at h
    case DictComp kx vx gs scope lpos =>
      cases hsw : swB te scope lpos x py with
      | false => exact plain (sw_falseD o hsw)
      | true =>
        have hlo : X.env.scope.names.lookup x = some .local := by
          unfold swB at hsw
          rw [Bool.and_eq_true, Bool.and_eq_true] at hsw
          rw [o.sc]
          simpa using hsw.1.1
        match gs, h with
        | [], h => simp [trE] at h
        | _ :: _ :: _, h => simp [trE] at h
        | [⟨tg, it, ifs, as⟩], h =>
          by_cases has : as = 0
          · subst has
            simp only [trE] at h
            split at h
            · rename_i hb
              split at h
              · rename_i ik its t cs ek ev h1 h2 h3 h4 h5
                split at h
                · rename_i hc
                  cases h
                  rw [Bool.and_eq_true, Bool.and_eq_true, Bool.and_eq_true] at hc
                  obtain ⟨he, hl, ha, ho, hi, hd⟩ := snd_all (B := B) (G := G) (RX := RX) (CXx := CXx) (k := k) n
                  have hbk : blkC X.N X.env.scope scope (ownOf scope te) = true := by
                    rw [o.N]
                    unfold blkC at hb ⊢
                    rw [o.sc]
                    exact hb
                  have O := fun s H C cl fp => o.blk hb s H C cl fp
                  obtain ⟨i1, i2⟩ := hi te X W tg it ik its o h1 hc.2
                  refine PS.imp (ps_setDc (tt := tTi B fun σ s K => xIf G cs σ s K) (tk := tO B W0 fun σ s Q E => xE G ek σ s Q E) (te := tO B W0 fun σ s Q E => xE G ev σ s Q E) (g := gW B ((ownOf scope te).map (·.2)) t) o.calm hN hx hlo (sw_trD o hsw) i1 (blkOk_by hbk)
                    (fun s H C cl fp => gw_ok _ n (O s H C cl fp) h2 hc.1.1.1) (fun s H C cl fp => (ha _ _ _ _ _ (O s H C cl fp) h3).2 rfl (by simpa using hc.1.1.2) hc.1.2) (fun s H C cl fp => (he _ _ _ _ _ (O s H C cl fp) h4).1) (fun s H C cl fp => (he _ _ _ _ _ (O s H C cl fp) h5).1) i2) fun D σ H h => ?_
                  exact dc_imp (W := W) (MonoXs o.Gm its) (mono_if o.Gm cs) (MonoX o.Gm ek) (MonoX o.Gm ev) h
                · cases h
              · cases h
            · cases h
          · match as, has, h with
            | .ofNat 0, has, h => exact absurd rfl has
            | .ofNat (m + 1), _, h =>
              have e0 : trE (n + 1) te (.DictComp kx vx [⟨tg, it, ifs, Int.ofNat (m + 1)⟩] scope lpos) = none := rfl
              rw [e0] at h
              cases h
            | .negSucc m, _, h => simp [trE] at h
    all_goals simp [trE] at h
/-- a body -/
structure OkS (B : Tb) (G : FS) (RX : RXT) (CXx : CXT) (k : Nat) (te : TE) (X : Cx) (W : WQ) : Prop extends Ok B G RX CXx k te X W where
  po : PassesOwn (model X.prog X.w) X.A X.env X.xe
abbrev rS' (B : Tb) (G : FS) (W : WQ) (e : ST) : TS := tS B W fun σ s N => xS G e σ s N
abbrev rSs (B : Tb) (G : FS) (W : WQ) (e : List ST) : TS := tS B W fun σ s N => xSs G e σ s N
def PSS (B : Tb) (G : FS) (RX : RXT) (CXx : CXT) (k n : Nat) : Prop := (∀ te X W st ir, OkS B G RX CXx k te X W → trS n te st = some ir → PS X st (rS' B G W ir)) ∧ (∀ te X W st ir, OkS B G RX CXx k te X W → trSs n te st = some ir → PSs X st (rSs B G W ir))
theorem sts_succ (ih : PSS B G RX CXx k n) : PSS B G RX CXx k (n + 1) := by
  obtain ⟨ih1, ih2⟩ := ih
  obtain ⟨he, hl, ha, ho, hi, hd⟩ := snd_all (B := B) (G := G) (RX := RX) (CXx := CXx) (k := k) n
  refine ⟨fun te X W st ir o h => ?_, fun te X W st ir o h => ?_⟩
  · cases st <;> try (simp [trS] at h; done)
    case Return e pos =>
      cases e with
      | none =>
        simp only [trS] at h
        cases h
        exact ps_rtN
      | some e =>
        simp only [trS] at h
        cases e1 : trE n te e with
        | none => rw [e1] at h; cases h
        | some m =>
          rw [e1] at h
          cases h
          exact ps_rt (MonoX o.Gm m) (he te X W e m o.toOk e1).1
    case Assign ts e pos =>
      cases ts with
      | nil => simp [trS] at h
      | cons tg r =>
       cases r with
       | cons t2 r2 =>
        have e0 : trS (n + 1) te (.Assign (tg :: t2 :: r2) e pos) = none := by cases tg <;> rfl
        rw [e0] at h
        cases h
       | nil =>
        cases tg <;> try (simp [trS] at h; done)
        case Name x py =>
          simp only [trS] at h
          split at h
          · rename_i i m h1 h2
            cases h
            cases n with
            | zero => simp [trE] at h2
            | succ n => exact ps_nmset (MonoX o.Gm m) (set_ok' o.toOk h1 h2)
          · cases h
        case Tuple ts kk p =>
          simp only [trS] at h
          split at h
          · cases h
          · rename_i ht
            split at h
            · rename_i t m h1 h2
              cases h
              refine ps_as (MonoX o.Gm m) (he te X W e m o.toOk h2).1 (gt_ok n o.toOk h1) fun {g} hg => ps_asg (he te X W e m o.toOk h2).1 hg ?_ ?_ rfl
              · cases e <;> rfl
              · cases e <;> first | rfl | simp [isTup] at ht
            · cases h
        case Attribute oo x p =>
          simp only [trS] at h
          split at h
          · rename_i f m v hf h1 h2
            cases h
            obtain ⟨f1, f2⟩ := o.toOk.fi hf
            exact ps_fs (MonoX o.Gm m) (MonoX o.Gm v) o.ob f1 f2 (he te X W oo m o.toOk h1).1 (he te X W e v o.toOk h2).1
          · cases h
        case Subscript oo i p =>
          simp only [trS] at h
          split at h
          · cases h
          · rename_i hsl
            split at h
            · rename_i x y z h1 h2 h3
              cases h
              have hA : ∀ v, assign (.Subscript oo i p) X.env v = (do
                  let ov ← holding [v] (eval oo X.env)
                  let iv ← holding [v, ov] (eval i X.env)
                  standAt p
                  holding [v, ov, iv] (setItem ov iv v)
                  release [v, ov, iv] []) := by
                intro v
                cases i <;> first | rfl | simp [isSlice] at hsl
              refine ps_aset (MonoX o.Gm x) (MonoX o.Gm y) (MonoX o.Gm z) (he te X W e z o.toOk h3).1 (ps_asg (he te X W e z o.toOk h3).1 (pg_sub (he te X W oo x o.toOk h1).1 (he te X W i y o.toOk h2).1 (set_ok o.toOk.un) hA) ?_ ?_ rfl)
              · cases e <;> rfl
              · cases e <;> rfl
            · cases h
    case AugAssign t op e pos =>
      cases t <;> try (simp [trS] at h; done)
      case Attribute oo x p =>
        simp only [trS] at h
        split at h
        · rename_i f m v hf h1 h2
          cases h
          obtain ⟨f1, f2⟩ := o.toOk.fi hf
          exact ps_fa (MonoX o.Gm m) (MonoX o.Gm v) o.ob f1 f2 (.inl rfl) (he te X W oo m o.toOk h1).1 (he te X W e v o.toOk h2).1
        · rename_i f m v hf h1 h2
          cases h
          obtain ⟨f1, f2⟩ := o.toOk.fi hf
          exact ps_fa (MonoX o.Gm m) (MonoX o.Gm v) o.ob f1 f2 (.inr rfl) (he te X W oo m o.toOk h1).1 (he te X W e v o.toOk h2).1
        · cases h
      case Name x p =>
        simp only [trS] at h
        split at h
        · rename_i i m h1 h2
          cases h
          obtain ⟨s1, s2⟩ := o.st x i h1
          exact ps_ag (MonoX o.Gm m) (ps_aug (by rw [o.N]; exact o.nd) (o.slot (stor_slot h1)).1 s1 (he te X W e m o.toOk h2).1 or_iadd s2)
        · rename_i i m h1 h2
          cases h
          obtain ⟨s1, s2⟩ := o.st x i h1
          exact ps_ag (MonoX o.Gm m) (ps_aug (by rw [o.N]; exact o.nd) (o.slot (stor_slot h1)).1 s1 (he te X W e m o.toOk h2).1 or_isub s2)
        · cases h
    case For tg it b oe pos =>
      cases oe with
      | cons _ _ => simp [trS] at h
      | nil =>
        simp only [trS] at h
        split at h
        · rename_i i hdk
          split at h
          · rename_i t y h1 h2
            cases h
            unfold dkOf at hdk
            split at hdk
            · rename_i x px
              split at hdk
              · cases hdk
              · rename_i hx
                rw [Bool.or_eq_true, not_or] at hx
                have x1 : (x == ("__debug__" : Str)) = false := by simpa using hx.1
                have x2 : (x == ("__classdict__" : Str)) = false := by simpa using hx.2
                split at hdk
                · rename_i i' hs
                  split at hdk
                  · cases hdk
                    obtain ⟨g1, g2⟩ := o.toOk.slot hs
                    exact ps_fk o.po o.calm (MonoSts o.Gm y) (pe_var g1 g2 x1 x2) (gt_ok n o.toOk h1) (ih2 te X W b y o h2)
                  · cases hdk
                · cases hdk
            · cases hdk
          · cases h
        split at h
        · rename_i t ik its y h1 h2 h3
          by_cases htg : tgOk ik tg = true
          case neg => rw [if_neg htg] at h; cases h
          rw [if_pos htg] at h
          cases h
          obtain ⟨i1, i2⟩ := hi te X W tg it ik its o.toOk h2 htg
          exact ps_fr o.po o.calm (MonoXs o.Gm its) (MonoSts o.Gm y) i1 (gt_ok n o.toOk h1) (ih2 te X W b y o h3) i2
        · cases h
    case While c b oe pos =>
      cases oe with
      | cons _ _ => simp [trS] at h
      | nil =>
        simp only [trS] at h
        split at h
        · rename_i ht
          split at h
          · rename_i x y h1 h2
            cases h
            exact ps_wh o.po (MonoX o.Gm x) (MonoSts o.Gm y) ((he te X W c x o.toOk h1).2 ht) (ih2 te X W b y o h2)
          · cases h
        · cases h
    case If c a b pos =>
      simp only [trS] at h
      split at h
      · rename_i ht
        split at h
        · rename_i x y z h1 h2 h3
          cases h
          exact ps_iff (MonoX o.Gm x) (MonoSts o.Gm y) (MonoSts o.Gm z) ((he te X W c x o.toOk h1).2 ht) (ih2 te X W a y o h2) (ih2 te X W b z o h3)
        · cases h
      · cases h
    case Expr e pos =>
      simp only [trS] at h
      split at h
      · rename_i hc
        cases e1 : trE n te e with
        | none => rw [e1] at h; cases h
        | some m =>
          rw [e1] at h
          cases h
          exact ps_ex (MonoX o.Gm m) (he te X W e m o.toOk e1).1 (no_sw hc _ _ _)
      · cases h
    case Pass => simp only [trS] at h; cases h; exact ps_ps
    case Break => simp only [trS] at h; cases h; exact ps_br
    case Continue => simp only [trS] at h; cases h; exact ps_ct
  · cases st with
    | nil =>
      simp only [trSs] at h
      cases h
      exact pss_nl
    | cons st r =>
      simp only [trSs] at h
      split at h
      · rename_i x xs h1 h2
        cases h
        exact pss_cn (m1 := fun σ s N => xS G x σ s N) (m2 := fun σ s N => xSs G xs σ s N) (MonoSt o.Gm x) (MonoSts o.Gm xs) (ih1 te X W st x o h1) (ih2 te X W r xs o h2)
      · cases h
theorem sts_all : ∀ n, PSS B G RX CXx k n
  | 0 => ⟨fun te X W st ir o h => by simp [trS] at h, fun te X W st ir o h => by simp [trSs] at h⟩
  | n + 1 => sts_succ (sts_all n)
end
end PX

/-! PX: the defs of a text keep their plain meanings. -/
namespace PX
open PySem PySem.Spec PyProof.Rows L2
/-- one def: its name, its full name, its statement, its slots, its parameters, the slots of dicts that it walks, its plain body -/
structure DefT where
  name : Str
  qual : Str
  st : Stmt
  N : List Str
  ps : List Str
  dk : List Nat
  fn : Fn
/-- the names of a text -/
structure Ly where
  gl : List (Str × GE)
  at_ : List Str
  nf : Nat
  mc : List (Nat × List Nat)
def teOf (ly : Ly) (d : DefT) : TE := ⟨d.N, (defScope d.st).names, (defScope d.st).names, ly.gl, ly.at_, ly.nf, ly.mc, d.dk⟩
/-- a method of a class; a class that is made -/
structure MetT where
  c : Nat
  m : Nat
  d : DefT
structure ClsT where
  c : Nat
  name : Str
  ar : Nat
  m : Nat
/-- a def as it stands in the text -/
structure DefOk (ly : Ly) (d : DefT) : Prop where
  sc : FnScope d.N d.ps (defScope d.st)
  tr : trSs 60 (teOf ly d) (defBody d.st) = some d.fn.body
  ar : d.fn.ar = d.ps.length
  sl : d.fn.sl = d.N.length
  bd : ∀ (kV doc pm : Value) (an : Option Addr) (cdv ct : Value) (us : List Value), us.length = d.ps.length → bindArgs (PySem.W.fnOf d.name d.qual (defArgs d.st) (defBody d.st) (defScope d.st) .none kV doc pm an cdv ct) ⟨us, []⟩ = pure (d.ps.zip us)
/-- .. and behind the top -/
def FnFact (K : PySem.W.Frag) (d : DefT) : Prop := ∃ (f : Addr) (fd : FuncData), PySem.W.nsIn K mainGlobals d.name = some (some (.ref f)) ∧ Fun K d.name d.qual d.st f fd
theorem fact_mk {K : PySem.W.Frag} {d : DefT} {f : Addr} {oc : Value} {od an : Option Addr} {osl : Array (Option Value)} {kV doc pm cdv ct : Value} (a : PySem.W.nsIn K mainGlobals d.name = some (some (.ref f)))
    (l : K.lookup f = some ⟨oc, od, .func (PySem.W.fnOf d.name d.qual (defArgs d.st) (defBody d.st) (defScope d.st) .none kV doc pm an cdv ct), osl⟩)
    (c : PySem.W.codeIn K cdv d.qual = true) (k : PySem.W.keepIn K (.ref f) = true) : FnFact K d := ⟨f, _, a, fun_mk l c k⟩
/-- a class's method behind the top -/
def MtFact (K : PySem.W.Frag) (B : Tb) (q : MetT) : Prop := ∃ (C f : Addr) (fd : FuncData) (x : Str), B.cl q.c = some C ∧ B.at_[q.m]? = some x ∧ Meth K C x f ∧ Fun K q.d.name q.d.qual q.d.st f fd
theorem mt_mk {K : PySem.W.Frag} {B : Tb} {q : MetT} {C f : Addr} {x : Str} {oc : Value} {od an : Option Addr} {osl : Array (Option Value)} {kV doc pm cdv ct : Value} (hc : B.cl q.c = some C) (hx : B.at_[q.m]? = some x) (a : PySem.W.findIn K (.ref C) x = some (some (.ref f))) (i : PySem.W.isFn K (.ref f) = true)
    (l : K.lookup f = some ⟨oc, od, .func (PySem.W.fnOf q.d.name q.d.qual (defArgs q.d.st) (defBody q.d.st) (defScope q.d.st) .none kV doc pm an cdv ct), osl⟩)
    (c : PySem.W.codeIn K cdv q.d.qual = true) (k : PySem.W.keepIn K (.ref f) = true) : MtFact K B q := ⟨C, f, _, x, hc, hx, ⟨a, i, k⟩, fun_mk l c k⟩
/-- a class behind the top -/
def CtFact (K : PySem.W.Frag) (B : Tb) (q : ClsT) : Prop := ∃ C : Addr, B.cl q.c = some C ∧ B.at_[q.m]? = some ("__init__" : Str) ∧ PySem.W.nsIn K mainGlobals q.name = some (some (.ref C)) ∧ PySem.W.makesIn K C = true ∧ PySem.W.keepIn K (.ref C) = true
theorem ct_mk {K : PySem.W.Frag} {B : Tb} {q : ClsT} {C : Addr} (hc : B.cl q.c = some C) (hx : B.at_[q.m]? = some ("__init__" : Str)) (a : PySem.W.nsIn K mainGlobals q.name = some (some (.ref C))) (m : PySem.W.makesIn K C = true) (k : PySem.W.keepIn K (.ref C) = true) : CtFact K B q := ⟨C, hc, hx, a, m, k⟩
def RX0 : RXT := fun _ _ _ _ _ _ => False
def Tof (tbl : List DefT) (mts : List MetT) (cts : List ClsT) : Nat → Option Fn := fun i =>
  if i < 1000000 then (tbl[i]?).map (·.fn)
  else if i < 2000000 then (mts.find? fun q => mid q.c q.m == i).map (·.d.fn)
  else (cts.find? fun q => cid q.c == i).map fun q => ⟨q.ar, q.ar, [.ctor q.c (mid q.c q.m)]⟩
/-- what a table and its globals must bear -/
structure TabOk (pw : Params) (K : PySem.W.Frag) (B : Tb) (tbl : List DefT) (mts : List MetT) (cts : List ClsT) (ly : Ly) : Prop where
  hK : B.K = K
  hP : B.pw = pw
  ob : ClsOk B K ly.nf
  an : ly.at_ = B.at_
  few : tbl.length < 1000000
  defs : ∀ d ∈ tbl, DefOk ly d
  facts : ∀ d ∈ tbl, FnFact K d
  mdefs : ∀ q ∈ mts, DefOk ly q.d
  mfacts : ∀ q ∈ mts, MtFact K B q
  cfacts : ∀ q ∈ cts, CtFact K B q
  mT : ∀ q ∈ mts, Tof tbl mts cts (mid q.c q.m) = some q.d.fn
  cT : ∀ q ∈ cts, Tof tbl mts cts (cid q.c) = some ⟨q.ar, q.ar, [.ctor q.c (mid q.c q.m)]⟩ ∧ ∃ m ∈ mts, m.c = q.c ∧ m.m = q.m ∧ m.d.ps.length = q.ar + 1
  fns : ∀ x id ar, ly.gl.lookup x = some (.fn id ar) → ∃ d, tbl[id]? = some d ∧ d.name = x ∧ d.ps.length = ar
  clss : ∀ x id ar, ly.gl.lookup x = some (.cls id ar) → ∃ q ∈ cts, q.name = x ∧ id = cid q.c ∧ q.ar = ar
  csts : ∀ x d, ly.gl.lookup x = some (.cst d) → ∃ v u, PySem.W.nsIn K mainGlobals x = some (some u) ∧ RelV v u ∧ ∀ H ρ, RelD B H ρ d v
  blts : ∀ x, ly.gl.lookup x = some .blt → PySem.W.nsIn K mainGlobals x = some none
  mcs : ∀ m cs c, ly.mc.lookup m = some cs → c ∈ cs → ∃ q ∈ mts, q.c = c ∧ q.m = m
theorem start_rel {B : Tb} {H : Hp} {ρ : List Addr} {N : List Str} {ds : List D} {vs : List V} (r : RelDs B H ρ ds vs) (hl : ds.length ≤ N.length) : RelL B H ρ (ds.map some ++ List.replicate (N.length - ds.length) none) (L2.start N vs) := by
  have l := r.length
  refine ⟨?_, fun i d e => ?_⟩
  · unfold L2.start
    simp only [List.length_append, List.length_map, List.length_replicate, l]
  · by_cases hi : i < ds.length
    · rw [List.getElem?_append_left (by simpa using hi), List.getElem?_map] at e
      cases e2 : ds[i]? with
      | none => rw [e2] at e; cases e
      | some x =>
        rw [e2] at e
        cases e
        obtain ⟨v, h1, h2⟩ := r.get e2
        refine ⟨v, ?_, h2⟩
        unfold L2.start
        rw [List.getElem?_append_left (by rw [List.length_map, ← l]; exact hi), List.getElem?_map, h1]
        rfl
    · rw [List.getElem?_append_right (by simpa using hi), List.getElem?_replicate] at e
      split at e <;> cases e
theorem slotVs_map : ∀ vs : List D, slotVs (vs.map some) = some vs
  | [] => rfl
  | v :: vs => by
    show (slotVs (vs.map some)).map _ = _
    rw [slotVs_map vs]
    rfl
section
variable {P : Program} {w : World} {K : PySem.W.Frag} {mg : Str → Option Value} {B : Tb} {tbl : List DefT} {mts : List MetT} {cts : List ClsT} {ly : Ly} {h : Heap}
/-- what stands at a level -/
def GoodF (P : Program) (w : World) (K : PySem.W.Frag) (mg : Str → Option Value) (B : Tb) (T : Nat → Option Fn) (tbl : List DefT) (k : Nat) : Prop :=
  ∀ (id : Nat) (d : DefT), tbl[id]? = some d → ∃ (f : Addr) (fd : FuncData), mg d.name = some (.ref f) ∧ PySem.W.keepIn K (.ref f) = true ∧ Binds K fd d.ps [] ∧ (∀ (s : Shared) (us : List Value), us.length = d.ps.length → BindsTo s fd ⟨us, []⟩ (d.ps.zip us)) ∧ ∀ base : Heap, FnOk P w K mg base CX0 k f fd d.ps (spD B RX0 (Lv T k) id)
def GoodM (P : Program) (w : World) (K : PySem.W.Frag) (mg : Str → Option Value) (B : Tb) (T : Nat → Option Fn) (mts : List MetT) (k : Nat) : Prop :=
  ∀ q ∈ mts, ∃ (C f : Addr) (fd : FuncData) (x : Str), B.cl q.c = some C ∧ B.at_[q.m]? = some x ∧ Meth K C x f ∧ Binds K fd q.d.ps [] ∧ ∀ base : Heap, FnOk P w K mg base CX0 k f fd q.d.ps (spD B RX0 (Lv T k) (mid q.c q.m))
theorem fn_zero {f : Addr} {fd : FuncData} {ps : List Str} {T : Nat → Option Fn} {id : Nat} {base : Heap} : FnOk P w K mg base CX0 0 f fd ps (spD B RX0 (Lv T 0) id) :=
  ⟨fun vs H Q E ⟨_, _, _, _, _, z⟩ => z.elim, fun A outer s H args us vs Q E _ _ _ _ ⟨_, _, _, _, _, z⟩ => z.elim⟩
/-- a def, from what stands a level below -/
theorem def_ok (T : TabOk w.params K B tbl mts cts ly) (KX : K.In h) (hmg : h.Ns mainGlobals mg) {k : Nat} (F0 : GoodF P w K mg B (Tof tbl mts cts) tbl k) (M0 : GoodM P w K mg B (Tof tbl mts cts) mts k) (M1 : ∀ k', k = k' + 1 → GoodM P w K mg B (Tof tbl mts cts) mts k')
    {d : DefT} {id : Nat} {f : Addr} {fd : FuncData} (hT : Tof tbl mts cts id = some d.fn) (O : DefOk ly d) (F : Fun K d.name d.qual d.st f fd) (base : Heap) : FnOk P w K mg base CX0 (k + 1) f fd d.ps (spD B RX0 (Lv (Tof tbl mts cts) (k + 1)) id) := by
  refine F.ok O.sc (fun vs H Q E hh => ?_) fun cdv A outer s H vs Q E hr hh => ?_
  · obtain ⟨ρ, ds, s, r, S, q⟩ := hh
    simp only [Lv, hT] at q
    rw [← r.length, q.1, O.ar]
  · obtain ⟨ρ, ds, st, r, S, q⟩ := hh
    simp only [Lv, hT] at q
    have hN : d.ps.length ≤ d.N.length := by
      have := congrArg List.length O.sc.pre
      rw [List.length_take] at this
      omega
    refine ⟨rSs B (Lv (Tof tbl mts cts) k) (fun c fs _ H' ρ' s' => ∀ cls dd, RX0 c fs cls dd H' ρ' → E cls dd H') d.fn.body, ?_, ?_⟩
    · refine (sts_all (B := B) (G := Lv (Tof tbl mts cts) k) (RX := RX0) (CXx := CX0) (k := k) 60).2 (teOf ly d) _ _ _ _ ?_ O.tr
      refine ⟨⟨T.hK, T.hP, ?_, rfl, rfl, O.sc.nd, O.sc.kind, rfl, fun x i hx => ?_, hr, fun x id2 ar hx => ?_, fun x dd hx => ?_, fun x hx => PySem.W.mg_none_of KX hmg (T.blts x hx), fun σ pins H s e s' I c => c.elim, fun _ _ _ _ _ c => c, Lv_mono _ k, T.ob, T.an, fun x id2 ar hx => ?_, fun m cs x c hx ha hc => ?_⟩, PassesOwn.never⟩
      · have := hr.un
        show (A.deeper (envOfC d.qual (defScope d.st) s.heap.objs.size f cdv)).units + 65 < cLine
        omega
      · refine ⟨?_, .inl rfl⟩
        unfold TE.stor at hx
        show (defScope d.st).names.lookup x = _ ∨ (defScope d.st).names.lookup x = _
        simp only [teOf] at hx
        split at hx
        · rename_i e; exact .inl e
        · rename_i e; exact .inr e
        · cases hx
      · obtain ⟨d2, h1, h2, h3⟩ := T.fns x id2 ar hx
        obtain ⟨f2, fd2, g1, g2, g3, _, g4⟩ := F0 id2 d2 h1
        exact ⟨f2, fd2, d2.ps, h2 ▸ g1, g2, g3, h3, g4 base⟩
      · obtain ⟨v, u, h1, h2, h3⟩ := T.csts x dd hx
        exact ⟨v, u, PySem.W.mg_of KX hmg h1, h2, h3⟩
      · obtain ⟨qc, hq, rfl, rfl, rfl⟩ := T.clss x id2 ar hx
        obtain ⟨C, c1, c2, c3, c4, c5⟩ := T.cfacts qc hq
        refine ⟨C, PySem.W.mg_of KX hmg c3, c5, ?_⟩
        cases k with
        | zero => exact .inr fun vs s Q E z => z
        | succ k' =>
          obtain ⟨cT, mm, hmm, e1, e2, e3⟩ := T.cT qc hq
          obtain ⟨C', fi, fdi, xi, m1, m2, m3, m4, m5⟩ := M1 k' rfl mm hmm
          rw [e1, c1] at m1
          cases m1
          rw [e2, c2] at m2
          cases m2
          refine .inl ⟨fi, fdi, mm.d.ps, k', qc.c, mid mm.c mm.m, Lv (Tof tbl mts cts) k', rfl, ⟨c4, m3.at_, m3.fn, c5⟩, m4, m5 base, c1, Lv_mono _ _, fun vs s Q E z => ?_⟩
          simp only [Lv, cT] at z
          obtain ⟨hl, z⟩ := z
          refine ⟨hl, ?_⟩
          simp only [Nat.sub_self, List.replicate_zero, List.append_nil, xSs, xS, slotVs_map] at z
          rw [e1, e2]
          exact z
      · obtain ⟨qm, hq, rfl, rfl⟩ := T.mcs m cs c hx hc
        obtain ⟨C, f2, fd2, x2, m1, m2, m3, m4, m5⟩ := M0 qm hq
        rw [ha] at m2
        cases m2
        exact ⟨C, f2, fd2, qm.d.ps, m1, m3, m5 base, m4⟩
    · refine ⟨ρ, _, st, ?_, S, xSs_mono (Lv_mono _ k) d.fn.body (N' := LiftN B H ρ _ _) ⟨?_, ?_, ?_, ?_, ?_⟩ q.2⟩
      · rw [O.sl, O.ar]
        have e : d.ps.length = ds.length := by rw [q.1, O.ar]
        rw [e]
        exact start_rel r (by rw [q.1, O.ar]; exact hN)
      · exact fun σ s' h ρ' H' σV p kk L S' => h ρ' H' .non p kk rfl S'
      · exact fun dd s' h => h
      · exact fun σ s' h => h.elim
      · exact fun σ s' h => h.elim
      · exact fun c fs σ s' h ρ' H' σV p kk L S' cls dd rx => h ρ' H' cls dd p kk S' rx
theorem binds_of {ly : Ly} {d : DefT} {f : Addr} {fd : FuncData} (O : DefOk ly d) (F : Fun K d.name d.qual d.st f fd) : Binds K fd d.ps [] ∧ ∀ (s : Shared) (us : List Value), us.length = d.ps.length → BindsTo s fd ⟨us, []⟩ (d.ps.zip us) := by
  refine ⟨F.binds O.bd, fun s us hl => ?_⟩
  obtain ⟨oc, od, kV, doc, pm, an, cdv, ct, osl, rfl, lk, hcd⟩ := F.ex
  exact .of_eq (O.bd kV doc pm an cdv ct us hl)
theorem all_ok (T : TabOk w.params K B tbl mts cts ly) (KX : K.In h) (hmg : h.Ns mainGlobals mg) : ∀ k : Nat, (GoodF P w K mg B (Tof tbl mts cts) tbl k ∧ GoodM P w K mg B (Tof tbl mts cts) mts k) ∧ ∀ k', k = k' + 1 → GoodM P w K mg B (Tof tbl mts cts) mts k'
  | 0 => by
    refine ⟨⟨fun id d hd => ?_, fun q hq => ?_⟩, fun k' z => by omega⟩
    · have hm : d ∈ tbl := List.mem_of_getElem? hd
      obtain ⟨f, fd, a, F⟩ := T.facts d hm
      obtain ⟨b1, b2⟩ := binds_of (T.defs d hm) F
      exact ⟨f, fd, PySem.W.mg_of KX hmg a, F.kp, b1, b2, fun base => fn_zero⟩
    · obtain ⟨C, f, fd, x, h1, h2, h3, F⟩ := T.mfacts q hq
      exact ⟨C, f, fd, x, h1, h2, h3, (binds_of (T.mdefs q hq) F).1, fun base => fn_zero⟩
  | k + 1 => by
    obtain ⟨⟨g1, g2⟩, g3⟩ := all_ok T KX hmg k
    refine ⟨⟨fun id d hd => ?_, fun q hq => ?_⟩, fun k' z => by cases z; exact g2⟩
    · have hm : d ∈ tbl := List.mem_of_getElem? hd
      obtain ⟨f, fd, a, F⟩ := T.facts d hm
      obtain ⟨b1, b2⟩ := binds_of (T.defs d hm) F
      have hT : Tof tbl mts cts id = some d.fn := by
        have := T.few
        have hi : id < tbl.length := (List.getElem?_eq_some_iff.mp hd).1
        unfold Tof
        rw [if_pos (by omega), hd]
        rfl
      exact ⟨f, fd, PySem.W.mg_of KX hmg a, F.kp, b1, b2, fun base => def_ok T KX hmg g1 g2 g3 hT (T.defs d hm) F base⟩
    · obtain ⟨C, f, fd, x, h1, h2, h3, F⟩ := T.mfacts q hq
      exact ⟨C, f, fd, x, h1, h2, h3, (binds_of (T.mdefs q hq) F).1, fun base => def_ok T KX hmg g1 g2 g3 (T.mT q hq) (T.mdefs q hq) F base⟩
end
/-- the law's promise -/
def spLaw (K : PySem.W.Frag) : Sp := fun vs H Q _ => ∃ (a : Addr) (ns : List Int), vs = [.ref a] ∧ SqL K H a (ns.map V.int) ∧ (∀ o, H a = some o → ∃ ob xs, o = .frz ob xs) ∧ ns.length ≤ 63 ∧ ∀ H', Q (.bl true) H'
theorem law_ok {P : Program} {w : World} {K : PySem.W.Frag} {mg : Str → Option Value} {B : Tb} {tbl : List DefT} {mts : List MetT} {cts : List ClsT} {ly : Ly} {h : Heap} (T : TabOk w.params K B tbl mts cts ly) (KX : K.In h) (hmg : h.Ns mainGlobals mg) {k id : Nat} {d : DefT} {fa : Addr}
    (hd : tbl[id]? = some d) (hps : d.ps = ([("script" : Str)] : List Str)) (hfa : mg d.name = some (.ref fa)) (law : ∀ ns : List Int, ns.length ≤ 63 → Lv (Tof tbl mts cts) k id [.fl (ns.map .int)] [] (fun v _ => v = .bl true) (fun _ _ _ => False)) :
    ∃ fd : FuncData, (∀ (s : Shared) (v : Value), BindsTo s fd ⟨[v], []⟩ [("script", v)]) ∧ ∀ base : Heap, FnOk P w K mg base CX0 k fa fd ["script"] (spLaw K) := by
  obtain ⟨f, fd, g1, g2, g3, g4, F⟩ := (all_ok (P := P) (w := w) T KX hmg k).1.1 id d hd
  rw [hfa] at g1
  cases g1
  rw [hps] at g4 F
  refine ⟨fd, fun s v => g4 s [v] rfl, fun base => (F base).imp fun vs H Q E ⟨a, ns, e, hS, hf, hl, q⟩ => ?_⟩
  subst e
  refine ⟨[], [.fl (ns.map .int)], [], ⟨.ref a, [], rfl, ⟨a, ns.map V.int, rfl, ?_, RelDs.ints⟩, rfl⟩, ⟨rfl, List.nodup_nil, fun n a o e => by simp at e⟩, Lv_mono _ k _ _ _ _ _ _ _ (fun v s hv ρ' H' v' p kk r S => ?_) (fun _ _ _ h => h.elim) (law ns hl)⟩
  · rcases hS with (hS | hS) | hS
    · obtain ⟨ob, xs, z⟩ := hf _ hS
      cases z
    · exact .inl hS
    · exact .inr (by rw [T.hK]; exact hS)
  · subst hv
    cases (show v' = .bl true from r)
    exact q H'
theorem walk_ok {l : PySem.W.OpenLaw} {q : Program} {loose : List Str} {XP : (Str → Option Value) → Heap → Prop} {YP : World → Heap → Prop} {d : DefRec} {K : Params → PySem.W.Frag} {k : Nat} (hn : l.most = some 63) (hdf : d.params.defaults = []) (hr : Room k callerA)
    (hY : ∀ (w : World) (h : Heap), YP w h → (K w.params).In h)
    (F : ∀ (w : World) (mg : Str → Option Value) (fa : Addr) (h : Heap), (K w.params).In h → h.Ns mainGlobals mg → mg d.name = some (.ref fa) →
      ∃ fd : FuncData, (∀ (s : Shared) (u : Value), BindsTo s fd ⟨[u], []⟩ [("script", u)]) ∧ ∀ base : Heap, (K w.params).In base → base.Ns mainGlobals mg → FnOk l.prog w (K w.params) mg base CX0 k fa fd ["script"] (spLaw (K w.params))) :
    PySem.W.WalkO q loose XP YP l.row.toRowW d [] (fun f vs => PySem.call f vs) :=
  L2.walk_of (n := 63) (k := k) (x := "script") (CX := fun _ => CX0) (sp := fun w => spLaw (K w.params)) hn (by decide) hdf hr hY F (fun _ H a ns hl ho hS => ⟨a, ns, rfl, hS, fun o e => by
    rcases ho a with z | ⟨ob, xs, z⟩
    · rw [z] at e; cases e
    · rw [z] at e; cases e; exact ⟨_, _, rfl⟩, hl, fun _ => rfl⟩) fun _ _ _ _ _ z => z
/-! the table's facts, as the top has written them -/
def FactsL (K : PySem.W.Frag) : List DefT → Prop
  | [] => True
  | d :: r => FnFact K d ∧ FactsL K r
theorem FactsL.all {K : PySem.W.Frag} : ∀ {tbl : List DefT}, FactsL K tbl → ∀ d ∈ tbl, FnFact K d
  | [], _, _, h => by cases h
  | d :: r, ⟨a, b⟩, x, h => by
    rcases List.mem_cons.mp h with rfl | h
    · exact a
    · exact FactsL.all b x h
def DefsL (ly : Ly) : List DefT → Prop
  | [] => True
  | d :: r => DefOk ly d ∧ DefsL ly r
theorem DefsL.all {ly : Ly} : ∀ {tbl : List DefT}, DefsL ly tbl → ∀ d ∈ tbl, DefOk ly d
  | [], _, _, h => by cases h
  | d :: r, ⟨a, b⟩, x, h => by
    rcases List.mem_cons.mp h with rfl | h
    · exact a
    · exact DefsL.all b x h
def MDefsL (ly : Ly) : List MetT → Prop
  | [] => True
  | d :: r => DefOk ly d.d ∧ MDefsL ly r
theorem MDefsL.all {ly : Ly} : ∀ {tbl : List MetT}, MDefsL ly tbl → ∀ d ∈ tbl, DefOk ly d.d
  | [], _, _, h => by cases h
  | d :: r, ⟨a, b⟩, x, h => by
    rcases List.mem_cons.mp h with rfl | h
    · exact a
    · exact MDefsL.all b x h
def MFactsL (K : PySem.W.Frag) (B : Tb) : List MetT → Prop
  | [] => True
  | d :: r => MtFact K B d ∧ MFactsL K B r
theorem MFactsL.all {K : PySem.W.Frag} {B : Tb} : ∀ {tbl : List MetT}, MFactsL K B tbl → ∀ d ∈ tbl, MtFact K B d
  | [], _, _, h => by cases h
  | d :: r, ⟨a, b⟩, x, h => by
    rcases List.mem_cons.mp h with rfl | h
    · exact a
    · exact MFactsL.all b x h
def CFactsL (K : PySem.W.Frag) (B : Tb) : List ClsT → Prop
  | [] => True
  | d :: r => CtFact K B d ∧ CFactsL K B r
theorem CFactsL.all {K : PySem.W.Frag} {B : Tb} : ∀ {tbl : List ClsT}, CFactsL K B tbl → ∀ d ∈ tbl, CtFact K B d
  | [], _, _, h => by cases h
  | d :: r, ⟨a, b⟩, x, h => by
    rcases List.mem_cons.mp h with rfl | h
    · exact a
    · exact CFactsL.all b x h
/-- the classes: no attribute of a class bears a field's name -/
def NoL (K : PySem.W.Frag) (C : Addr) : List Str → Prop
  | [] => True
  | x :: r => PySem.W.findIn K (.ref C) x = some none ∧ NoL K C r
theorem NoL.all {K : PySem.W.Frag} {C : Addr} : ∀ {l : List Str}, NoL K C l → ∀ x ∈ l, NoAttr K C x
  | [], _, _, h => by cases h
  | d :: r, ⟨a, b⟩, x, h => by
    rcases List.mem_cons.mp h with rfl | h
    · exact a
    · exact NoL.all b x h
def ClsL (K : PySem.W.Frag) (fs : List Str) : List Addr → Prop
  | [] => True
  | C :: r => (Cls K C ∧ NoL K C fs) ∧ ClsL K fs r
theorem ClsL.all {K : PySem.W.Frag} {fs : List Str} : ∀ {l : List Addr}, ClsL K fs l → ∀ C ∈ l, Cls K C ∧ NoL K C fs
  | [], _, _, h => by cases h
  | d :: r, ⟨a, b⟩, x, h => by
    rcases List.mem_cons.mp h with rfl | h
    · exact a
    · exact ClsL.all b x h
theorem clsOk_of {B : Tb} {K : PySem.W.Frag} {nf : Nat} {Cs : List Addr} (hc : B.cl = fun c => Cs[c]?) (nd : B.at_.Nodup) (h : ClsL K (B.at_.take nf) Cs) : ClsOk B K nf :=
  ⟨nd, fun c C e => (h.all C (by rw [hc] at e; exact List.mem_of_getElem? e)).1, fun c C f x e hf hx => ((h.all C (by rw [hc] at e; exact List.mem_of_getElem? e)).2).all x (List.mem_of_getElem? (i := f) (by rw [List.getElem?_take, if_pos hf]; exact hx))⟩
def glChk (tbl : List DefT) (cts : List ClsT) : List (Str × GE) → Bool
  | [] => true
  | (x, .fn id ar) :: r => (match tbl[id]? with
    | some d => d.name == x && d.ps.length == ar
    | none => false) && glChk tbl cts r
  | (x, .cls id ar) :: r => (cts.any fun q => q.name == x && (cid q.c == id && q.ar == ar)) && glChk tbl cts r
  | _ :: r => glChk tbl cts r
theorem lookup_mem {α : Type} : ∀ {gl : List (Str × α)} {x : Str} {g : α}, gl.lookup x = some g → (x, g) ∈ gl
  | [], _, _, h => by cases h
  | (y, g') :: r, x, g, h => by
    rw [List.lookup_cons] at h
    split at h
    · rename_i e
      cases h
      rw [beq_iff_eq] at e
      subst e
      exact List.mem_cons_self
    · exact List.mem_cons_of_mem _ (lookup_mem h)
theorem lookup_memN {α : Type} : ∀ {gl : List (Nat × α)} {x : Nat} {g : α}, gl.lookup x = some g → (x, g) ∈ gl
  | [], _, _, h => by cases h
  | (y, g') :: r, x, g, h => by
    rw [List.lookup_cons] at h
    split at h
    · rename_i e
      cases h
      rw [beq_iff_eq] at e
      subst e
      exact List.mem_cons_self
    · exact List.mem_cons_of_mem _ (lookup_memN h)
theorem glChk.all {tbl : List DefT} {cts : List ClsT} : ∀ {gl : List (Str × GE)}, glChk tbl cts gl = true → (∀ x id ar, (x, GE.fn id ar) ∈ gl → ∃ d, tbl[id]? = some d ∧ d.name = x ∧ d.ps.length = ar) ∧ ∀ x id ar, (x, GE.cls id ar) ∈ gl → ∃ q ∈ cts, q.name = x ∧ id = cid q.c ∧ q.ar = ar
  | [], _ => ⟨(fun _ _ _ h => by cases h), (fun _ _ _ h => by cases h)⟩
  | (y, g) :: r, c => by
    have ih : glChk tbl cts r = true → _ := glChk.all (gl := r)
    cases g with
    | fn id' ar' =>
      simp only [glChk, Bool.and_eq_true] at c
      obtain ⟨i1, i2⟩ := ih c.2
      refine ⟨fun x id ar h => ?_, fun x id ar h => ?_⟩
      · rcases List.mem_cons.mp h with e | h
        · cases e
          have c := c.1
          split at c
          · rename_i d hd
            rw [Bool.and_eq_true, beq_iff_eq, beq_iff_eq] at c
            exact ⟨d, hd, c.1, c.2⟩
          · cases c
        · exact i1 x id ar h
      · rcases List.mem_cons.mp h with e | h
        · cases e
        · exact i2 x id ar h
    | cls id' ar' =>
      simp only [glChk, Bool.and_eq_true] at c
      obtain ⟨i1, i2⟩ := ih c.2
      refine ⟨fun x id ar h => ?_, fun x id ar h => ?_⟩
      · rcases List.mem_cons.mp h with e | h
        · cases e
        · exact i1 x id ar h
      · rcases List.mem_cons.mp h with e | h
        · cases e
          obtain ⟨q, hq, z⟩ := List.any_eq_true.mp c.1
          rw [Bool.and_eq_true, Bool.and_eq_true, beq_iff_eq, beq_iff_eq, beq_iff_eq] at z
          exact ⟨q, hq, z.1, z.2.1.symm, z.2.2⟩
        · exact i2 x id ar h
    | cst d =>
      obtain ⟨i1, i2⟩ := ih c
      exact ⟨(fun x id ar h => by rcases List.mem_cons.mp h with e | h; (cases e); exact i1 x id ar h), (fun x id ar h => by rcases List.mem_cons.mp h with e | h; (cases e); exact i2 x id ar h)⟩
    | blt =>
      obtain ⟨i1, i2⟩ := ih c
      exact ⟨(fun x id ar h => by rcases List.mem_cons.mp h with e | h; (cases e); exact i1 x id ar h), (fun x id ar h => by rcases List.mem_cons.mp h with e | h; (cases e); exact i2 x id ar h)⟩
def mcChk (mts : List MetT) (mc : List (Nat × List Nat)) : Bool := mc.all fun p => p.2.all fun c => mts.any fun q => q.c == c && q.m == p.1
theorem mcChk.all {mts : List MetT} {mc : List (Nat × List Nat)} (h : mcChk mts mc = true) : ∀ m cs c, mc.lookup m = some cs → c ∈ cs → ∃ q ∈ mts, q.c = c ∧ q.m = m := fun m cs c e hc => by
  have h1 := List.all_eq_true.mp h _ (lookup_memN e)
  have h2 := List.all_eq_true.mp h1 c hc
  obtain ⟨q, hq, z⟩ := List.any_eq_true.mp h2
  rw [Bool.and_eq_true, beq_iff_eq, beq_iff_eq] at z
  exact ⟨q, hq, z.1, z.2⟩
/-- methods and classes by their numbers -/
def ids : List MetT → List Nat → Bool
  | [], _ => true
  | q :: r, l => (decide (q.c < 900 ∧ q.m < 1000) && !l.contains (mid q.c q.m)) && ids r (mid q.c q.m :: l)
theorem ids.find {mts : List MetT} : ∀ {l : List Nat}, ids mts l = true → ∀ q ∈ mts, (mts.find? fun p => mid p.c p.m == mid q.c q.m) = some q ∧ (∀ i ∈ l, mid q.c q.m ≠ i) ∧ q.c < 900 ∧ q.m < 1000 := by
  induction mts with
  | nil => intro l _ q h; cases h
  | cons p r ih =>
    intro l h q hq
    simp only [ids, Bool.and_eq_true, decide_eq_true_eq, Bool.not_eq_true', List.contains_eq_mem, decide_eq_false_iff_not] at h
    obtain ⟨⟨⟨h1, h2⟩, h3⟩, h4⟩ := h
    rcases List.mem_cons.mp hq with rfl | hq
    · refine ⟨?_, fun i hi z => h3 (z ▸ hi), h1, h2⟩
      rw [List.find?_cons, beq_self_eq_true]
    · obtain ⟨g1, g2, g3, g4⟩ := ih h4 q hq
      refine ⟨?_, fun i hi => g2 i (List.mem_cons_of_mem _ hi), g3, g4⟩
      have : (mid p.c p.m == mid q.c q.m) = false := by
        rw [beq_eq_false_iff_ne]
        exact (g2 _ List.mem_cons_self).symm
      rw [List.find?_cons, this]
      exact g1
def ctChk (mts : List MetT) : List ClsT → List Nat → Bool
  | [], _ => true
  | q :: r, l => (!l.contains q.c && (mts.any fun m => m.c == q.c && (m.m == q.m && m.d.ps.length == q.ar + 1))) && ctChk mts r (q.c :: l)
theorem ctChk.find {mts : List MetT} {cts : List ClsT} : ∀ {l : List Nat}, ctChk mts cts l = true → ∀ q ∈ cts, (cts.find? fun p => cid p.c == cid q.c) = some q ∧ (∀ i ∈ l, q.c ≠ i) ∧ ∃ m ∈ mts, m.c = q.c ∧ m.m = q.m ∧ m.d.ps.length = q.ar + 1 := by
  induction cts with
  | nil => intro l _ q h; cases h
  | cons p r ih =>
    intro l h q hq
    simp only [ctChk, Bool.and_eq_true, Bool.not_eq_true', List.contains_eq_mem, decide_eq_false_iff_not] at h
    obtain ⟨⟨h3, h5⟩, h4⟩ := h
    rcases List.mem_cons.mp hq with rfl | hq
    · refine ⟨?_, fun i hi z => h3 (z ▸ hi), ?_⟩
      · rw [List.find?_cons, beq_self_eq_true]
      · obtain ⟨m, hm, z⟩ := List.any_eq_true.mp h5
        rw [Bool.and_eq_true, Bool.and_eq_true, beq_iff_eq, beq_iff_eq, beq_iff_eq] at z
        exact ⟨m, hm, z.1, z.2.1, z.2.2⟩
    · obtain ⟨g1, g2, g3⟩ := ih h4 q hq
      refine ⟨?_, fun i hi => g2 i (List.mem_cons_of_mem _ hi), g3⟩
      have : (cid p.c == cid q.c) = false := by
        rw [beq_eq_false_iff_ne]
        intro z
        unfold cid at z
        exact (g2 _ List.mem_cons_self) (by omega)
      rw [List.find?_cons, this]
      exact g1
/-- the names of the table that are not defs -/
def NamesL (K : PySem.W.Frag) (B : Tb) : List (Str × GE) → Prop
  | [] => True
  | (x, .cst d) :: r => (∃ v u, PySem.W.nsIn K mainGlobals x = some (some u) ∧ RelV v u ∧ ∀ H ρ, RelD B H ρ d v) ∧ NamesL K B r
  | (x, .blt) :: r => PySem.W.nsIn K mainGlobals x = some none ∧ NamesL K B r
  | _ :: r => NamesL K B r
theorem NamesL.cst {K : PySem.W.Frag} {B : Tb} : ∀ {gl : List (Str × GE)}, NamesL K B gl → ∀ x d, (x, GE.cst d) ∈ gl → ∃ v u, PySem.W.nsIn K mainGlobals x = some (some u) ∧ RelV v u ∧ ∀ H ρ, RelD B H ρ d v
  | [], _, _, _, h => by cases h
  | (y, g) :: r, c, x, d, h => by
    rcases List.mem_cons.mp h with e | h
    · cases e
      exact c.1
    · refine NamesL.cst (B := B) ?_ x d h
      cases g <;> first | exact c | exact c.2
theorem NamesL.blt {K : PySem.W.Frag} {B : Tb} : ∀ {gl : List (Str × GE)}, NamesL K B gl → ∀ x, (x, GE.blt) ∈ gl → PySem.W.nsIn K mainGlobals x = some none
  | [], _, _, h => by cases h
  | (y, g) :: r, c, x, h => by
    rcases List.mem_cons.mp h with e | h
    · cases e
      exact c.1
    · refine NamesL.blt (B := B) ?_ x h
      cases g <;> first | exact c | exact c.2
theorem tab_mk {K : PySem.W.Frag} {B : Tb} {tbl : List DefT} {mts : List MetT} {cts : List ClsT} {ly : Ly} (hK : B.K = K) {pw : Params} (hP : B.pw = pw) (O : ClsOk B K ly.nf) (an : ly.at_ = B.at_) (D : DefsL ly tbl) (F : FactsL K tbl) (MD : MDefsL ly mts) (MF : MFactsL K B mts) (CF : CFactsL K B cts)
    (few : decide (tbl.length < 1000000) = true) (c : glChk tbl cts ly.gl = true) (c1 : mcChk mts ly.mc = true) (c2 : ids mts [] = true) (c3 : ctChk mts cts [] = true) (N : NamesL K B ly.gl) : TabOk pw K B tbl mts cts ly where
  hK := hK
  hP := hP
  ob := O
  an := an
  few := of_decide_eq_true few
  defs := D.all
  facts := F.all
  mdefs := MD.all
  mfacts := MF.all
  cfacts := CF.all
  mT := fun q hq => by
    obtain ⟨h1, _, h2, h3⟩ := ids.find c2 q hq
    unfold Tof
    rw [if_neg (by unfold mid; omega), if_pos (by unfold mid; omega), h1]
    rfl
  cT := fun q hq => by
    obtain ⟨h1, _, h2⟩ := ctChk.find c3 q hq
    refine ⟨?_, h2⟩
    unfold Tof
    rw [if_neg (by unfold cid; omega), if_neg (by unfold cid; omega), h1]
    rfl
  fns := fun x id ar h => (glChk.all c).1 x id ar (lookup_mem h)
  clss := fun x id ar h => (glChk.all c).2 x id ar (lookup_mem h)
  csts := fun x d h => N.cst x d (lookup_mem h)
  blts := fun x h => N.blt x (lookup_mem h)
  mcs := mcChk.all c1
/-! constants -/
theorem co_int {K : PySem.W.Frag} {B : Tb} {x : Str} {i : Int} {t : Tok} (h : PySem.W.nsIn K mainGlobals x = some (some (.int i t))) : ∃ v u, PySem.W.nsIn K mainGlobals x = some (some u) ∧ RelV v u ∧ ∀ H ρ, RelD B H ρ (.int i) v :=
  ⟨.int i, _, h, ⟨t, rfl⟩, fun _ _ => rfl⟩
def strChk (x : List Nat) : Bool := decide (x.length ≤ 100000) && x.all (fun c => decide (c < 1114112))
theorem strChk_ok {x : List Nat} (h : strChk x = true) : StrOk x := by
  rw [strChk, Bool.and_eq_true, decide_eq_true_eq, List.all_eq_true] at h
  exact ⟨Nat.le_trans h.1 (by decide), fun c hc => of_decide_eq_true (h.2 c hc)⟩
theorem co_str {K : PySem.W.Frag} {B : Tb} {x : Str} {a : List Nat} {s : Str} {t : Tok} (h : PySem.W.nsIn K mainGlobals x = some (some (.str s t))) (e : s = ⟨a.toArray⟩) (c : strChk a = true) : ∃ v u, PySem.W.nsIn K mainGlobals x = some (some u) ∧ RelV v u ∧ ∀ H ρ, RelD B H ρ (.str a) v :=
  ⟨.str s, _, h, ⟨t, rfl⟩, fun _ _ => ⟨by rw [e], strChk_ok c⟩⟩
/-- a tuple's items, as they stand in the module -/
def v1 : D → Value → Bool
  | .str a, .str s _ => s == ⟨a.toArray⟩ && strChk a
  | .int i, .int j _ => i == j
  | .non, .none => true
  | .bl a, .bool b => a == b
  | _, _ => false
theorem v1_ok {B : Tb} {d : D} {u : Value} (h : v1 d u = true) : ∃ v, RelV v u ∧ ∀ H ρ, RelD B H ρ d v := by
  unfold v1 at h
  split at h
  · rename_i a s t
    rw [Bool.and_eq_true, beq_iff_eq] at h
    exact ⟨.str s, ⟨t, rfl⟩, fun _ _ => ⟨by rw [h.1], strChk_ok h.2⟩⟩
  · rename_i i j t
    rw [beq_iff_eq] at h
    exact ⟨.int j, ⟨t, rfl⟩, fun _ _ => by rw [h]; rfl⟩
  · exact ⟨.non, rfl, fun _ _ => rfl⟩
  · rename_i a b
    rw [beq_iff_eq] at h
    exact ⟨.bl b, rfl, fun _ _ => by rw [h]; rfl⟩
  · cases h
def itsChk : List D → List Value → Bool
  | [], [] => true
  | d :: r, u :: q => v1 d u && itsChk r q
  | _, _ => false
theorem itsChk_ok {B : Tb} : ∀ (ds : List D) (us : List Value), itsChk ds us = true → ∃ vs, Vals vs us ∧ ∀ H ρ, RelDs B H ρ ds vs
  | [], [], _ => ⟨[], .nil, fun _ _ => rfl⟩
  | [], _ :: _, h => by simp [itsChk] at h
  | _ :: _, [], h => by simp [itsChk] at h
  | d :: r, u :: q, h => by
    rw [itsChk, Bool.and_eq_true] at h
    obtain ⟨v, r1, r2⟩ := v1_ok (B := B) h.1
    obtain ⟨vs, h1, h2⟩ := itsChk_ok (B := B) r q h.2
    exact ⟨v :: vs, .cons r1 h1, fun H ρ => ⟨_, _, rfl, r2 H ρ, h2 H ρ⟩⟩
theorem co_tup {K : PySem.W.Frag} {B : Tb} (hK : B.K = K) {x : Str} {ds : List D} {a : Addr} {od : Option Addr} {its : Array Value} {n : Nat} {sl : Array (Option Value)} (h : PySem.W.nsIn K mainGlobals x = some (some (.ref a)))
    (l : K.lookup a = some ⟨.type "tuple", od, .seq its n, sl⟩) (c : itsChk ds its.toList = true) (z : (decide (its.size ≤ 100000) && decide (ds.length ≤ 100000)) = true) : ∃ v u, PySem.W.nsIn K mainGlobals x = some (some u) ∧ RelV v u ∧ ∀ H ρ, RelD B H ρ (.tup ds) v := by
  obtain ⟨vs, h1, h2⟩ := itsChk_ok (B := B) _ _ c
  rw [Bool.and_eq_true, decide_eq_true_eq, decide_eq_true_eq] at z
  exact ⟨.ref a, _, h, rfl, fun H ρ => ⟨a, vs, rfl, .inr ⟨_, its, n, by rw [hK]; exact l, rfl, rfl, Nat.le_trans z.1 (by decide), h1⟩, Nat.le_trans z.2 (by decide), h2 H ρ⟩⟩
/-- a dict of the module: texts as keys, plain values or tuples of plain values -/
theorem co_dct {K : PySem.W.Frag} {B : Tb} (hK : B.K = K) {x : Str} {ks vs : List D} {us : List V} {a : Addr} {es : Array DictEntry} {n : Nat} (h : PySem.W.nsIn K mainGlobals x = some (some (.ref a)))
    (l : K.lookup a = some ⟨.type "dict", none, .dict es n, #[]⟩) (lo : (a == sysModules) = false) (kl : PySem.W.KeysLit B.pw es.toList) (ce : CDes ks us es.toList) (rv : ∀ H ρ, RelDs B H ρ vs us) : ∃ v u, PySem.W.nsIn K mainGlobals x = some (some u) ∧ RelV v u ∧ ∀ H ρ, RelD B H ρ (.fd ks vs) v :=
  ⟨.ref a, _, h, rfl, fun H ρ => ⟨a, us, rfl, ⟨es, n, by rw [hK]; exact l, kl, lo, ce⟩, rv H ρ⟩⟩
end PX

/-! PX: the steps of a run, as rows that dsimp takes. -/
namespace PX
open PySem
theorem r_add {i j : Int}{s : Sto} {Q : QE} : xBin .Add (.int i) (.int j) s Q = Q (.int (i + j)) s := rfl
theorem r_sub {i j : Int}{s : Sto} {Q : QE} : xBin .Sub (.int i) (.int j) s Q = Q (.int (i - j)) s := rfl
theorem r_mul {i j : Int}{s : Sto} {Q : QE} : xBin .Mult (.int i) (.int j) s Q = (mulOk i j ∧ Q (.int (i * j)) s) := rfl
theorem r_div {i j : Int}{s : Sto} {Q : QE} : xBin .FloorDiv (.int i) (.int j) s Q = (divOk j ∧ Q (.int (i / j)) s) := rfl
theorem r_mod {i j : Int}{s : Sto} {Q : QE} : xBin .Mod (.int i) (.int j) s Q = (0 < j ∧ Q (.int (i % j)) s) := rfl
theorem r_pow {i j : Int}{s : Sto} {Q : QE} : xBin .Pow (.int i) (.int j) s Q = (powOk i j ∧ Q (.int (i ^ j.toNat)) s) := rfl
theorem r_adds {a b : List Nat}{s : Sto} {Q : QE} : xBin .Add (.str a) (.str b) s Q = (a.length + b.length ≤ sizeLine ∧ Q (.str (a ++ b)) s) := rfl
theorem r_muls {a : List Nat} {j : Int}{s : Sto} {Q : QE} : xBin .Mult (.str a) (.int j) s Q = ((0 ≤ j ∧ j ≤ 16777216 ∧ a.length * j.toNat ≤ 16777216) ∧ Q (.str (List.replicate j.toNat a).flatten) s) := rfl
theorem r_addt {a b : List D}{s : Sto} {Q : QE} : xBin .Add (.tup a) (.tup b) s Q = (a.length + b.length ≤ sizeLine ∧ Q (.tup (a ++ b)) s) := rfl
theorem r_ipa {i j : Int}{s : Sto} {Q : QE} : xIp .Add (.int i) (.int j) s Q = Q (.int (i + j)) s := rfl
theorem r_ips {i j : Int}{s : Sto} {Q : QE} : xIp .Sub (.int i) (.int j) s Q = Q (.int (i - j)) s := rfl
theorem r_ipt {a b : List Nat}{s : Sto} {Q : QE} : xIp .Add (.str a) (.str b) s Q = (a.length + b.length ≤ sizeLine ∧ Q (.str (a ++ b)) s) := rfl
theorem r_len1 {a : List Nat}{s : Sto} {Q : QE} : xBlt .len [.str a] s Q = Q (.int a.length) s := rfl
theorem r_len2 {a : List D}{s : Sto} {Q : QE} : xBlt .len [.tup a] s Q = Q (.int a.length) s := rfl
theorem r_len3 {a : List D}{s : Sto} {Q : QE} : xBlt .len [.fl a] s Q = Q (.int a.length) s := rfl
theorem r_int1 {i : Int}{s : Sto} {Q : QE} : xBlt .int [.int i] s Q = Q (.int i) s := rfl
theorem r_int2 {b : Bool}{s : Sto} {Q : QE} : xBlt .int [.bl b] s Q = Q (.int (if b then 1 else 0)) s := rfl
theorem r_abs {i : Int}{s : Sto} {Q : QE} : xBlt .abs [.int i] s Q = Q (.int (if i < 0 then -i else i)) s := rfl
theorem r_str {i : Int}{s : Sto} {Q : QE} : xBlt .str [.int i] s Q = ((0 ≤ i ∧ i < 10 ^ 10) ∧ Q (.str (strI i)) s) := rfl
theorem r_tup1 {a : List D}{s : Sto} {Q : QE} : xBlt .tuple [.tup a] s Q = Q (.tup a) s := rfl
theorem r_tup2 {a : List D}{s : Sto} {Q : QE} : xBlt .tuple [.fl a] s Q = Q (.tup a) s := rfl
theorem r_lst1 {a : List D}{s : Sto} {Q : QE} : xBlt .list [.tup a] s Q = mk (.lst a) s Q := rfl
theorem r_lst2 {a : List D}{s : Sto} {Q : QE} : xBlt .list [.fl a] s Q = mk (.lst a) s Q := rfl
theorem r_max {i j : Int}{s : Sto} {Q : QE} : xBlt .max2 [.int i, .int j] s Q = Q (.int (if j > i then j else i)) s := rfl
theorem r_min {i j : Int}{s : Sto} {Q : QE} : xBlt .min2 [.int i, .int j] s Q = Q (.int (if j < i then j else i)) s := rfl
theorem r_isi_non0 {s : Sto} {Q : QE} : xBlt (.isi 0) [.non] s Q = Q (.bl false) s := rfl
theorem r_isi_non1 {s : Sto} {Q : QE} : xBlt (.isi 1) [.non] s Q = Q (.bl false) s := rfl
theorem r_isi_non2 {s : Sto} {Q : QE} : xBlt (.isi 2) [.non] s Q = Q (.bl false) s := rfl
theorem r_isi_non3 {s : Sto} {Q : QE} : xBlt (.isi 3) [.non] s Q = Q (.bl false) s := rfl
theorem r_isi_non4 {s : Sto} {Q : QE} : xBlt (.isi 4) [.non] s Q = Q (.bl false) s := rfl
theorem r_isi_non5 {s : Sto} {Q : QE} : xBlt (.isi 5) [.non] s Q = Q (.bl true) s := rfl
theorem r_isi_bl0 {b : Bool}{s : Sto} {Q : QE} : xBlt (.isi 0) [.bl b] s Q = Q (.bl true) s := rfl
theorem r_isi_bl1 {b : Bool}{s : Sto} {Q : QE} : xBlt (.isi 1) [.bl b] s Q = Q (.bl true) s := rfl
theorem r_isi_bl2 {b : Bool}{s : Sto} {Q : QE} : xBlt (.isi 2) [.bl b] s Q = Q (.bl false) s := rfl
theorem r_isi_bl3 {b : Bool}{s : Sto} {Q : QE} : xBlt (.isi 3) [.bl b] s Q = Q (.bl false) s := rfl
theorem r_isi_bl4 {b : Bool}{s : Sto} {Q : QE} : xBlt (.isi 4) [.bl b] s Q = Q (.bl false) s := rfl
theorem r_isi_bl5 {b : Bool}{s : Sto} {Q : QE} : xBlt (.isi 5) [.bl b] s Q = Q (.bl false) s := rfl
theorem r_isi_int0 {i : Int}{s : Sto} {Q : QE} : xBlt (.isi 0) [.int i] s Q = Q (.bl true) s := rfl
theorem r_isi_int1 {i : Int}{s : Sto} {Q : QE} : xBlt (.isi 1) [.int i] s Q = Q (.bl false) s := rfl
theorem r_isi_int2 {i : Int}{s : Sto} {Q : QE} : xBlt (.isi 2) [.int i] s Q = Q (.bl false) s := rfl
theorem r_isi_int3 {i : Int}{s : Sto} {Q : QE} : xBlt (.isi 3) [.int i] s Q = Q (.bl false) s := rfl
theorem r_isi_int4 {i : Int}{s : Sto} {Q : QE} : xBlt (.isi 4) [.int i] s Q = Q (.bl false) s := rfl
theorem r_isi_int5 {i : Int}{s : Sto} {Q : QE} : xBlt (.isi 5) [.int i] s Q = Q (.bl false) s := rfl
theorem r_isi_str0 {a : List Nat}{s : Sto} {Q : QE} : xBlt (.isi 0) [.str a] s Q = Q (.bl false) s := rfl
theorem r_isi_str1 {a : List Nat}{s : Sto} {Q : QE} : xBlt (.isi 1) [.str a] s Q = Q (.bl false) s := rfl
theorem r_isi_str2 {a : List Nat}{s : Sto} {Q : QE} : xBlt (.isi 2) [.str a] s Q = Q (.bl true) s := rfl
theorem r_isi_str3 {a : List Nat}{s : Sto} {Q : QE} : xBlt (.isi 3) [.str a] s Q = Q (.bl false) s := rfl
theorem r_isi_str4 {a : List Nat}{s : Sto} {Q : QE} : xBlt (.isi 4) [.str a] s Q = Q (.bl false) s := rfl
theorem r_isi_str5 {a : List Nat}{s : Sto} {Q : QE} : xBlt (.isi 5) [.str a] s Q = Q (.bl false) s := rfl
theorem r_isi_tup0 {a : List D}{s : Sto} {Q : QE} : xBlt (.isi 0) [.tup a] s Q = Q (.bl false) s := rfl
theorem r_isi_tup1 {a : List D}{s : Sto} {Q : QE} : xBlt (.isi 1) [.tup a] s Q = Q (.bl false) s := rfl
theorem r_isi_tup2 {a : List D}{s : Sto} {Q : QE} : xBlt (.isi 2) [.tup a] s Q = Q (.bl false) s := rfl
theorem r_isi_tup3 {a : List D}{s : Sto} {Q : QE} : xBlt (.isi 3) [.tup a] s Q = Q (.bl true) s := rfl
theorem r_isi_tup4 {a : List D}{s : Sto} {Q : QE} : xBlt (.isi 4) [.tup a] s Q = Q (.bl false) s := rfl
theorem r_isi_tup5 {a : List D}{s : Sto} {Q : QE} : xBlt (.isi 5) [.tup a] s Q = Q (.bl false) s := rfl
theorem r_isi_fl0 {a : List D}{s : Sto} {Q : QE} : xBlt (.isi 0) [.fl a] s Q = Q (.bl false) s := rfl
theorem r_isi_fl1 {a : List D}{s : Sto} {Q : QE} : xBlt (.isi 1) [.fl a] s Q = Q (.bl false) s := rfl
theorem r_isi_fl2 {a : List D}{s : Sto} {Q : QE} : xBlt (.isi 2) [.fl a] s Q = Q (.bl false) s := rfl
theorem r_isi_fl3 {a : List D}{s : Sto} {Q : QE} : xBlt (.isi 3) [.fl a] s Q = Q (.bl false) s := rfl
theorem r_isi_fl4 {a : List D}{s : Sto} {Q : QE} : xBlt (.isi 4) [.fl a] s Q = Q (.bl true) s := rfl
theorem r_isi_fl5 {a : List D}{s : Sto} {Q : QE} : xBlt (.isi 5) [.fl a] s Q = Q (.bl false) s := rfl
theorem r_cLt {i j : Int}{s : Sto} : cmpD s .Lt (.int i) (.int j) = some (decide (i < j)) := rfl
theorem r_cLtE {i j : Int}{s : Sto} : cmpD s .LtE (.int i) (.int j) = some (decide (i ≤ j)) := rfl
theorem r_cGt {i j : Int}{s : Sto} : cmpD s .Gt (.int i) (.int j) = some (decide (j < i)) := rfl
theorem r_cGtE {i j : Int}{s : Sto} : cmpD s .GtE (.int i) (.int j) = some (decide (j ≤ i)) := rfl
theorem r_cEq {i j : Int}{s : Sto} : cmpD s .Eq (.int i) (.int j) = some (decide (i = j)) := rfl
theorem r_cNe {i j : Int}{s : Sto} : cmpD s .NotEq (.int i) (.int j) = some (!decide (i = j)) := rfl
theorem r_cEqs {a b : List Nat}{s : Sto} : cmpD s .Eq (.str a) (.str b) = some (decide (a = b)) := rfl
theorem r_cNes {a b : List Nat}{s : Sto} : cmpD s .NotEq (.str a) (.str b) = some (!decide (a = b)) := rfl
theorem r_cEqb {a b : Bool}{s : Sto} : cmpD s .Eq (.bl a) (.bl b) = some (decide (a = b)) := rfl
theorem r_cNeb {a b : Bool}{s : Sto} : cmpD s .NotEq (.bl a) (.bl b) = some (!decide (a = b)) := rfl
theorem r_cIns {a b : List Nat}{s : Sto} : cmpD s .In (.str a) (.str b) = some (subS a b) := rfl
theorem r_cNis {a b : List Nat}{s : Sto} : cmpD s .NotIn (.str a) (.str b) = some (!subS a b) := rfl
theorem r_is_non {s : Sto} : cmpD s .Is (.non) .non = some true := rfl
theorem r_isn_non {s : Sto} : cmpD s .IsNot (.non) .non = some false := rfl
theorem r_is_bl {b : Bool}{s : Sto} : cmpD s .Is (.bl b) .non = some false := rfl
theorem r_isn_bl {b : Bool}{s : Sto} : cmpD s .IsNot (.bl b) .non = some true := rfl
theorem r_is_int {i : Int}{s : Sto} : cmpD s .Is (.int i) .non = some false := rfl
theorem r_isn_int {i : Int}{s : Sto} : cmpD s .IsNot (.int i) .non = some true := rfl
theorem r_is_str {a : List Nat}{s : Sto} : cmpD s .Is (.str a) .non = some false := rfl
theorem r_isn_str {a : List Nat}{s : Sto} : cmpD s .IsNot (.str a) .non = some true := rfl
theorem r_is_tup {a : List D}{s : Sto} : cmpD s .Is (.tup a) .non = some false := rfl
theorem r_isn_tup {a : List D}{s : Sto} : cmpD s .IsNot (.tup a) .non = some true := rfl
theorem r_is_fl {a : List D}{s : Sto} : cmpD s .Is (.fl a) .non = some false := rfl
theorem r_isn_fl {a : List D}{s : Sto} : cmpD s .IsNot (.fl a) .non = some true := rfl
theorem r_is_ref {n : Nat}{s : Sto} : cmpD s .Is (.ref n) .non = some false := rfl
theorem r_isn_ref {n : Nat}{s : Sto} : cmpD s .IsNot (.ref n) .non = some true := rfl
theorem r_is_kd {n : Nat}{s : Sto} : cmpD s .Is (.kd n) .non = some false := rfl
theorem r_isn_kd {n : Nat}{s : Sto} : cmpD s .IsNot (.kd n) .non = some true := rfl
theorem r_tru_non {s : Sto} : tru s (.non) = some false := rfl
theorem r_tru_bl {b : Bool}{s : Sto} : tru s (.bl b) = some b := rfl
theorem r_tru_int {i : Int}{s : Sto} : tru s (.int i) = some (i != 0) := rfl
theorem r_tru_str {a : List Nat}{s : Sto} : tru s (.str a) = some (!a.isEmpty) := rfl
theorem r_tru_tup {a : List D}{s : Sto} : tru s (.tup a) = some (!a.isEmpty) := rfl
theorem r_tru_fl {a : List D}{s : Sto} : tru s (.fl a) = some (!a.isEmpty) := rfl
theorem r_obl {b : Bool} {K : Bool → Prop} : obl (some b) K = K b := rfl
theorem r_brt {A B : Prop} : br (some true) A B = A := rfl
theorem r_brf {A B : Prop} : br (some false) A B = B := rfl
theorem r_pk {n : Nat} : partD (.kd n) = some none := rfl
theorem r_pi {i : Int} : partD (.int i) = some (some i) := rfl
theorem r_sl_strkk {a : List Nat}{p : Nat}{q : Nat}{s : Sto} {Q : QE} : xSl (.str a) (.kd p) (.kd q) s Q = Q (.str (cut a none none)) s := rfl
theorem r_sl_strki {a : List Nat}{p : Nat}{j : Int}{s : Sto} {Q : QE} : xSl (.str a) (.kd p) (.int j) s Q = Q (.str (cut a none (some j))) s := rfl
theorem r_sl_strik {a : List Nat}{i : Int}{q : Nat}{s : Sto} {Q : QE} : xSl (.str a) (.int i) (.kd q) s Q = Q (.str (cut a (some i) none)) s := rfl
theorem r_sl_strii {a : List Nat}{i : Int}{j : Int}{s : Sto} {Q : QE} : xSl (.str a) (.int i) (.int j) s Q = Q (.str (cut a (some i) (some j))) s := rfl
theorem r_sl_tupkk {a : List D}{p : Nat}{q : Nat}{s : Sto} {Q : QE} : xSl (.tup a) (.kd p) (.kd q) s Q = Q (.tup (cut a none none)) s := rfl
theorem r_sl_tupki {a : List D}{p : Nat}{j : Int}{s : Sto} {Q : QE} : xSl (.tup a) (.kd p) (.int j) s Q = Q (.tup (cut a none (some j))) s := rfl
theorem r_sl_tupik {a : List D}{i : Int}{q : Nat}{s : Sto} {Q : QE} : xSl (.tup a) (.int i) (.kd q) s Q = Q (.tup (cut a (some i) none)) s := rfl
theorem r_sl_tupii {a : List D}{i : Int}{j : Int}{s : Sto} {Q : QE} : xSl (.tup a) (.int i) (.int j) s Q = Q (.tup (cut a (some i) (some j))) s := rfl
theorem r_mtj {a : List Nat} {s : Sto} : mTy .join (.str a) s = True := rfl
theorem r_it1 {a : List Nat}{s : Sto} {K : List D → WK → Prop} : xIt .seq [.str a] s K = K (a.map fun c => .str [c]) .free := rfl
theorem r_it2 {a : List D}{s : Sto} {K : List D → WK → Prop} : xIt .seq [.tup a] s K = K a .free := rfl
theorem r_it3 {a : List D}{s : Sto} {K : List D → WK → Prop} : xIt .seq [.fl a] s K = K a .free := rfl
theorem r_it4 {j : Int}{s : Sto} {K : List D → WK → Prop} : xIt .rng1 [.int j] s K = (rngOk 0 j ∧ K (rngL 0 j) .free) := rfl
theorem r_it5 {i j : Int}{s : Sto} {K : List D → WK → Prop} : xIt .rng2 [.int i, .int j] s K = (rngOk i j ∧ K (rngL i j) .free) := rfl
theorem r_brnt {A B : Prop} : br (some (!true)) A B = B := rfl
theorem r_brnf {A B : Prop} : br (some (!false)) A B = A := rfl
theorem r_ko_i {i : Int} : keyOk (.int i) = true := rfl
theorem r_ko_s {a : List Nat} : keyOk (.str a) = true := rfl
theorem r_if_t {A B : Prop} : (if true = true then A else B) = A := rfl
end PX

local macro_rules | `(tactic| walk_at "run") => `(tactic| first | dsimp only [PX.xSs, PX.xS, PX.xE, PX.xEs, PX.xIf, PX.xTg, PX.xTgs, PX.mk, PX.chk, Option.isSome, Option.map, List.map, List.replicate, List.cons_append, List.nil_append, List.getElem?_cons_zero, List.getElem?_cons_succ, List.set_cons_zero, List.set_cons_succ, List.length_cons, List.length_nil, Nat.sub_self, Nat.reduceSub, Nat.reduceAdd, Bool.not_true, Bool.not_false, true_and, and_true, PX.r_add, PX.r_sub, PX.r_mul, PX.r_div, PX.r_mod, PX.r_pow, PX.r_adds, PX.r_muls, PX.r_addt, PX.r_ipa, PX.r_ips, PX.r_ipt, PX.r_len1, PX.r_len2, PX.r_len3, PX.r_int1, PX.r_int2, PX.r_abs, PX.r_str, PX.r_tup1, PX.r_tup2, PX.r_lst1, PX.r_lst2, PX.r_max, PX.r_min, PX.r_isi_non0, PX.r_isi_non1, PX.r_isi_non2, PX.r_isi_non3, PX.r_isi_non4, PX.r_isi_non5, PX.r_isi_bl0, PX.r_isi_bl1, PX.r_isi_bl2, PX.r_isi_bl3, PX.r_isi_bl4, PX.r_isi_bl5, PX.r_isi_int0, PX.r_isi_int1, PX.r_isi_int2, PX.r_isi_int3, PX.r_isi_int4, PX.r_isi_int5, PX.r_isi_str0, PX.r_isi_str1, PX.r_isi_str2, PX.r_isi_str3, PX.r_isi_str4, PX.r_isi_str5, PX.r_isi_tup0, PX.r_isi_tup1, PX.r_isi_tup2, PX.r_isi_tup3, PX.r_isi_tup4, PX.r_isi_tup5, PX.r_isi_fl0, PX.r_isi_fl1, PX.r_isi_fl2, PX.r_isi_fl3, PX.r_isi_fl4, PX.r_isi_fl5, PX.r_cLt, PX.r_cLtE, PX.r_cGt, PX.r_cGtE, PX.r_cEq, PX.r_cNe, PX.r_cEqs, PX.r_cNes, PX.r_cEqb, PX.r_cNeb, PX.r_cIns, PX.r_cNis, PX.r_is_non, PX.r_isn_non, PX.r_is_bl, PX.r_isn_bl, PX.r_is_int, PX.r_isn_int, PX.r_is_str, PX.r_isn_str, PX.r_is_tup, PX.r_isn_tup, PX.r_is_fl, PX.r_isn_fl, PX.r_is_ref, PX.r_isn_ref, PX.r_is_kd, PX.r_isn_kd, PX.r_tru_non, PX.r_tru_bl, PX.r_tru_int, PX.r_tru_str, PX.r_tru_tup, PX.r_tru_fl, PX.r_obl, PX.r_brt, PX.r_brf, PX.r_pk, PX.r_pi, PX.r_sl_strkk, PX.r_sl_strki, PX.r_sl_strik, PX.r_sl_strii, PX.r_sl_tupkk, PX.r_sl_tupki, PX.r_sl_tupik, PX.r_sl_tupii, PX.r_mtj, PX.r_it1, PX.r_it2, PX.r_it3, PX.r_it4, PX.r_it5, PX.r_brnt, PX.r_brnf, PX.r_ko_i, PX.r_ko_s, PX.r_if_t] | skip)
/-! PX: lemmas for use. -/
namespace PX
open PySem
theorem lv_in {T : Nat → Option Fn} {k f : Nat} {fn : Fn} {vs : List D} {s : Sto} {Q : QE} {E : XQ} (h : T f = some fn) (hl : vs.length = fn.ar)
    (hb : xSs (Lv T k) fn.body (vs.map some ++ List.replicate (fn.sl - fn.ar) none) s { nx := fun _ s' => Q .non s', rt := Q, bk := fun _ _ => False, ct := fun _ _ => False, ex := fun c fs _ s' => E c fs s' }) : Lv T (k + 1) f vs s Q E := by
  simp only [Lv, h]
  exact ⟨hl, hb⟩
theorem br_dec {p A B : Prop} [Decidable p] (h1 : p → A) (h2 : ¬ p → B) : br (some (decide p)) A B := by
  by_cases h : p
  · rw [decide_eq_true h]; exact h1 h
  · rw [decide_eq_false h]; exact h2 h
theorem br_ndec {p A B : Prop} [Decidable p] (h1 : ¬ p → A) (h2 : p → B) : br (some (!decide p)) A B := by
  by_cases h : p
  · rw [decide_eq_true h]; exact h2 h
  · rw [decide_eq_false h]; exact h1 h
theorem br_b {b : Bool} {A B : Prop} (h1 : b = true → A) (h2 : b = false → B) : br (some b) A B := by
  cases b with
  | true => exact h1 rfl
  | false => exact h2 rfl
theorem br_t {b : Bool} {A B : Prop} (hb : b = true) (h : A) : br (some b) A B := by subst hb; exact h
theorem br_f {b : Bool} {A B : Prop} (hb : b = false) (h : B) : br (some b) A B := by subst hb; exact h
theorem br_yes {p A B : Prop} [Decidable p] (hp : p) (h : A) : br (some (decide p)) A B := br_dec (fun _ => h) (fun n => absurd hp n)
theorem br_no {p A B : Prop} [Decidable p] (hp : ¬ p) (h : B) : br (some (decide p)) A B := br_dec (fun n => absurd n hp) (fun _ => h)
/-! indices -/
theorem atI_k {α : Type} {xs : List α} {k : Nat} : L2.atI xs (k : Int) = xs[k]? := by
  cases h : xs[k]? with
  | some v => exact L2.atI_nat h
  | none =>
    unfold L2.atI L2.ixN
    have : ¬ ((k : Int) < (xs.length : Int)) := by
      have := List.getElem?_eq_none_iff.mp h
      omega
    rw [if_pos (by omega), if_neg this]
    rfl
theorem atI_nn {α : Type} {xs : List α} {i : Int} (h : 0 ≤ i) : L2.atI xs i = xs[i.toNat]? := by
  have := atI_k (xs := xs) (k := i.toNat)
  rwa [Int.toNat_of_nonneg h] at this
theorem atI_z {α : Type} {a : α} {l : List α} : L2.atI (a :: l) 0 = some a := atI_k (k := 0)
theorem atI_o {α : Type} {a b : α} {l : List α} : L2.atI (a :: b :: l) 1 = some b := atI_k (k := 1)
theorem atI_t {α : Type} {a b c : α} {l : List α} : L2.atI (a :: b :: c :: l) 2 = some c := atI_k (k := 2)
theorem atI_3 {α : Type} {a b c d : α} {l : List α} : L2.atI (a :: b :: c :: d :: l) 3 = some d := atI_k (k := 3)
theorem ixn_z {n : Nat} (h : 0 < n) : L2.ixN n 0 = some 0 := by
  unfold L2.ixN
  rw [if_pos (by decide), if_pos (by omega)]
  rfl
theorem ixn_k {n k : Nat} (h : k < n) : L2.ixN n (k : Int) = some k := by
  unfold L2.ixN
  rw [if_pos (by omega), if_pos (by omega), Int.toNat_natCast]
/-- an item, by the store's list -/
theorem ix_ref {s : Sto} {n : Nat} {xs : List D} {i : Int} {v : D} {Q : QE} (hs : s[n]? = some (.lst xs)) (hv : L2.atI xs i = some v) (h : Q v s) : xIx (.ref n) (.int i) s Q := by
  simp only [xIx, dicOf, xIs, seqOf, hs, hv]
  exact h
theorem ix_fl {s : Sto} {xs : List D} {i : Int} {v : D} {Q : QE} (hv : L2.atI xs i = some v) (h : Q v s) : xIx (.fl xs) (.int i) s Q := by
  simp only [xIx, dicOf, xIs, seqOf, hv]
  exact h
theorem ix_tup {s : Sto} {xs : List D} {i : Int} {v : D} {Q : QE} (hv : L2.atI xs i = some v) (h : Q v s) : xIx (.tup xs) (.int i) s Q := by
  simp only [xIx, dicOf, xIs, seqOf, hv]
  exact h
theorem ix_str {s : Sto} {a : List Nat} {i : Int} {c : Nat} {Q : QE} (hv : L2.atI a i = some c) (h : Q (.str [c]) s) : xIx (.str a) (.int i) s Q := by
  simp only [xIx, dicOf, xIs, hv]
  exact h
theorem atI_in {α : Type} {xs : List α} {i : Int} (h0 : 0 ≤ i) (h1 : i < xs.length) : ∃ v, L2.atI xs i = some v ∧ v ∈ xs := by
  rw [atI_nn h0]
  have : i.toNat < xs.length := by omega
  exact ⟨xs[i.toNat], List.getElem?_eq_getElem this, List.getElem_mem this⟩
/-- one of the items, whichever -/
theorem ix_any {s : Sto} {n : Nat} {xs : List D} {i : Int} {Q : QE} (hs : s[n]? = some (.lst xs)) (h0 : 0 ≤ i) (h1 : i < xs.length) (h : ∀ v ∈ xs, Q v s) : xIx (.ref n) (.int i) s Q := by
  obtain ⟨v, hv, hm⟩ := atI_in h0 h1
  exact ix_ref hs hv (h v hm)
theorem set_ref {s : Sto} {n : Nat} {xs : List D} {i : Int} {j : Nat} {v : D} {K : Sto → Prop} (hs : s[n]? = some (.lst xs)) (hj : L2.ixN xs.length i = some j) (h : K (s.set n (.lst (xs.set j v)))) : xAset (.ref n) (.int i) v s K := by
  simp only [xAset, hs, hj]
  exact h
/-! the store -/
theorem get_new {s r : Sto} {o : Ob} : (s ++ o :: r)[s.length]? = some o := by
  rw [List.getElem?_append_right (Nat.le_refl _), Nat.sub_self]
  rfl
theorem get_old {s r : Sto} {n : Nat} {o : Ob} (h : s[n]? = some o) : (s ++ r)[n]? = some o := by
  rw [List.getElem?_append_left (List.getElem?_eq_some_iff.mp h).1]
  exact h
theorem get_set {s : Sto} {n : Nat} {o o' : Ob} (h : s[n]? = some o) : (s.set n o')[n]? = some o' := List.getElem?_set_self (List.getElem?_eq_some_iff.mp h).1
theorem lt_of_get {s : Sto} {n : Nat} {o : Ob} (h : s[n]? = some o) : n < s.length := (List.getElem?_eq_some_iff.mp h).1
/-- all but r is kept -/
structure Kp (r : Nat → Prop) (s s' : Sto) : Prop where
  len : s.length ≤ s'.length
  get : ∀ (n : Nat) (o : Ob), ¬ r n → s[n]? = some o → s'[n]? = some o
theorem Kp.refl (r : Nat → Prop) (s : Sto) : Kp r s s := ⟨Nat.le_refl _, fun _ _ _ h => h⟩
theorem Kp.trans {r : Nat → Prop} {s s1 s2 : Sto} (a : Kp r s s1) (b : Kp r s1 s2) : Kp r s s2 := ⟨Nat.le_trans a.len b.len, fun n o h e => b.get n o h (a.get n o h e)⟩
theorem Kp.push {r : Nat → Prop} {s t : Sto} : Kp r s (s ++ t) := ⟨by simp, fun n o _ h => get_old h⟩
theorem Kp.set {r : Nat → Prop} {s : Sto} {n : Nat} {o : Ob} (h : r n) : Kp r s (s.set n o) := ⟨by simp, fun m o' hm e => by rw [List.getElem?_set_ne (by rintro rfl; exact hm h)]; exact e⟩
theorem Kp.mono {r r' : Nat → Prop} {s s' : Sto} (a : Kp r s s') (h : ∀ n, n < s.length → r n → r' n) : Kp r' s s' := ⟨a.len, fun n o hn e => a.get n o (fun z => hn (h n (lt_of_get e) z)) e⟩

/-! ### the draws that all laws share -/
def cellFn : Fn := ⟨2, 2, [.ite (.cmp .Lt (.var 1) (.blt .len [(.var 0)])) [.ret (.blt .abs [(.blt .int [(.ix (.var 0) (.var 1))])])] [], .ret (.lit (.int 0))]⟩
def srcFn (cid : Nat) : Fn := ⟨2, 3, [.asg (.nm 2) (.call cid [(.var 0), (.var 1)]),
  .ite (.cmp .GtE (.var 2) (.bin .Pow (.lit (.int 10)) (.lit (.int 18)))) [.ret (.lst [(.lit (.int 1)), (.bin .Sub (.var 2) (.bin .Pow (.lit (.int 10)) (.lit (.int 18)))), (.lit (.int 0))])] [],
  .ret (.lst [(.lit (.int 0)), (.bin .Add (.var 2) (.bin .Mult (.lit (.int 1000)) (.var 1))), (.lit (.int 0))])]⟩
def drawFn : Fn := ⟨2, 5, [.ite (.cmp .Eq (.ix (.var 0) (.lit (.int 0))) (.lit (.int 1))) [.asg (.nm 2) (.bin .Mod (.blt .int [(.ix (.var 0) (.lit (.int 1)))]) (.var 1)),
  .aset (.var 0) (.lit (.int 1)) (.bin .FloorDiv (.ix (.var 0) (.lit (.int 1))) (.var 1)),
  .ret (.var 2)] [],
  .aset (.var 0) (.lit (.int 2)) (.bin .Add (.ix (.var 0) (.lit (.int 2))) (.lit (.int 1))),
  .asg (.nm 3) (.bin .Mod (.blt .int [(.bin .Add (.bin .Add (.bin .Mult (.ix (.var 0) (.lit (.int 1))) (.lit (.int 48271))) (.bin .Mult (.ix (.var 0) (.lit (.int 2))) (.lit (.int 69621)))) (.lit (.int 11)))]) (.lit (.int 2147483647))),
  .asg (.nm 4) (.bin .Mod (.blt .int [(.bin .Add (.bin .Add (.bin .Mult (.var 3) (.var 3)) (.ix (.var 0) (.lit (.int 1)))) (.bin .Mult (.ix (.var 0) (.lit (.int 2))) (.lit (.int 40692))))]) (.lit (.int 2147483563))),
  .ret (.bin .Mod (.blt .int [(.bin .Add (.bin .FloorDiv (.bin .Mult (.var 4) (.var 4)) (.lit (.int 64))) (.var 3))]) (.var 1))]⟩
/-- the state of a source: how many draws it has made at most -/
def SrcL (b : Nat) (xs : List D) : Prop := ∃ f n k : Int, xs = [.int f, .int n, .int k] ∧ 0 ≤ n ∧ 0 ≤ k ∧ k ≤ b ∧ (f ≠ 1 → n < 2 ^ 70)
def Src (b : Nat) (s : Sto) (r : Nat) : Prop := ∃ xs, s[r]? = some (.lst xs) ∧ SrcL b xs
theorem Src.mono {b b' : Nat} {s : Sto} {r : Nat} (h : Src b s r) (hb : b ≤ b') : Src b' s r := by
  obtain ⟨xs, e, f, n, k, h1, h2, h3, h4, h5⟩ := h
  exact ⟨xs, e, f, n, k, h1, h2, h3, by omega, h5⟩
theorem Src.kp {b : Nat} {s s' : Sto} {r : Nat} {R : Nat → Prop} (h : Src b s r) (k : Kp R s s') (hr : ¬ R r) : Src b s' r := by
  obtain ⟨xs, e, q⟩ := h
  exact ⟨xs, k.get r _ hr e, q⟩
theorem log2_le {i : Int} {n : Nat} (h0 : 0 ≤ i) (h : i < 2 ^ n) (hn : 0 < n) : i.natAbs.log2 < n := by
  have e : i.natAbs < 2 ^ n := by
    have h1 : (i.natAbs : Int) = i := by omega
    have h2 : ((2 ^ n : Nat) : Int) = (2 : Int) ^ n := by norm_cast
    omega
  exact PySem.Flt.log2_lt_of hn e
theorem mul_small {i j : Int} (h0 : 0 ≤ i) (h1 : i < 2 ^ 200) (h2 : 0 ≤ j) (h3 : j < 2 ^ 200) : mulOk i j := by
  have a := log2_le h0 h1 (by decide)
  have b := log2_le h2 h3 (by decide)
  show _ + _ < 1000000
  omega
theorem div_small {j : Int} (h0 : 0 < j) (h1 : j < 2 ^ 200) : divOk j := ⟨h0, Nat.lt_of_lt_of_le (log2_le (by omega) h1 (by decide)) (by decide)⟩
section
variable {T : Nat → Option Fn} {j : Nat} {E : XQ}
def cellV (ns : List Int) (k : Nat) : Int := match ns[k]? with
  | some n => if n < 0 then -n else n
  | none => 0
theorem cellV_nn (ns : List Int) (k : Nat) : 0 ≤ cellV ns k := by
  unfold cellV
  split
  · split <;> omega
  · exact Int.le_refl _
theorem cell_ok {cid : Nat} (hT : T cid = some cellFn) {ns : List Int} {k : Nat} {s : Sto} {Q : QE} (h : Q (.int (cellV ns k)) s) : Lv T (j + 1) cid [.fl (ns.map .int), .int k] s Q E := by
  refine lv_in hT rfl ?_
  unfold cellFn
  walk_at "run"
  refine br_dec (fun hk => ?_) (fun hk => ?_)
  · rw [List.length_map] at hk
    have hk' : k < ns.length := by omega
    refine ix_fl (v := .int ns[k]) (by rw [atI_k, List.getElem?_map, List.getElem?_eq_getElem hk']; rfl) ?_
    walk_at "run"
    unfold cellV at h
    rw [List.getElem?_eq_getElem hk'] at h
    exact h
  · rw [List.length_map] at hk
    unfold cellV at h
    rw [List.getElem?_eq_none (by omega)] at h
    exact h
theorem src_ok {cid sid : Nat} (hT : T cid = some cellFn) (hS : T sid = some (srcFn cid)) {ns : List Int} {k : Nat} (hk : k < 1000000) {s : Sto} {Q : QE} (h : ∀ xs, SrcL 0 xs → Q (.ref s.length) (s ++ [.lst xs])) : Lv T (j + 2) sid [.fl (ns.map .int), .int k] s Q E := by
  refine lv_in hS rfl ?_
  unfold srcFn
  walk_at "run"
  refine cell_ok hT ?_
  have c0 := cellV_nn ns k
  generalize cellV ns k = c at c0
  walk_at "run"
  refine ⟨by refine ⟨by decide, by decide, by decide⟩, br_dec (fun hc => ?_) (fun hc => ?_)⟩
  · have hc' : (10 : Int) ^ 18 ≤ c := hc
    refine ⟨by refine ⟨by decide, by decide, by decide⟩, by decide, h _ ⟨1, c - 10 ^ 18, 0, rfl, by omega, by decide, by decide, fun z => absurd rfl z⟩⟩
  · have hc' : c < (10 : Int) ^ 18 := by
      have : ¬ ((10 : Int) ^ 18 ≤ c) := hc
      omega
    refine ⟨mul_small (by decide) (by decide) (by omega) (by omega), by decide, h _ ⟨0, c + 1000 * k, 0, rfl, by omega, by decide, by decide, fun _ => by omega⟩⟩
theorem draw_ok {did : Nat} (hD : T did = some drawFn) {b r : Nat} {m : Int} {s : Sto} {Q : QE} (hs : Src b s r) (hb : b < 2 ^ 60) (hm' : divOk m)
    (h : ∀ v xs, 0 ≤ v → v < m → SrcL (b + 1) xs → Q (.int v) (s.set r (.lst xs))) : Lv T (j + 1) did [.ref r, .int m] s Q E := by
  obtain ⟨xs, hr, f, n, k, rfl, h1, h2, h3, h4⟩ := hs
  have hm := hm'.1
  refine lv_in hD rfl ?_
  unfold drawFn
  walk_at "run"
  refine ix_ref hr atI_z ?_
  walk_at "run"
  refine br_dec (fun hf => ?_) (fun hf => ?_)
  · refine ix_ref hr atI_o ?_
    walk_at "run"
    refine ⟨hm, ix_ref hr atI_o ⟨hm', set_ref hr (ixn_k (k := 1) (by simp)) ?_⟩⟩
    walk_at "run"
    refine h _ _ (Int.emod_nonneg _ (by omega)) (Int.emod_lt_of_pos _ hm) ⟨f, n / m, k, rfl, Int.ediv_nonneg h1 (by omega), h2, by omega, fun z => absurd hf z⟩
  · have n70 := h4 hf
    refine ix_ref hr atI_t ?_
    walk_at "run"
    refine set_ref hr (ixn_k (k := 2) (by simp)) ?_
    have hr2 := get_set (o' := Ob.lst [D.int f, D.int n, D.int (k + 1)]) hr
    walk_at "run"
    refine ix_ref hr2 atI_o ⟨mul_small h1 (by omega) (by decide) (by decide), ix_ref hr2 atI_t ⟨mul_small (by omega) (by omega) (by decide) (by decide), by decide, ?_⟩⟩
    have a0 := Int.emod_nonneg (n * 48271 + (k + 1) * 69621 + 11) (show (2147483647 : Int) ≠ 0 by decide)
    have a1 := Int.emod_lt_of_pos (n * 48271 + (k + 1) * 69621 + 11) (show (0 : Int) < 2147483647 by decide)
    generalize (n * 48271 + (k + 1) * 69621 + 11) % 2147483647 = a at a0 a1
    refine ⟨mul_small a0 (by omega) a0 (by omega), ix_ref hr2 atI_o ?_⟩
    walk_at "run"
    refine ix_ref hr2 atI_t ?_
    walk_at "run"
    refine ⟨mul_small (by omega) (by omega) (by decide) (by decide), by decide, ?_⟩
    have b0 := Int.emod_nonneg (a * a + n + (k + 1) * 40692) (show (2147483563 : Int) ≠ 0 by decide)
    have b1 := Int.emod_lt_of_pos (a * a + n + (k + 1) * 40692) (show (0 : Int) < 2147483563 by decide)
    generalize (a * a + n + (k + 1) * 40692) % 2147483563 = c at b0 b1
    refine ⟨mul_small b0 (by omega) b0 (by omega), div_small (by decide) (by omega), hm, ?_⟩
    exact h _ _ (Int.emod_nonneg _ (by omega)) (Int.emod_lt_of_pos _ hm) ⟨f, n, k + 1, rfl, h1, by omega, by omega, fun _ => n70⟩
end
end PX

/-! PX: more lemmas for use. -/
namespace PX
open PySem
theorem len_ref {s : Sto} {n : Nat} {xs : List D} {Q : QE} (hs : s[n]? = some (.lst xs)) (h : Q (.int xs.length) s) : xBlt .len [.ref n] s Q := by
  simp only [xBlt, bLen, seqOf, hs]
  exact h
theorem tup_ref {s : Sto} {n : Nat} {xs : List D} {Q : QE} (hs : s[n]? = some (.lst xs)) (h : Q (.tup xs) s) : xBlt .tuple [.ref n] s Q := by
  simp only [xBlt, bTup, seqOf, hs]
  exact h
theorem mty_ref {m : MF} {s : Sto} {n : Nat} {xs : List D} (hs : s[n]? = some (.lst xs)) (hm : mT m = "list") : mTy m (.ref n) s := by
  cases m <;> first | exact absurd hm (by decide) | (simp only [mTy, hs])
theorem app_ref {s : Sto} {n : Nat} {xs : List D} {v : D} {Q : QE} (hs : s[n]? = some (.lst xs)) (hl : xs.length < sizeLine) (h : Q .non (s.set n (.lst (xs ++ [v])))) : xMeth .append (.ref n) [v] s Q := by
  simp only [xMeth, hs]
  exact ⟨hl, h⟩
theorem it_ref {s : Sto} {n : Nat} {xs : List D} {K : List D → WK → Prop} (hs : s[n]? = some (.lst xs)) (h : K xs (.lst n)) : xIt .seq [.ref n] s K := by
  simp only [xIt, hs]
  exact h
theorem add_refs {s : Sto} {m n : Nat} {a b : List D} {Q : QE} (ha : s[m]? = some (.lst a)) (hb : s[n]? = some (.lst b)) (hl : a.length + b.length ≤ sizeLine) (h : Q (.ref s.length) (s ++ [.lst (a ++ b)])) : xBin .Add (.ref m) (.ref n) s Q := by
  simp only [xBin, ha, hb]
  exact ⟨hl, h⟩
theorem br_ref {s : Sto} {n : Nat} {xs : List D} {A B : Prop} (hs : s[n]? = some (.lst xs)) (h1 : xs ≠ [] → A) (h2 : xs = [] → B) : br (tru s (.ref n)) A B := by
  simp only [tru, hs]
  cases xs with
  | nil => exact h2 rfl
  | cons a r => exact h1 (by simp)
theorem join_ref {s : Sto} {n : Nat} {l : List (List Nat)} {sep : List Nat} {Q : QE} (hs : s[n]? = some (.lst (l.map .str))) (hl : (l.map List.length).sum + l.length * sep.length ≤ 16777216) (h : Q (.str (joinS sep l)) s) : xMeth .join (.str sep) [.ref n] s Q := by
  have e : ∀ l : List (List Nat), strsOf (l.map .str) = some l := fun l => by
    induction l with
    | nil => rfl
    | cons a r ih => simp only [List.map_cons, strsOf, ih]; rfl
  simp only [xMeth, seqOf, hs, e]
  exact ⟨hl, h⟩
theorem joinS_nil : ∀ l : List (List Nat), joinS [] l = l.flatten
  | [] => rfl
  | [a] => by simp [joinS]
  | a :: b :: r => by simp only [joinS, joinS_nil (b :: r), List.append_nil, List.flatten_cons]
/-! equality of lists and tuples of plain values -/
def pl : D → Bool
  | .non | .int _ | .str _ => true
  | _ => false
theorem resWs_pl {r : Nat → Option D} : ∀ {xs : List D}, (∀ x ∈ xs, pl x = true) → resWs r xs = some xs
  | [], _ => rfl
  | x :: xs, h => by
    have a := h x (by simp)
    have b := resWs_pl (r := r) (xs := xs) fun y hy => h y (by simp [hy])
    cases x <;> simp_all [resWs, resW, pl]
theorem nobs_pl {k : Nat} : ∀ {xs : List D}, (∀ x ∈ xs, pl x = true) → nobs k xs = true
  | [], _ => by simp [nobs]
  | x :: xs, h => by
    have a := h x (by simp)
    have b := nobs_pl (k := k) (xs := xs) fun y hy => h y (by simp [hy])
    cases x <;> simp_all [nobs, nob, pl]
theorem res_pl {s : Sto} {n k : Nat} {xs : List D} (hs : s[n]? = some (.lst xs)) (hp : ∀ x ∈ xs, pl x = true) : res s (k + 1) (.ref n) = some (.fl xs) := by
  simp only [res, resW, hs, resWs_pl hp]
  rfl
theorem eq_refs {s : Sto} {m n : Nat} {xs ys : List D} (hx : s[m]? = some (.lst xs)) (hy : s[n]? = some (.lst ys)) (px : ∀ x ∈ xs, pl x = true) (py : ∀ x ∈ ys, pl x = true) : eqD s (.ref m) (.ref n) = some (decide (xs = ys)) := by
  show eqDeep s (.ref m) (.ref n) = _
  unfold eqDeep
  rw [res_pl hx px, res_pl hy py]
  have a : nob 40 (.fl xs) = true := nobs_pl px
  have b : nob 40 (.fl ys) = true := nobs_pl py
  simp only [a, b, Bool.and_self, if_true, D.fl.injEq]
theorem res_tup {s : Sto} {k : Nat} {xs : List D} (hp : ∀ x ∈ xs, pl x = true) : res s (k + 1) (.tup xs) = some (.tup xs) := by
  simp only [res, resW, resWs_pl hp]
  rfl
theorem eq_tups {s : Sto} {xs ys : List D} (px : ∀ x ∈ xs, pl x = true) (py : ∀ x ∈ ys, pl x = true) : eqD s (.tup xs) (.tup ys) = some (decide (xs = ys)) := by
  show eqDeep s (.tup xs) (.tup ys) = _
  unfold eqDeep
  rw [res_tup px, res_tup py]
  have a : nob 40 (.tup xs) = true := nobs_pl px
  have b : nob 40 (.tup ys) = true := nobs_pl py
  simp only [a, b, Bool.and_self, if_true, D.tup.injEq]
theorem pl_strs (l : List (List Nat)) : ∀ x ∈ l.map D.str, pl x = true := fun x hx => by
  obtain ⟨a, _, rfl⟩ := List.mem_map.mp hx
  rfl
theorem pl_ints (l : List Int) : ∀ x ∈ l.map D.int, pl x = true := fun x hx => by
  obtain ⟨a, _, rfl⟩ := List.mem_map.mp hx
  rfl
theorem strs_inj {l m : List (List Nat)} : l.map D.str = m.map D.str ↔ l = m := by
  constructor
  · intro h
    exact (List.map_inj_right (fun a b e => by cases e; rfl)).mp h
  · rintro rfl; rfl
theorem in_strs {s : Sto} {w : List Nat} {l : List (List Nat)} : inD s (.str w) (.tup (l.map .str)) = some (decide (w ∈ l)) := by
  have e1 : (l.map D.str).all flatD = true := by
    rw [List.all_eq_true]
    intro x hx
    obtain ⟨a, _, rfl⟩ := List.mem_map.mp hx
    rfl
  have e2 : ((l.map D.str).any fun z => eqF z (.str w)) = decide (w ∈ l) := by
    induction l with
    | nil => rfl
    | cons a r ih =>
      rw [List.map_cons, List.any_cons, ih (by
        rw [List.map_cons, List.all_cons, Bool.and_eq_true] at e1
        exact e1.2)]
      rw [Bool.eq_iff_iff, Bool.or_eq_true, decide_eq_true_eq, decide_eq_true_eq, List.mem_cons]
      show (a == w) = true ∨ _ ↔ _
      rw [beq_iff_eq]
      exact ⟨fun h => h.imp (fun e => e.symm) id, fun h => h.imp (fun e => e.symm) id⟩
  show (match seqOf s (.tup (l.map .str)) with
    | some ys => if flatD (.str w) && ys.all flatD then some (ys.any fun z => eqF z (.str w)) else none
    | none => none) = _
  simp only [seqOf, e1, e2, flatD, Bool.and_self, if_true]
theorem cin_strs {s : Sto} {w : List Nat} {l : List (List Nat)} : cmpD s .In (.str w) (.tup (l.map .str)) = some (decide (w ∈ l)) := in_strs (s := s)
theorem cnin_strs {s : Sto} {w : List Nat} {l : List (List Nat)} : cmpD s .NotIn (.str w) (.tup (l.map .str)) = some (!decide (w ∈ l)) := by
  show (inD s (.str w) (.tup (l.map .str))).map _ = _
  rw [in_strs]
  rfl
theorem br_nb {b : Bool} {A B : Prop} (h1 : b = false → A) (h2 : b = true → B) : br (some (!b)) A B := by
  cases b with
  | true => exact h2 rfl
  | false => exact h1 rfl
theorem atI_hd {α : Type} {a : List α} {c : α} (h : a.head? = some c) : L2.atI a 0 = some c := by
  cases a with
  | nil => cases h
  | cons x r => cases h; exact atI_z
/-! parts of texts -/
theorem sub_one (a : List Nat) (c : Nat) : subS [c] a = decide (c ∈ a) := by
  have := StrLaws.found_one ⟨a.toArray⟩ c
  simpa [subS, Str.length] using this
theorem sub_no {a b : List Nat} (h : ∀ i, i + a.length ≤ b.length → ∃ t, t < a.length ∧ b[i + t]? ≠ a[t]?) : subS a b = false := by
  have e : Builtin.Str.occurrences ⟨b.toArray⟩ ⟨a.toArray⟩ 0 (Str.length ⟨b.toArray⟩) 1 = [] := by
    refine PySem.W.occ_nil_of_no _ _ 1 fun i hi => ?_
    simp only [Str.length, List.size_toArray] at hi
    obtain ⟨t, ht, hn⟩ := h i hi
    unfold Builtin.Str.subAt
    rw [beq_eq_false_iff_ne]
    intro e
    refine hn ?_
    have e2 := congrArg (fun z : Array Nat => z[t]?) e
    simp only [Str.length, List.size_toArray, List.getElem?_toArray] at e2
    rw [Array.getElem?_extract] at e2
    simp only [List.size_toArray, List.getElem?_toArray] at e2
    rw [if_pos (by omega)] at e2
    exact e2
  have e' : Builtin.Str.occurrences ⟨b.toArray⟩ ⟨a.toArray⟩ 0 b.length 1 = [] := by simpa [Str.length] using e
  unfold subS
  rw [e']
  rfl
theorem sIx_nn {n d : Nat} {i : Int} (h : 0 ≤ i) : HT.sIx n d (some i) = min i.toNat n := by
  simp only [HT.sIx]
  rw [if_neg (by omega)]
theorem sIx_none {n d : Nat} : HT.sIx n d none = d := rfl
theorem cut_nn {α : Type} {xs : List α} {i j : Int} (hi : 0 ≤ i) (hj : 0 ≤ j) : cut xs (some i) (some j) = (xs.drop i.toNat).take (j.toNat - i.toNat) := by
  unfold cut
  rw [sIx_nn hi, sIx_nn hj]
  by_cases h : i.toNat ≤ xs.length
  · by_cases h2 : j.toNat ≤ xs.length
    · rw [Nat.min_eq_left h, Nat.min_eq_left h2]
    · rw [Nat.min_eq_left h, Nat.min_eq_right (by omega), List.take_of_length_le (by simp), List.take_of_length_le (by simp; omega)]
  · rw [Nat.min_eq_right (show xs.length ≤ i.toNat by omega), List.drop_of_length_le (Nat.le_refl _), List.drop_of_length_le (show xs.length ≤ i.toNat by omega)]
    simp
theorem cut_to {α : Type} {xs : List α} {j : Int} (hj : 0 ≤ j) : cut xs none (some j) = xs.take j.toNat := by
  unfold cut
  rw [sIx_nn hj, sIx_none]
  simp only [List.drop_zero, Nat.sub_zero]
  by_cases h2 : j.toNat ≤ xs.length
  · rw [Nat.min_eq_left h2]
  · rw [Nat.min_eq_right (by omega), List.take_of_length_le (Nat.le_refl _), List.take_of_length_le (by omega)]
theorem cut_from {α : Type} {xs : List α} {i : Int} (hi : 0 ≤ i) : cut xs (some i) none = xs.drop i.toNat := by
  unfold cut
  rw [sIx_nn hi, sIx_none, List.take_of_length_le (by simp)]
  by_cases h2 : i.toNat ≤ xs.length
  · rw [Nat.min_eq_left h2]
  · rw [Nat.min_eq_right (by omega), List.drop_of_length_le (Nat.le_refl _), List.drop_of_length_le (by omega)]
theorem cut_len {α : Type} {xs : List α} {a b : Option Int} : (cut xs a b).length ≤ xs.length := by
  unfold cut
  simp only [List.length_take, List.length_drop]
  omega
/-! draws, the rest of the store kept -/
section
variable {T : Nat → Option Fn} {j : Nat} {E : XQ}
theorem draw_kp {did : Nat} (hD : T did = some drawFn) {b r : Nat} {m : Int} {s : Sto} {Q : QE} (hs : Src b s r) (hb : b < 2 ^ 60) (hm : divOk m)
    (h : ∀ v s', 0 ≤ v → v < m → Kp (fun n => n = r) s s' → s'.length = s.length → Src (b + 1) s' r → Q (.int v) s') : Lv T (j + 1) did [.ref r, .int m] s Q E := by
  obtain ⟨xs, hr, _⟩ := id hs
  exact draw_ok hD hs hb hm fun v xs' h0 h1 hx => h v _ h0 h1 (Kp.set rfl) (by simp) ⟨xs', get_set hr, hx⟩
theorem src_kp {cid sid : Nat} (hT : T cid = some cellFn) (hS : T sid = some (srcFn cid)) {ns : List Int} {k : Nat} (hk : k < 1000000) {s : Sto} {Q : QE} (h : ∀ s', Kp (fun _ => False) s s' → s'.length = s.length + 1 → Src 0 s' s.length → Q (.ref s.length) s') : Lv T (j + 2) sid [.fl (ns.map .int), .int k] s Q E :=
  src_ok hT hS hk fun xs hx => h _ Kp.push (by simp) ⟨xs, get_new, hx⟩
end
theorem div_nat {n : Nat} (h0 : 0 < n) (h1 : n < 2 ^ 60) : divOk (n : Int) := div_small (by omega) (by omega)
theorem Kp.none {r : Nat → Prop} {s s' : Sto} (a : Kp (fun _ => False) s s') : Kp r s s' := a.mono fun _ _ z => z.elim
theorem Kp.get_ref {r : Nat → Prop} {s s' : Sto} (a : Kp r s s') {n : Nat} {o : Ob} (hn : ¬ r n) (h : s[n]? = some o) : s'[n]? = some o := a.get n o hn h
/-! loops by what holds before each turn -/
theorem for_ind {T : Nat → Option Fn} {k : Nat} {B : List ST} {tg : TG} {o : WK} {all : List D} {N : En} (I : List D → Sl → Sto → Prop)
    (step : ∀ x r σ s, I (x :: r) σ s → chk o all s ∧ xTg tg x σ fun σ' => xSs (Lv T k) B σ' s { nx := fun σ s => I r σ s, ct := fun σ s => I r σ s, bk := N.nx, rt := N.rt, ex := N.ex })
    (fin : ∀ σ s, I [] σ s → chk o all s ∧ N.nx σ s) : ∀ (items : List D) (σ : Sl) (s : Sto), I items σ s → forGo tg o all (fun σ s N => xSs (Lv T k) B σ s N) N items σ s
  | [], σ, s, h => fin σ s h
  | x :: r, σ, s, h => by
    obtain ⟨c, h⟩ := step x r σ s h
    refine ⟨c, xTg_mono tg (fun σ' h => xSs_mono (Lv_mono T k) B (N := { nx := fun σ s => I r σ s, ct := fun σ s => I r σ s, bk := N.nx, rt := N.rt, ex := N.ex }) ⟨fun σ s h => for_ind I step fin r σ s h, fun _ _ h => h, fun σ s h => h, fun σ s h => for_ind I step fin r σ s h, fun _ _ _ _ h => h⟩ h) h⟩
theorem lc_ind {T : Nat → Option Fn} {k : Nat} {tg : TG} {o : WK} {all : List D} {n : Nat} {ifs : List EX} {elt : EX} {own : List Nat} {σ : Sl} {K : Sto → Prop} (I : List D → Sto → Prop)
    (step : ∀ x r s, I (x :: r) s → chk o all s ∧ xTg tg x (wipeS σ own) fun σ' => xIf (Lv T k) ifs σ' s fun b s1 =>
      if b = true then xE (Lv T k) elt σ' s1 (fun y s2 => ∃ acc, s2[n]? = some (.lst acc) ∧ acc.length < sizeLine ∧ I r (s2.set n (.lst (acc ++ [y])))) (fun _ _ _ => False) else I r s1)
    (fin : ∀ s, I [] s → chk o all s ∧ K s) : ∀ (items : List D) (s : Sto), I items s → lcGo tg o all n (fun σ' s' K => xIf (Lv T k) ifs σ' s' K) (fun σ' s' K => xE (Lv T k) elt σ' s' K (fun _ _ _ => False)) own σ items s K
  | [], s, h => fin s h
  | x :: r, s, h => by
    obtain ⟨c, h⟩ := step x r s h
    refine ⟨c, xTg_mono tg (fun σ' h => xIf_mono (Lv_mono T k) ifs (fun b s1 h => ?_) h) h⟩
    cases b with
    | true =>
      refine xE_mono (Lv_mono T k) elt (fun y s2 h => ?_) (fun _ _ _ h => h) h
      obtain ⟨acc, h1, h2, h3⟩ := h
      show (match s2[n]? with
        | some (.lst acc) => _
        | _ => False)
      rw [h1]
      exact ⟨h2, lc_ind I step fin r _ h3⟩
    | false => exact lc_ind I step fin r s1 h
/-! the same, the turn's ends abstract -/
structure En.Is (N' : En) (F : Sl → Sto → Prop) (N : En) : Prop where
  nx : ∀ σ s, F σ s → N'.nx σ s
  ct : ∀ σ s, F σ s → N'.ct σ s
  bk : ∀ σ s, N.nx σ s → N'.bk σ s
  rt : ∀ d s, N.rt d s → N'.rt d s
  ex : ∀ c fs σ s, N.ex c fs σ s → N'.ex c fs σ s
def Dn (W : Nat → Sl → Sto → Prop) (m : Nat) (σ : Sl) (s : Sto) : Prop := ∃ m', m' < m ∧ W m' σ s
theorem whl_of {c : SE} {b : SS} {N : En} {σ : Sl} {s : Sto} (W : Nat → Sl → Sto → Prop) (m : Nat) (h0 : W m σ s)
    (step : ∀ m σ s (N' : En), W m σ s → N'.Is (Dn W m) N → c σ s (fun d s1 => br (tru s1 d) (b σ s1 N') (N.nx σ s1)) (fun e fs s1 => N.ex e fs σ s1)) : whlGo c b N σ s :=
  ⟨W, ⟨m, h0⟩, fun m σ s h => step m σ s _ h ⟨fun _ _ h => h, fun _ _ h => h, fun _ _ h => h, fun _ _ h => h, fun _ _ _ _ h => h⟩⟩
theorem for_inv {T : Nat → Option Fn} {k : Nat} {B : List ST} {tg : TG} {o : WK} {all : List D} {N : En} {items : List D} {σ : Sl} {s : Sto} (I : List D → Sl → Sto → Prop) (h0 : I items σ s)
    (step : ∀ x r σ s (N' : En), I (x :: r) σ s → N'.Is (I r) N → chk o all s ∧ xTg tg x σ fun σ' => xSs (Lv T k) B σ' s N')
    (fin : ∀ σ s, I [] σ s → chk o all s ∧ N.nx σ s) : forGo tg o all (fun σ s N => xSs (Lv T k) B σ s N) N items σ s :=
  for_ind I (fun x r σ s h => step x r σ s _ h ⟨fun _ _ h => h, fun _ _ h => h, fun _ _ h => h, fun _ _ h => h, fun _ _ _ _ h => h⟩) fin items σ s h0
/-- an if, the condition by itself -/
theorem ss_ite {T : Nat → Option Fn} {k : Nat} {c : EX} {a b r : List ST} {σ : Sl} {s : Sto} {N : En} (P : Bool → Sto → Prop)
    (hc : xE (Lv T k) c σ s (fun x s1 => br (tru s1 x) (P true s1) (P false s1)) (fun e fs s1 => N.ex e fs σ s1))
    (ht : ∀ s1, P true s1 → xSs (Lv T k) a σ s1 { N with nx := fun σ s => xSs (Lv T k) r σ s N })
    (hf : ∀ s1, P false s1 → xSs (Lv T k) b σ s1 { N with nx := fun σ s => xSs (Lv T k) r σ s N }) : xSs (Lv T k) (.ite c a b :: r) σ s N := by
  show xE (Lv T k) c σ s _ _
  exact xE_mono (Lv_mono T k) c (fun x s1 h => br_mono h (ht s1) (hf s1)) (fun _ _ _ h => h) hc
section
variable {T : Nat → Option Fn} {j : Nat} {E : XQ}
/-- one of the items of a new list, by a draw -/
theorem pick_ok {did : Nat} (hD : T did = some drawFn) {b r : Nat} {xs : List D} {m : Int} {s : Sto} {Q : QE} (hs : Src b s r) (hb : b < 2 ^ 60) (hm : m = xs.length) (h0 : 0 < xs.length) (h1 : xs.length < 1000000)
    (h : ∀ v s', v ∈ xs → Kp (fun n => n = r) s s' → s.length < s'.length → Src (b + 1) s' r → Q v s') : Lv T (j + 1) did [.ref r, .int m] (s ++ [.lst xs]) (fun y s2 => xIx (.ref s.length) y s2 Q) E := by
  subst hm
  have hr : r < s.length := by
    obtain ⟨_, e, _⟩ := hs
    exact lt_of_get e
  refine draw_kp hD (hs.kp (R := fun _ => False) Kp.push (fun z => z)) hb (div_nat h0 (by omega)) fun v s' v0 v1 k l hs' => ?_
  refine ix_any (k.get _ _ (by omega) get_new) v0 v1 fun w hw => h w s' hw ((Kp.push (t := [.lst xs])).trans k) ?_ hs'
  simp at l
  omega
/-- a sign of a text, by a draw -/
theorem sign_ok {did : Nat} (hD : T did = some drawFn) {b r : Nat} {xs : List Nat} {m : Int} {s : Sto} {Q : QE} (hs : Src b s r) (hb : b < 2 ^ 60) (hm : m = xs.length) (h0 : 0 < xs.length) (h1 : xs.length < 1000000)
    (h : ∀ c s', c ∈ xs → Kp (fun n => n = r) s s' → Src (b + 1) s' r → Q (.str [c]) s') : Lv T (j + 1) did [.ref r, .int m] s (fun y s2 => xIx (.str xs) y s2 Q) E := by
  subst hm
  refine draw_kp hD hs hb (div_nat h0 (by omega)) fun v s' v0 v1 k l hs' => ?_
  obtain ⟨c, e, hc⟩ := atI_in v0 v1
  exact ix_str e (h c s' hc k hs')
end
theorem Src.lt {b : Nat} {s : Sto} {r : Nat} (h : Src b s r) : r < s.length := by
  obtain ⟨_, e, _⟩ := h
  exact lt_of_get e
theorem Src.push {b : Nat} {s : Sto} {r : Nat} {t : Sto} (h : Src b s r) : Src b (s ++ t) r := h.kp (R := fun _ => False) Kp.push (fun z => z)
theorem strI_len {i : Int} (h0 : 0 ≤ i) (h : i < 10 ^ 10) : (strI i).length ≤ 10 ∧ strI i ≠ [] := by
  have e : strI i = (toString i).toList.map Char.toNat := PyProof.Rows.signs_ofString (toString i)
  constructor
  · have := PyProof.Rows.toString_length_le h0 (k := 10) (by decide) h
    show (Str.ofString (toString i)).cps.toList.length ≤ 10
    rw [Array.length_toList]
    exact this
  · obtain ⟨n, rfl⟩ := Int.eq_ofNat_of_zero_le h0
    rw [e]
    show (n.repr).toList.map Char.toNat ≠ []
    rw [Nat.toList_repr]
    exact fun z => Nat.toDigits_ne_nil (List.map_eq_nil_iff.mp z)
theorem dv (n : Nat) (h : 0 < n ∧ n < 1000000 := by decide) : divOk (n : Int) := div_nat h.1 (by omega)
def strB (lo hi : Nat) : D → Bool
  | .str a => decide (lo ≤ a.length) && decide (a.length ≤ hi)
  | _ => false
theorem strB_of {lo hi : Nat} {x : D} {xs : List D} (hx : x ∈ xs) (h : xs.all (strB lo hi) = true) : ∃ a, x = .str a ∧ lo ≤ a.length ∧ a.length ≤ hi := by
  have := List.all_eq_true.mp h x hx
  cases x with
  | str a =>
    simp only [strB, Bool.and_eq_true, decide_eq_true_eq] at this
    exact ⟨a, rfl, this.1, this.2⟩
  | _ => simp [strB] at this
theorem size24 : sizeLine = 16777216 := rfl
end PX

/-! PX: a deeper level does what a level does. -/
namespace PX
open PySem
section
variable {G G' : FS} (hG : G.Mono) (hG' : G'.Mono) (up : ∀ f vs s Q E, G f vs s Q E → G' f vs s Q E)
include hG hG' up
mutual
theorem xE_G : ∀ (e : EX) {σ : Sl} {s : Sto} {Q : QE} {E : XQ}, xE G e σ s Q E → xE G' e σ s Q E
  | .lit d, _, _, _, _, h => h
  | .var i, _, _, _, _, h => h
  | .bin op a b, _, _, _, _, h => by
    simp only [xE] at h ⊢
    exact xE_G a (xE_mono hG a (fun x s1 h => xE_G b h) (fun _ _ _ h => h) h)
  | .neg a, _, _, _, _, h => by
    simp only [xE] at h ⊢
    exact xE_G a h
  | .cmp op a b, _, _, _, _, h => by
    simp only [xE] at h ⊢
    exact xE_G a (xE_mono hG a (fun x s1 h => xE_G b h) (fun _ _ _ h => h) h)
  | .chn op op' a b c, _, _, _, _, h => by
    simp only [xE] at h ⊢
    exact xE_G a (xE_mono hG a (fun x s1 h => xE_G b (xE_mono hG b (fun y s2 h => br_mono h (fun h => xE_G c h) (fun h => h)) (fun _ _ _ h => h) h)) (fun _ _ _ h => h) h)
  | .and a b, _, _, _, _, h => by
    simp only [xE] at h ⊢
    exact xE_G a (xE_mono hG a (fun x s1 h => br_mono h (fun h => xE_G b h) (fun h => h)) (fun _ _ _ h => h) h)
  | .or a b, _, _, _, _, h => by
    simp only [xE] at h ⊢
    exact xE_G a (xE_mono hG a (fun x s1 h => br_mono h (fun h => h) (fun h => xE_G b h)) (fun _ _ _ h => h) h)
  | .not a, _, _, _, _, h => by
    simp only [xE] at h ⊢
    exact xE_G a h
  | .ite c a b, _, _, _, _, h => by
    simp only [xE] at h ⊢
    exact xE_G c (xE_mono hG c (fun x s1 h => br_mono h (fun h => xE_G a h) (fun h => xE_G b h)) (fun _ _ _ h => h) h)
  | .tup es, _, _, _, _, h => by
    simp only [xE] at h ⊢
    exact xEs_G es h
  | .lst es, _, _, _, _, h => by
    simp only [xE] at h ⊢
    exact xEs_G es h
  | .dct es, _, _, _, _, h => by
    simp only [xE] at h ⊢
    exact xEs_G es h
  | .ix a b, _, _, _, _, h => by
    simp only [xE] at h ⊢
    exact xE_G a (xE_mono hG a (fun x s1 h => xE_G b h) (fun _ _ _ h => h) h)
  | .sl a l u, _, _, _, _, h => by
    simp only [xE] at h ⊢
    exact xE_G a (xE_mono hG a (fun x s1 h => xE_G l (xE_mono hG l (fun y s2 h => ⟨h.1, xE_G u h.2⟩) (fun _ _ _ h => h) h)) (fun _ _ _ h => h) h)
  | .call f es, _, _, _, _, h => by
    simp only [xE] at h ⊢
    exact xEs_G es (xEs_mono hG es (fun vs s1 h => up _ _ _ _ _ h) (fun _ _ _ h => h) h)
  | .blt f es, _, _, _, _, h => by
    simp only [xE] at h ⊢
    exact xEs_G es h
  | .meth m o es, _, _, _, _, h => by
    simp only [xE] at h ⊢
    exact xE_G o (xE_mono hG o (fun x s1 h => ⟨h.1, xEs_G es h.2⟩) (fun _ _ _ h => h) h)
  | .lc own tg ik its ifs elt, _, _, _, _, h => by
    simp only [xE] at h ⊢
    exact xEs_G its (xEs_mono hG its (fun vs s1 h => xIt_mono ik vs (fun l o h => lcGo_mono (t := fun σ' s' K => xIf G ifs σ' s' K) (f := fun σ' s' K => xE G elt σ' s' K (fun _ _ _ => False)) (fun σ s K K' hK h => xIf_G ifs (xIf_mono hG ifs hK h)) (fun σ s Q Q' hQ h => xE_G elt (xE_mono hG elt hQ (fun _ _ _ h => h) h)) _ _ (fun s h => h) h) h) (fun _ _ _ h => h) h)
  | .dc own tg ik its ifs k v, _, _, _, _, h => by
    simp only [xE] at h ⊢
    exact xEs_G its (xEs_mono hG its (fun vs s1 h => xIt_mono ik vs (fun l o h => dcGo_mono (t := fun σ' s' K => xIf G ifs σ' s' K) (f := fun σ' s' K => xE G k σ' s' K (fun _ _ _ => False)) (g := fun σ' s' K => xE G v σ' s' K (fun _ _ _ => False)) (fun σ s K K' hK h => xIf_G ifs (xIf_mono hG ifs hK h)) (fun σ s Q Q' hQ h => xE_G k (xE_mono hG k hQ (fun _ _ _ h => h) h)) (fun σ s Q Q' hQ h => xE_G v (xE_mono hG v hQ (fun _ _ _ h => h) h)) _ _ (fun s h => h) h) h) (fun _ _ _ h => h) h)
  | .fld o f, _, _, _, _, h => by
    simp only [xE] at h ⊢
    exact xE_G o h
  | .mcall m cs o es, _, _, _, _, h => by
    simp only [xE] at h ⊢
    exact xE_G o (xE_mono hG o (fun x s1 h => xMc_mono x m cs (fun c h => xEs_G es (xEs_mono hG es (fun vs s1 h => up _ _ _ _ _ h) (fun _ _ _ h => h) h)) h) (fun _ _ _ h => h) h)
  | .rvs a, _, _, _, _, h => by
    simp only [xE] at h ⊢
    exact xE_G a h
theorem xEs_G : ∀ (es : List EX) {σ : Sl} {s : Sto} {Q : List D → Sto → Prop} {E : XQ}, xEs G es σ s Q E → xEs G' es σ s Q E
  | [], _, _, _, _, h => h
  | e :: es, _, _, _, _, h => by
    simp only [xEs] at h ⊢
    exact xE_G e (xE_mono hG e (fun x s1 h => xEs_G es h) (fun _ _ _ h => h) h)
theorem xIf_G : ∀ (es : List EX) {σ : Sl} {s : Sto} {K : Bool → Sto → Prop}, xIf G es σ s K → xIf G' es σ s K
  | [], _, _, _, h => h
  | e :: es, _, _, _, h => by
    simp only [xIf] at h ⊢
    exact xE_G e (xE_mono hG e (fun x s1 h => br_mono h (fun h => xIf_G es h) (fun h => h)) (fun _ _ _ h => h) h)
end
mutual
theorem xS_G : ∀ (st : ST) {σ : Sl} {s : Sto} {N : En}, xS G st σ s N → xS G' st σ s N
  | .expr e, _, _, _, h => by
    simp only [xS] at h ⊢
    exact xE_G hG hG' up e h
  | .asg tg e, _, _, _, h => by
    simp only [xS] at h ⊢
    exact xE_G hG hG' up e h
  | .aset o i e, _, _, _, h => by
    simp only [xS] at h ⊢
    exact xE_G hG hG' up e (xE_mono hG e (fun v s1 h => xE_G hG hG' up o (xE_mono hG o (fun x s2 h => xE_G hG hG' up i h) (fun _ _ _ h => h) h)) (fun _ _ _ h => h) h)
  | .aug i op e, _, _, _, h => by
    simp only [xS] at h ⊢
    split at h
    · exact xE_G hG hG' up e h
    · exact h
  | .ite c a b, _, _, _, h => by
    simp only [xS] at h ⊢
    exact xE_G hG hG' up c (xE_mono hG c (fun x s1 h => br_mono h (fun h => xSs_G a h) (fun h => xSs_G b h)) (fun _ _ _ h => h) h)
  | .whl c b, σ, s, N, h => by
    simp only [xS] at h ⊢
    exact whlGo_mono (c := fun σ s Q E => xE G c σ s Q E) (b := fun σ s N => xSs G b σ s N) (fun σ s Q Q' E E' hQ hE h => xE_G hG hG' up c (xE_mono hG c hQ hE h)) (fun σ s N N' hN h => xSs_G b (xSs_mono hG b hN h)) ⟨fun _ _ h => h, fun _ _ h => h, fun _ _ h => h, fun _ _ h => h, fun _ _ _ _ h => h⟩ h
  | .for_ tg ik its b, _, _, _, h => by
    simp only [xS] at h ⊢
    exact xEs_G hG hG' up its (xEs_mono hG its (fun vs s1 h => xIt_mono ik vs (fun l o h => forGo_mono (b := fun σ s N => xSs G b σ s N) (fun σ s N N' hN h => xSs_G b (xSs_mono hG b hN h)) ⟨fun _ _ h => h, fun _ _ h => h, fun _ _ h => h, fun _ _ h => h, fun _ _ _ _ h => h⟩ _ _ _ h) h) (fun _ _ _ h => h) h)
  | .ret e, _, _, _, h => by
    simp only [xS] at h ⊢
    exact xE_G hG hG' up e h
  | .brk, _, _, _, h => h
  | .cnt, _, _, _, h => h
  | .pass, _, _, _, h => h
  | .fset o f e, _, _, _, h => by
    simp only [xS] at h ⊢
    exact xE_G hG hG' up e (xE_mono hG e (fun v s1 h => xE_G hG hG' up o h) (fun _ _ _ h => h) h)
  | .faug o f op e, _, _, _, h => by
    simp only [xS] at h ⊢
    exact xE_G hG hG' up o (xE_mono hG o (fun x s1 h => xFa1_mono x f (fun n c v h => xE_G hG hG' up e h) h) (fun _ _ _ h => h) h)
  | .forK tg i b, _, _, _, h => by
    simp only [xS] at h ⊢
    exact xFk_mono _ i (fun n kvs h => forGo_mono (b := fun σ s N => xSs G b σ s N) (fun σ s N N' hN h => xSs_G b (xSs_mono hG b hN h)) ⟨fun _ _ h => h, fun _ _ h => h, fun _ _ h => h, fun _ _ h => h, fun _ _ _ _ h => h⟩ _ _ _ h) h
  | .ctor c i, _, _, _, h => by
    simp only [xS] at h ⊢
    split at h
    · exact up _ _ _ _ _ h
    · exact h
theorem xSs_G : ∀ (b : List ST) {σ : Sl} {s : Sto} {N : En}, xSs G b σ s N → xSs G' b σ s N
  | [], _, _, _, h => h
  | st :: r, _, _, N, h => by
    simp only [xSs] at h ⊢
    exact xS_G st (xS_mono hG st (N := { N with nx := fun σ s => xSs G r σ s N }) (N' := { N with nx := fun σ s => xSs G' r σ s N }) ⟨fun σ s h => xSs_G r h, fun _ _ h => h, fun _ _ h => h, fun _ _ h => h, fun _ _ _ _ h => h⟩ h)
end
end
theorem Lv_up (T : Nat → Option Fn) : ∀ (k f : Nat) (vs : List D) (s : Sto) (Q : QE) (E : XQ), Lv T k f vs s Q E → Lv T (k + 1) f vs s Q E
  | 0, _, _, _, _, _, h => h.elim
  | k + 1, f, vs, s, Q, E, h => by
    rw [Lv] at h ⊢
    cases e : T f with
    | none => rw [e] at h; exact h.elim
    | some fn =>
      rw [e] at h ⊢
      exact ⟨h.1, xSs_G (Lv_mono T k) (Lv_mono T (k + 1)) (Lv_up T k) _ h.2⟩
theorem Lv_le {T : Nat → Option Fn} {k : Nat} : ∀ {m : Nat}, k ≤ m → ∀ {f : Nat} {vs : List D} {s : Sto} {Q : QE} {E : XQ}, Lv T k f vs s Q E → Lv T m f vs s Q E
  | 0, hk, f, vs, s, Q, E, h => by
    have : k = 0 := by omega
    subst this
    exact h
  | m + 1, hk, f, vs, s, Q, E, h => by
    by_cases e : k = m + 1
    · subst e; exact h
    · exact Lv_up T m _ _ _ _ _ (Lv_le (by omega) h)
end PX

/-! PX: lemmas for use: objects, dicts, what is walked. -/
namespace PX
open PySem
/-! fields -/
theorem fld_ref {s : Sto} {n c f : Nat} {fs : List (Nat × D)} {v : D} {Q : QE} (hs : s[n]? = some (.ins c fs)) (hv : fGet fs f = some v) (h : Q v s) : xFld (.ref n) f s Q := by
  simp only [xFld, insOf, hs, hv]
  exact h
theorem fset_ref {s : Sto} {n c f : Nat} {fs : List (Nat × D)} {v : D} {K : Sto → Prop} (hs : s[n]? = some (.ins c fs)) (hl : fs.length < 1000) (h : K (s.set n (.ins c (fPut fs f v)))) : xFset (.ref n) f v s K := by
  simp only [xFset, insOf, hs]
  exact ⟨hl, h⟩
theorem fa1_ref {s : Sto} {n c f : Nat} {fs : List (Nat × D)} {v : D} {K : Nat → Nat → D → Prop} (hs : s[n]? = some (.ins c fs)) (hv : fGet fs f = some v) (h : K n c v) : xFa1 (.ref n) f s K := by
  simp only [xFa1, insOf, hs, hv]
  exact h
theorem fa2_add {s : Sto} {n c f : Nat} {fs : List (Nat × D)} {i j : Int} {K : Sto → Prop} (hs : s[n]? = some (.ins c fs)) (hl : fs.length < 1000) (h : K (s.set n (.ins c (fPut fs f (.int (i + j)))))) : xFa2 .Add n c f (.int i) (.int j) s K := by
  simp only [xFa2, hs]
  exact ⟨trivial, hl, h⟩
theorem fa2_sub {s : Sto} {n c f : Nat} {fs : List (Nat × D)} {i j : Int} {K : Sto → Prop} (hs : s[n]? = some (.ins c fs)) (hl : fs.length < 1000) (h : K (s.set n (.ins c (fPut fs f (.int (i - j)))))) : xFa2 .Sub n c f (.int i) (.int j) s K := by
  simp only [xFa2, hs]
  exact ⟨trivial, hl, h⟩
theorem mc_ref {s : Sto} {n c m : Nat} {fs : List (Nat × D)} {cs : List Nat} {K : Nat → Prop} (hs : s[n]? = some (.ins c fs)) (hn : fGet fs m = none) (hc : c ∈ cs) (h : K c) : xMc s (.ref n) m cs K := by
  simp only [xMc, clsM, insOf, hs, hn]
  exact ⟨hc, h⟩
theorem fk_slot {σ : Sl} {i n : Nat} {s : Sto} {kvs : List (D × D)} {K : Nat → List (D × D) → Prop} (hi : σ[i]? = some (some (.ref n))) (hs : s[n]? = some (.dic kvs)) (h : K n kvs) : xFk σ i s K := by
  simp only [xFk, hi, hs]
  exact h
/-- a class is made: its __init__ runs -/
theorem new_ok {T : Nat → Option Fn} {k id c i ar : Nat} {vs : List D} {s : Sto} {Q : QE} {E : XQ} (hT : T id = some ⟨ar, ar, [.ctor c i]⟩) (hl : vs.length = ar) (h : Lv T k i (.ref s.length :: vs) (s ++ [.ins c []]) (fun v s' => v = .non ∧ Q (.ref s.length) s') E) : Lv T (k + 1) id vs s Q E := by
  simp only [Lv, hT]
  refine ⟨hl, ?_⟩
  simp only [Nat.sub_self, List.replicate_zero, List.append_nil, xSs, xS, slotVs_map]
  exact h
/-! dicts -/
theorem dic_ref {s : Sto} {n : Nat} {kvs : List (D × D)} (hs : s[n]? = some (.dic kvs)) : dicOf s (.ref n) = some kvs := by
  simp only [dicOf, hs]
theorem ix_dic {s : Sto} {n : Nat} {kvs : List (D × D)} {y v : D} {Q : QE} (hs : dicOf s (.ref n) = some kvs) (hk : keyOk y = true) (hv : dGet kvs y = some v) (h : Q v s) : xIx (.ref n) y s Q := by
  simp only [xIx, hs, hv]
  refine ⟨?_, h⟩
  cases y <;> first | exact hk | cases hk
theorem in_dic {s : Sto} {n : Nat} {kvs : List (D × D)} {y : D} (hs : dicOf s (.ref n) = some kvs) (hk : keyOk y = true) : cmpD s .In y (.ref n) = some (dGet kvs y).isSome := by
  show inD s y (.ref n) = _
  unfold inD
  rw [hs]
  have : kOk (.ref n) y = true := by cases y <;> first | exact hk | cases hk
  simp only [this, if_true]
theorem nin_dic {s : Sto} {n : Nat} {kvs : List (D × D)} {y : D} (hs : dicOf s (.ref n) = some kvs) (hk : keyOk y = true) : cmpD s .NotIn y (.ref n) = some (!(dGet kvs y).isSome) := by
  show (inD s y (.ref n)).map _ = _
  have := in_dic hs hk
  rw [show inD s y (.ref n) = some (dGet kvs y).isSome from this]
  rfl
theorem dset_ref {s : Sto} {n : Nat} {kvs : List (D × D)} {y v : D} {K : Sto → Prop} (hs : s[n]? = some (.dic kvs)) (hk : keyOk y = true) (hl : kvs.length < sizeLine) (h : K (s.set n (.dic (dPut kvs y v)))) : xAset (.ref n) y v s K := by
  simp only [xAset, hs]
  exact ⟨hk, hl, h⟩
/-! walks -/
theorem it_enum {s : Sto} {n : Nat} {xs : List D} {K : List D → WK → Prop} (hs : s[n]? = some (.lst xs)) (h : K (enumL 0 xs) (.enu 0 n)) : xIt .enum [.ref n] s K := by
  simp only [xIt, hs]
  exact h
theorem min1_ref {s : Sto} {n : Nat} {ns : List Int} {Q : QE} (hs : s[n]? = some (.lst (ns.map .int))) (h0 : 0 < ns.length) (h : ∀ m, m ∈ ns → (∀ i ∈ ns, m ≤ i) → Q (.int m) s) : xBlt .min1 [.ref n] s Q := by
  have e : intsOf (ns.map .int) = some ns := by
    clear h h0 hs
    induction ns with
    | nil => rfl
    | cons a r ih => simp only [List.map_cons, intsOf, ih]; rfl
  simp only [xBlt, bMin1, hs, e]
  exact ⟨h0, h⟩
theorem lst_ref {s : Sto} {n : Nat} {xs : List D} {Q : QE} (hs : s[n]? = some (.lst xs)) (h : Q (.ref s.length) (s ++ [.lst xs])) : xBlt .list [.ref n] s Q := by
  simp only [xBlt, bLst, seqOf, hs]
  exact h
theorem mul_ref {s : Sto} {m : Nat} {a : List D} {j : Int} {Q : QE} (ha : s[m]? = some (.lst a)) (h1 : -(2 ^ 63) ≤ j) (h2 : j < 2 ^ 63) (hl : a.length * j.toNat ≤ sizeLine) (h : Q (.ref s.length) (s ++ [.lst (List.replicate j.toNat a).flatten])) : xBin .Mult (.ref m) (.int j) s Q := by
  simp only [xBin, ha]
  exact ⟨⟨h1, h2, hl⟩, h⟩
/-! items of written tuples -/
theorem x0 {a : D} {l : List D} {s : Sto} {Q : QE} : xIx (.tup (a :: l)) (.int 0) s Q = Q a s := by simp only [xIx, dicOf, xIs, seqOf, atI_z]
theorem x1 {a b : D} {l : List D} {s : Sto} {Q : QE} : xIx (.tup (a :: b :: l)) (.int 1) s Q = Q b s := by simp only [xIx, dicOf, xIs, seqOf, atI_o]
theorem x2 {a b c : D} {l : List D} {s : Sto} {Q : QE} : xIx (.tup (a :: b :: c :: l)) (.int 2) s Q = Q c s := by simp only [xIx, dicOf, xIs, seqOf, atI_t]
theorem x3 {a b c d : D} {l : List D} {s : Sto} {Q : QE} : xIx (.tup (a :: b :: c :: d :: l)) (.int 3) s Q = Q d s := by simp only [xIx, dicOf, xIs, seqOf, atI_3]
/-! for over a list that may be told by what it holds at each turn -/
theorem get_ne {s : Sto} {n m : Nat} {o o' : Ob} (h : s[n]? = some o) (hne : n ≠ m) : (s.set m o')[n]? = some o := by rw [List.getElem?_set_ne (Ne.symm hne)]; exact h
theorem ref_ne {s : Sto} {n m : Nat} {o o' : Ob} (h : s[n]? = some o) (h' : s[m]? = some o') (hne : o ≠ o') : n ≠ m := by
  rintro rfl
  rw [h] at h'
  exact hne (Option.some.inj h')
/-! loops told by the number of turns -/
theorem for_at {T : Nat → Option Fn} {k : Nat} {B : List ST} {tg : TG} {o : WK} {all : List D} {N : En} {σ : Sl} {s : Sto} (I : Nat → Sl → Sto → Prop) (h0 : I 0 σ s)
    (step : ∀ i x σ s (N' : En), all[i]? = some x → I i σ s → N'.Is (I (i + 1)) N → chk o all s ∧ xTg tg x σ fun σ' => xSs (Lv T k) B σ' s N')
    (fin : ∀ σ s, I all.length σ s → chk o all s ∧ N.nx σ s) : forGo tg o all (fun σ s N => xSs (Lv T k) B σ s N) N all σ s := by
  refine for_inv (I := fun r σ s => ∃ i, r = all.drop i ∧ i ≤ all.length ∧ I i σ s) ⟨0, rfl, Nat.zero_le _, h0⟩ ?_ ?_
  · rintro x r σ s N' ⟨i, e, hi, h⟩ hN
    have hx : all[i]? = some x := by
      have : (all.drop i)[0]? = some x := by rw [← e]; rfl
      rwa [List.getElem?_drop] at this
    have hlt : i < all.length := (List.getElem?_eq_some_iff.mp hx).1
    have hr : r = all.drop (i + 1) := by
      have : (x :: r).drop 1 = (all.drop i).drop 1 := by rw [e]
      rw [List.drop_drop] at this
      exact this
    exact step i x σ s N' hx h ⟨fun σ s q => hN.nx σ s ⟨i + 1, hr, hlt, q⟩, fun σ s q => hN.ct σ s ⟨i + 1, hr, hlt, q⟩, hN.bk, hN.rt, hN.ex⟩
  · rintro σ s ⟨i, e, hi, h⟩
    have : i = all.length := by
      have := congrArg List.length e
      simp only [List.length_nil, List.length_drop] at this
      omega
    subst this
    exact fin σ s h
theorem lc_at {T : Nat → Option Fn} {k : Nat} {tg : TG} {o : WK} {all : List D} {n : Nat} {ifs : List EX} {elt : EX} {own : List Nat} {σ : Sl} {s : Sto} {K : Sto → Prop} (I : Nat → List D → Sto → Prop) (hI : ∀ i acc s, I i acc s → s[n]? = some (.lst acc)) (h0 : I 0 [] s)
    (step : ∀ i x acc s, all[i]? = some x → I i acc s → chk o all s ∧ xTg tg x (wipeS σ own) fun σ' => xIf (Lv T k) ifs σ' s fun b s1 =>
      if b = true then xE (Lv T k) elt σ' s1 (fun y s2 => s2[n]? = some (.lst acc) ∧ acc.length < sizeLine ∧ I (i + 1) (acc ++ [y]) (s2.set n (.lst (acc ++ [y])))) (fun _ _ _ => False) else I (i + 1) acc s1)
    (fin : ∀ acc s, I all.length acc s → chk o all s ∧ K s) : lcGo tg o all n (fun σ' s' K => xIf (Lv T k) ifs σ' s' K) (fun σ' s' K => xE (Lv T k) elt σ' s' K (fun _ _ _ => False)) own σ all s K := by
  refine lc_ind (I := fun r s => ∃ i acc, r = all.drop i ∧ i ≤ all.length ∧ I i acc s) ?_ ?_ _ _ ⟨0, [], rfl, Nat.zero_le _, h0⟩
  · rintro x r s ⟨i, acc, e, hi, h⟩
    have hx : all[i]? = some x := by
      have : (all.drop i)[0]? = some x := by rw [← e]; rfl
      rwa [List.getElem?_drop] at this
    have hlt : i < all.length := (List.getElem?_eq_some_iff.mp hx).1
    have hr : r = all.drop (i + 1) := by
      have : (x :: r).drop 1 = (all.drop i).drop 1 := by rw [e]
      rw [List.drop_drop] at this
      exact this
    obtain ⟨c, q⟩ := step i x acc s hx h
    refine ⟨c, xTg_mono tg (fun σ' q => xIf_mono (Lv_mono T k) ifs (fun b s1 q => ?_) q) q⟩
    cases b with
    | true =>
      rw [if_pos rfl] at q ⊢
      exact xE_mono (Lv_mono T k) elt (fun y s2 q => ⟨acc, q.1, q.2.1, i + 1, acc ++ [y], hr, hlt, q.2.2⟩) (fun _ _ _ h => h) q
    | false =>
      rw [if_neg (by decide)] at q ⊢
      exact ⟨i + 1, acc, hr, hlt, q⟩
  · rintro s ⟨i, acc, e, hi, h⟩
    have : i = all.length := by
      have := congrArg List.length e
      simp only [List.length_nil, List.length_drop] at this
      omega
    subst this
    exact fin acc s h
/-- [elt for x in all], elt without an effect -/
theorem lc_map {T : Nat → Option Fn} {k : Nat} {tg : TG} {o : WK} {all : List D} {elt : EX} {own : List Nat} {σ : Sl} {s : Sto} {K : Sto → Prop} (f : Nat → D → D) (hl : all.length < sizeLine) (ho : ∀ s', Kp (fun p => p = s.length) s s' → chk o all s')
    (step : ∀ i x s1 (Q : QE), all[i]? = some x → Kp (fun p => p = s.length) s s1 → (∀ s2, Kp (fun _ => False) s1 s2 → Q (f i x) s2) → xTg tg x (wipeS σ own) fun σ' => xE (Lv T k) elt σ' s1 Q (fun _ _ _ => False))
    (fin : ∀ s', Kp (fun p => p = s.length) s s' → s'[s.length]? = some (.lst (all.mapIdx f)) → K s') : lcGo tg o all s.length (fun σ' s' K => xIf (Lv T k) [] σ' s' K) (fun σ' s' K => xE (Lv T k) elt σ' s' K (fun _ _ _ => False)) own σ all (s ++ [.lst []]) K := by
  refine lc_at (I := fun i acc s' => i ≤ all.length ∧ s'[s.length]? = some (.lst acc) ∧ acc = (all.take i).mapIdx f ∧ Kp (fun p => p = s.length) s s') (fun i acc s h => h.2.1) ⟨Nat.zero_le _, get_new, rfl, Kp.push⟩ ?_ ?_
  · rintro i x acc s1 hx ⟨hi, h1, h2, h3⟩
    have hlt : i < all.length := (List.getElem?_eq_some_iff.mp hx).1
    refine ⟨ho s1 h3, ?_⟩
    have := step i x s1 (fun y s2 => s2[s.length]? = some (.lst acc) ∧ acc.length < sizeLine ∧ (i + 1 ≤ all.length ∧ (s2.set s.length (.lst (acc ++ [y])))[s.length]? = some (.lst (acc ++ [y])) ∧ acc ++ [y] = (all.take (i + 1)).mapIdx f ∧ Kp (fun p => p = s.length) s (s2.set s.length (.lst (acc ++ [y]))))) hx h3 (fun s2 k2 => ?_)
    · refine xTg_mono tg (fun σ' q => ?_) this
      simp only [xIf, if_true]
      exact q
    · have g2 := k2.get _ _ (fun z => z) h1
      have la : acc.length = i := by rw [h2]; simp; omega
      refine ⟨g2, by omega, hlt, get_set g2, ?_, (h3.trans k2.none).trans (Kp.set rfl)⟩
      rw [List.take_add_one, hx, List.mapIdx_append, h2]
      simp only [Option.toList_some, List.mapIdx_cons, List.mapIdx_nil, List.length_take]
      congr 2
      rw [Nat.min_eq_left hi, Nat.zero_add]
  · rintro acc s' ⟨_, h1, h2, h3⟩
    refine ⟨ho s' h3, fin s' h3 ?_⟩
    rw [h1, h2, List.take_length]
/-! stores with a written end -/
theorem set_new {s r : Sto} {o o' : Ob} : (s ++ o :: r).set s.length o' = s ++ o' :: r := by
  have := List.set_append (s := s) (t := o :: r) (i := s.length) (x := o')
  rw [if_neg (Nat.lt_irrefl _), Nat.sub_self] at this
  exact this
theorem get_off {s l : Sto} {k : Nat} : (s ++ l)[s.length + k]? = l[k]? := by
  rw [List.getElem?_append_right (by omega), Nat.add_sub_cancel_left]
theorem set_off {s l : Sto} {k : Nat} {o : Ob} : (s ++ l).set (s.length + k) o = s ++ l.set k o := by
  have := List.set_append (s := s) (t := l) (i := s.length + k) (x := o)
  rw [if_neg (by omega), Nat.add_sub_cancel_left] at this
  exact this
theorem len_off {s l : Sto} : (s ++ l).length = s.length + l.length := List.length_append
theorem Kp.app {s l : Sto} {r : Nat → Prop} : Kp r s (s ++ l) := Kp.push
theorem set_old {s l : Sto} {n : Nat} {o o' : Ob} (h : s[n]? = some o) : (s ++ l).set n o' = s.set n o' ++ l := by
  have := List.set_append (s := s) (t := l) (i := n) (x := o')
  rw [if_pos (lt_of_get h)] at this
  exact this
/-- [.. for x in all if ..], no test holds -/
theorem lc_none {T : Nat → Option Fn} {k : Nat} {tg : TG} {o : WK} {all : List D} {ifs : List EX} {elt : EX} {own : List Nat} {σ : Sl} {s : Sto} {K : Sto → Prop} (ho : ∀ s', Kp (fun p => p = s.length) s s' → chk o all s')
    (step : ∀ (i : Nat) (x : D) (s1 : Sto) (K' : Bool → Sto → Prop), all[i]? = some x → Kp (fun p => p = s.length) s s1 → (∀ s2, Kp (fun _ => False) s1 s2 → K' false s2) → xTg tg x (wipeS σ own) fun σ' => xIf (Lv T k) ifs σ' s1 K')
    (fin : ∀ s', Kp (fun p => p = s.length) s s' → s'[s.length]? = some (.lst []) → K s') : lcGo tg o all s.length (fun σ' s' K => xIf (Lv T k) ifs σ' s' K) (fun σ' s' K => xE (Lv T k) elt σ' s' K (fun _ _ _ => False)) own σ all (s ++ [.lst []]) K := by
  refine lc_at (I := fun i acc s' => s'[s.length]? = some (.lst acc) ∧ acc = [] ∧ Kp (fun p => p = s.length) s s') (fun i acc s h => h.1) ⟨get_new, rfl, Kp.push⟩ ?_ ?_
  · rintro i x acc s1 hx ⟨h1, rfl, h3⟩
    refine ⟨ho s1 h3, xTg_mono tg (fun σ' q => xIf_mono (Lv_mono T k) ifs (fun b s2 q => ?_) q) (step i x s1 (fun b s2 => b = false ∧ Kp (fun _ => False) s1 s2) hx h3 fun s2 k2 => ⟨rfl, k2⟩)⟩
    obtain ⟨rfl, k2⟩ := q
    rw [if_neg (by decide)]
    exact ⟨k2.get _ _ (fun z => z) h1, rfl, h3.trans k2.none⟩
  · rintro acc s1 ⟨h1, rfl, h3⟩
    exact ⟨ho s1 h3, fin s1 h3 h1⟩
theorem ne_nil {s : Sto} {m : Nat} (h : s[m]? = some (.lst [])) : cmpD (s ++ [Ob.lst []]) .NotEq (.ref m) (.ref s.length) = some false := by
  show (eqD _ _ _).map _ = _
  rw [eq_refs (get_old h) get_new (fun x hx => by cases hx) (fun x hx => by cases hx)]
  rfl
theorem eq_nil {s : Sto} {m : Nat} (h : s[m]? = some (.lst [])) : cmpD (s ++ [Ob.lst []]) .Eq (.ref m) (.ref s.length) = some true := by
  show eqD (s ++ [Ob.lst []]) (.ref m) (.ref s.length) = some true
  rw [eq_refs (get_old h) get_new (fun x hx => by cases hx) (fun x hx => by cases hx)]
  rfl
theorem br_nyes {p A B : Prop} [Decidable p] (hp : p) (h : B) : br (some (!decide p)) A B := br_ndec (fun n => absurd hp n) (fun _ => h)
theorem br_nno {p A B : Prop} [Decidable p] (hp : ¬ p) (h : A) : br (some (!decide p)) A B := br_ndec (fun _ => h) (fun n => absurd n hp)
end PX

/-! PX: lemmas for use: dict comprehensions, what a dict holds. -/
namespace PX
open PySem
theorem find_map_key {k v : D} : ∀ (kvs : List (D × D)) (k' : D), ((kvs.map fun p => if p.1 = k then (p.1, v) else p).find? fun p => decide (p.1 = k')).map (·.2) = if k' = k then (if (kvs.any fun p => decide (p.1 = k)) = true then some v else none) else (kvs.find? fun p => decide (p.1 = k')).map (·.2)
  | [], k' => by simp
  | p :: r, k' => by
    have ih := find_map_key (k := k) (v := v) r k'
    rw [List.map_cons, List.find?_cons, List.find?_cons, List.any_cons]
    by_cases h1 : p.1 = k
    · rw [if_pos h1]
      dsimp only
      by_cases h2 : p.1 = k'
      · have h3 : k' = k := h2.symm.trans h1
        simp only [h2, decide_true, Option.map_some, h3, Bool.true_or, if_true]
      · have : ¬ k' = k := fun e => h2 (h1.trans e.symm)
        simp only [h2, decide_false, Bool.false_eq_true, if_false]
        rw [ih, if_neg this, if_neg this]
    · rw [if_neg h1]
      by_cases h2 : p.1 = k'
      · have : ¬ k' = k := fun e => h1 (h2.trans e)
        simp only [h2, decide_true, Option.map_some, if_neg this]
      · simp only [h2, decide_false, Bool.false_eq_true, if_false]
        rw [ih]
        simp only [h1, decide_false, Bool.false_or]
theorem dGet_put {kvs : List (D × D)} {k v k' : D} : dGet (dPut kvs k v) k' = if k' = k then some v else dGet kvs k' := by
  unfold dPut
  by_cases h : (kvs.any fun p => decide (p.1 = k)) = true
  · rw [if_pos h]
    unfold dGet
    rw [find_map_key, if_pos h]
  · rw [if_neg h]
    unfold dGet
    rw [List.find?_append]
    by_cases e : k' = k
    · subst e
      have : (kvs.find? fun p => decide (p.1 = k')) = none := by
        rw [List.find?_eq_none]
        intro p hp hc
        exact h (List.any_eq_true.mpr ⟨p, hp, hc⟩)
      rw [this, if_pos rfl]
      simp
    · rw [if_neg e]
      have : ¬ k = k' := fun z => e z.symm
      cases hf : kvs.find? fun p => decide (p.1 = k') with
      | some p => simp
      | none => simp [this]
theorem dPut_len {kvs : List (D × D)} {k v : D} : (dPut kvs k v).length ≤ kvs.length + 1 := by
  unfold dPut
  split
  · simp
  · simp
theorem dPut_new {kvs : List (D × D)} {k v : D} (h : ∀ p ∈ kvs, p.1 ≠ k) : dPut kvs k v = kvs ++ [(k, v)] := by
  unfold dPut
  rw [if_neg]
  intro z
  obtain ⟨p, hp, e⟩ := List.any_eq_true.mp z
  exact h p hp (of_decide_eq_true e)
theorem dc_ind {T : Nat → Option Fn} {j : Nat} {tg : TG} {o : WK} {all : List D} {n : Nat} {ifs : List EX} {k v : EX} {own : List Nat} {σ : Sl} {K : Sto → Prop} (I : List D → Sto → Prop)
    (step : ∀ x r s, I (x :: r) s → chk o all s ∧ xTg tg x (wipeS σ own) fun σ' => xIf (Lv T j) ifs σ' s fun b s1 =>
      if b = true then xE (Lv T j) k σ' s1 (fun y s2 => xE (Lv T j) v σ' s2 (fun z s3 => ∃ kvs, s3[n]? = some (.dic kvs) ∧ keyOk y = true ∧ kvs.length < sizeLine ∧ I r (s3.set n (.dic (dPut kvs y z)))) (fun _ _ _ => False)) (fun _ _ _ => False) else I r s1)
    (fin : ∀ s, I [] s → chk o all s ∧ K s) : ∀ (items : List D) (s : Sto), I items s → dcGo tg o all n (fun σ' s' K => xIf (Lv T j) ifs σ' s' K) (fun σ' s' K => xE (Lv T j) k σ' s' K (fun _ _ _ => False)) (fun σ' s' K => xE (Lv T j) v σ' s' K (fun _ _ _ => False)) own σ items s K
  | [], s, h => fin s h
  | x :: r, s, h => by
    obtain ⟨c, h⟩ := step x r s h
    refine ⟨c, xTg_mono tg (fun σ' h => xIf_mono (Lv_mono T j) ifs (fun b s1 h => ?_) h) h⟩
    cases b with
    | true =>
      refine xE_mono (Lv_mono T j) k (fun y s2 h => xE_mono (Lv_mono T j) v (fun z s3 h => ?_) (fun _ _ _ h => h) h) (fun _ _ _ h => h) h
      obtain ⟨kvs, h1, h2, h3, h4⟩ := h
      show (match s3[n]? with
        | some (.dic kvs) => _
        | _ => False)
      rw [h1]
      exact ⟨h2, h3, dc_ind I step fin r _ h4⟩
    | false => exact dc_ind I step fin r _ h
/-- {k: v for x in all}, told by the number of turns -/
theorem dc_at {T : Nat → Option Fn} {j : Nat} {tg : TG} {o : WK} {all : List D} {n : Nat} {ifs : List EX} {k v : EX} {own : List Nat} {σ : Sl} {s : Sto} {K : Sto → Prop} (I : Nat → Sto → Prop) (h0 : I 0 s)
    (step : ∀ i x s, all[i]? = some x → I i s → chk o all s ∧ xTg tg x (wipeS σ own) fun σ' => xIf (Lv T j) ifs σ' s fun b s1 =>
      if b = true then xE (Lv T j) k σ' s1 (fun y s2 => xE (Lv T j) v σ' s2 (fun z s3 => ∃ kvs, s3[n]? = some (.dic kvs) ∧ keyOk y = true ∧ kvs.length < sizeLine ∧ I (i + 1) (s3.set n (.dic (dPut kvs y z)))) (fun _ _ _ => False)) (fun _ _ _ => False) else I (i + 1) s1)
    (fin : ∀ s, I all.length s → chk o all s ∧ K s) : dcGo tg o all n (fun σ' s' K => xIf (Lv T j) ifs σ' s' K) (fun σ' s' K => xE (Lv T j) k σ' s' K (fun _ _ _ => False)) (fun σ' s' K => xE (Lv T j) v σ' s' K (fun _ _ _ => False)) own σ all s K := by
  refine dc_ind (I := fun r s => ∃ i, r = all.drop i ∧ i ≤ all.length ∧ I i s) ?_ ?_ _ _ ⟨0, rfl, Nat.zero_le _, h0⟩
  · rintro x r s ⟨i, e, hi, h⟩
    have hx : all[i]? = some x := by
      have : (all.drop i)[0]? = some x := by rw [← e]; rfl
      rwa [List.getElem?_drop] at this
    have hlt : i < all.length := (List.getElem?_eq_some_iff.mp hx).1
    have hr : r = all.drop (i + 1) := by
      have : (x :: r).drop 1 = (all.drop i).drop 1 := by rw [e]
      rw [List.drop_drop] at this
      exact this
    obtain ⟨c, q⟩ := step i x s hx h
    refine ⟨c, xTg_mono tg (fun σ' q => xIf_mono (Lv_mono T j) ifs (fun b s1 q => ?_) q) q⟩
    cases b with
    | true =>
      rw [if_pos rfl] at q ⊢
      exact xE_mono (Lv_mono T j) k (fun y s2 q => xE_mono (Lv_mono T j) v (fun z s3 q => by
        obtain ⟨kvs, q1, q2, q3, q4⟩ := q
        exact ⟨kvs, q1, q2, q3, i + 1, hr, hlt, q4⟩) (fun _ _ _ h => h) q) (fun _ _ _ h => h) q
    | false =>
      rw [if_neg (by decide)] at q ⊢
      exact ⟨i + 1, hr, hlt, q⟩
  · rintro s ⟨i, e, hi, h⟩
    have : i = all.length := by
      have := congrArg List.length e
      simp only [List.length_nil, List.length_drop] at this
      omega
    subst this
    exact fin s h
/-- reading a list that may be locked -/
theorem ldic_ref {s : Sto} {n : Nat} {kvs : List (D × D)} (hs : s[n]? = some (.ldic kvs)) : dicOf s (.ref n) = some kvs := by
  simp only [dicOf, hs]
end PX

/-! Ways between atoms: the mathematics. -/
namespace Wy
abbrev Mt := Nat → Nat → Option Int
abbrev Ft := Nat × Nat × Int
inductive Way (fa : List Ft) : Nat → Nat → Int → Prop
  | nil (i : Nat) : Way fa i i 0
  | cons {x y j : Nat} {m a : Int} (h : (x, y, m) ∈ fa) (w : Way fa y j a) : Way fa x j (m + a)
theorem Way.app {fa : List Ft} {i j k : Nat} {a b : Int} (h : Way fa i j a) (h' : Way fa j k b) : Way fa i k (a + b) := by
  induction h with
  | nil i => rw [Int.zero_add]; exact h'
  | cons h w ih => rw [Int.add_assoc]; exact .cons h (ih h')
theorem Way.one {fa : List Ft} {x y : Nat} {m : Int} (h : (x, y, m) ∈ fa) : Way fa x y m := by
  have := Way.cons h (.nil y)
  rwa [Int.add_zero] at this
theorem Way.more {fa fb : List Ft} {i j : Nat} {a : Int} (s : ∀ f ∈ fa, f ∈ fb) (h : Way fa i j a) : Way fb i j a := by
  induction h with
  | nil i => exact .nil i
  | cons h w ih => exact .cons (s _ h) ih
/-- all hold at a point -/
def Sol (p : Nat → Int) (fa : List Ft) : Prop := ∀ f ∈ fa, p f.1 - p f.2.1 ≤ f.2.2
theorem Way.sol {fa : List Ft} {p : Nat → Int} (s : Sol p fa) {i j : Nat} {a : Int} (h : Way fa i j a) : p i - p j ≤ a := by
  induction h with
  | nil i => omega
  | cons h w ih =>
    have := s _ h
    dsimp only at this
    omega
structure Good (n : Nat) (fa : List Ft) (S F : Mt) : Prop where
  ed : ∀ f ∈ fa, f.1 < n ∧ f.2.1 < n
  diag : ∀ i, i < n → S i i = some 0
  tri : ∀ i j k a b, i < n → j < n → k < n → S i j = some a → S j k = some b → ∃ c, S i k = some c ∧ c ≤ a + b
  edge : ∀ f ∈ fa, ∃ c, S f.1 f.2.1 = some c ∧ c ≤ f.2.2
  rank : ∃ L : Nat → Nat → Nat, (∀ i, i < n → L i i = 0) ∧ ∀ i j a, i < n → j < n → i ≠ j → S i j = some a →
    ∃ (k y : Nat) (m b : Int), F i j = some (k : Int) ∧ fa[k]? = some (i, y, m) ∧ S y j = some b ∧ a = m + b ∧ L i j = L y j + 1
theorem Good.way {n : Nat} {fa : List Ft} {S F : Mt} (g : Good n fa S F) : ∀ i j a, i < n → j < n → S i j = some a → Way fa i j a := by
  obtain ⟨L, l0, hL⟩ := g.rank
  have : ∀ N i j a, L i j = N → i < n → j < n → S i j = some a → Way fa i j a := by
    intro N
    induction N with
    | zero =>
      intro i j a h0 hi hj hs
      by_cases e : i = j
      · subst e
        rw [g.diag i hi] at hs
        cases hs
        exact .nil i
      · obtain ⟨k, y, m, b, _, _, _, _, h5⟩ := hL i j a hi hj e hs
        omega
    | succ N ih =>
      intro i j a h0 hi hj hs
      by_cases e : i = j
      · subst e
        rw [l0 i hi] at h0
        omega
      · obtain ⟨k, y, m, b, h1, h2, h3, h4, h5⟩ := hL i j a hi hj e hs
        have hm := List.mem_of_getElem? h2
        have hy := (g.ed _ hm).2
        rw [h4]
        exact .cons hm (ih y j b (by omega) hy hj h3)
  exact fun i j a hi hj hs => this _ i j a rfl hi hj hs
theorem Good.least {n : Nat} {fa : List Ft} {S F : Mt} (g : Good n fa S F) {i j : Nat} {a : Int} (hi : i < n) (hj : j < n) (w : Way fa i j a) : ∃ c, S i j = some c ∧ c ≤ a := by
  induction w with
  | nil i => exact ⟨0, g.diag i hi, Int.le_refl _⟩
  | @cons x y j m a h w ih =>
    obtain ⟨c, h1, h2⟩ := ih (g.ed _ h).2 hj
    obtain ⟨d, h3, h4⟩ := g.edge _ h
    dsimp only at h3 h4
    obtain ⟨e, h5, h6⟩ := g.tri x y j d c hi (g.ed _ h).2 hj h3 h1
    exact ⟨e, h5, by omega⟩
/-- what a new difference betters -/
def Imp (S : Mt) (x y : Nat) (m : Int) (i j : Nat) : Option Int := match S i x, S y j with
  | some a, some b => match S i j with
    | none => some (a + m + b)
    | some c => if a + m + b < c then some (a + m + b) else none
  | _, _ => none
def upS (S : Mt) (x y : Nat) (m : Int) : Mt := fun i j => match Imp S x y m i j with
  | some v => some v
  | none => S i j
def upF (S F : Mt) (x y : Nat) (m : Int) (q : Nat) : Mt := fun i j => match Imp S x y m i j with
  | some _ => if i = x then some (q : Int) else F i x
  | none => F i j
theorem imp_some {S : Mt} {x y : Nat} {m : Int} {i j : Nat} {v : Int} (h : Imp S x y m i j = some v) : ∃ a b, S i x = some a ∧ S y j = some b ∧ v = a + m + b ∧ ∀ c, S i j = some c → a + m + b < c := by
  unfold Imp at h
  split at h
  · rename_i a b ha hb
    split at h
    · rename_i hc
      cases h
      exact ⟨a, b, ha, hb, rfl, fun c z => by rw [hc] at z; cases z⟩
    · rename_i c hc
      split at h
      · rename_i hlt
        cases h
        exact ⟨a, b, ha, hb, rfl, fun c' z => by rw [hc] at z; cases z; exact hlt⟩
      · cases h
  · cases h
theorem imp_none {S : Mt} {x y : Nat} {m : Int} {i j : Nat} (h : Imp S x y m i j = none) {a b : Int} (ha : S i x = some a) (hb : S y j = some b) : ∃ c, S i j = some c ∧ c ≤ a + m + b := by
  unfold Imp at h
  rw [ha, hb] at h
  dsimp only at h
  split at h
  · cases h
  · rename_i c hc
    split at h
    · cases h
    · exact ⟨c, hc, by omega⟩
section
variable {S : Mt} {x y : Nat} {m : Int}
theorem up1 {i j : Nat} {c : Int} (h : upS S x y m i j = some c) : S i j = some c ∨ ∃ a b, S i x = some a ∧ S y j = some b ∧ c = a + m + b := by
  unfold upS at h
  split at h
  · rename_i v hv
    cases h
    obtain ⟨a, b, h1, h2, h3, _⟩ := imp_some hv
    exact .inr ⟨a, b, h1, h2, h3⟩
  · exact .inl h
theorem up2 {i j : Nat} {c : Int} (h : S i j = some c) : ∃ c', upS S x y m i j = some c' ∧ c' ≤ c := by
  unfold upS
  split
  · rename_i v hv
    obtain ⟨a, b, h1, h2, h3, h4⟩ := imp_some hv
    exact ⟨v, rfl, by have := h4 c h; omega⟩
  · exact ⟨c, h, Int.le_refl _⟩
theorem up3 {i j : Nat} {a b : Int} (ha : S i x = some a) (hb : S y j = some b) : ∃ c', upS S x y m i j = some c' ∧ c' ≤ a + m + b := by
  unfold upS
  split
  · rename_i v hv
    obtain ⟨a', b', h1, h2, h3, h4⟩ := imp_some hv
    rw [ha] at h1
    rw [hb] at h2
    cases h1
    cases h2
    exact ⟨v, rfl, by omega⟩
  · rename_i hv
    exact imp_none hv ha hb
end
theorem mem_snoc {fa : List Ft} {f g : Ft} (h : f ∈ fa ++ [g]) : f ∈ fa ∨ f = g := by simpa using h
theorem get_snoc {fa : List Ft} {g : Ft} {k : Nat} {f : Ft} (h : fa[k]? = some f) : (fa ++ [g])[k]? = some f := by
  rw [List.getElem?_append_left (List.getElem?_eq_some_iff.mp h).1]
  exact h
theorem good_old {n : Nat} {fa : List Ft} {S F : Mt} (g : Good n fa S F) {x y : Nat} {m : Int} (hx : x < n) (hy : y < n) {c : Int} (hc : S x y = some c) (hm : c ≤ m) : Good n (fa ++ [(x, y, m)]) S F where
  ed := fun f hf => by
    rcases mem_snoc hf with hf | rfl
    · exact g.ed f hf
    · exact ⟨hx, hy⟩
  diag := g.diag
  tri := g.tri
  edge := fun f hf => by
    rcases mem_snoc hf with hf | rfl
    · exact g.edge f hf
    · exact ⟨c, hc, hm⟩
  rank := by
    obtain ⟨L, l0, h⟩ := g.rank
    refine ⟨L, l0, fun i j a hi hj e hs => ?_⟩
    obtain ⟨k, y', m', b, h1, h2, h3⟩ := h i j a hi hj e hs
    exact ⟨k, y', m', b, h1, get_snoc h2, h3⟩
theorem good_new {n : Nat} {fa : List Ft} {S F : Mt} (g : Good n fa S F) {x y : Nat} {m : Int} (hx : x < n) (hy : y < n) (hc : ∀ b, S y x = some b → 0 ≤ b + m) : Good n (fa ++ [(x, y, m)]) (upS S x y m) (upF S F x y m fa.length) where
  ed := fun f hf => by
    rcases mem_snoc hf with hf | rfl
    · exact g.ed f hf
    · exact ⟨hx, hy⟩
  diag := fun i hi => by
    unfold upS
    split
    · rename_i v hv
      obtain ⟨a, b, h1, h2, h3, h4⟩ := imp_some hv
      have h5 := h4 0 (g.diag i hi)
      obtain ⟨c, h6, h7⟩ := g.tri y i x b a hy hi hx h2 h1
      have := hc c h6
      omega
    · exact g.diag i hi
  tri := fun i j k a b hi hj hk h1 h2 => by
    rcases up1 h1 with h1 | ⟨c, d, p1, p2, rfl⟩
    · rcases up1 h2 with h2 | ⟨c, d, p1, p2, rfl⟩
      · obtain ⟨e, q1, q2⟩ := g.tri i j k a b hi hj hk h1 h2
        obtain ⟨e', q3, q4⟩ := up2 (x := x) (y := y) (m := m) q1
        exact ⟨e', q3, by omega⟩
      · obtain ⟨e, q1, q2⟩ := g.tri i j x a c hi hj hx h1 p1
        obtain ⟨e', q3, q4⟩ := up3 (m := m) q1 p2
        exact ⟨e', q3, by omega⟩
    · rcases up1 h2 with h2 | ⟨e, f, p3, p4, rfl⟩
      · obtain ⟨e, q1, q2⟩ := g.tri y j k d b hy hj hk p2 h2
        obtain ⟨e', q3, q4⟩ := up3 (m := m) p1 q1
        exact ⟨e', q3, by omega⟩
      · obtain ⟨z, q1, q2⟩ := g.tri y j x d e hy hj hx p2 p3
        have := hc z q1
        obtain ⟨e', q3, q4⟩ := up3 (m := m) p1 p4
        exact ⟨e', q3, by omega⟩
  edge := fun f hf => by
    rcases mem_snoc hf with hf | rfl
    · obtain ⟨c, h1, h2⟩ := g.edge f hf
      obtain ⟨c', h3, h4⟩ := up2 (x := x) (y := y) (m := m) h1
      exact ⟨c', h3, by omega⟩
    · obtain ⟨c', h3, h4⟩ := up3 (m := m) (g.diag x hx) (g.diag y hy)
      exact ⟨c', h3, by dsimp only; omega⟩
  rank := by
    obtain ⟨L, l0, h⟩ := g.rank
    have nd : ∀ i, i < n → Imp S x y m i i = none := fun i hi => by
      cases hv : Imp S x y m i i with
      | none => rfl
      | some v =>
        obtain ⟨a, b, h1, h2, h3, h4⟩ := imp_some hv
        have h5 := h4 0 (g.diag i hi)
        obtain ⟨c, h6, h7⟩ := g.tri y i x b a hy hi hx h2 h1
        have := hc c h6
        omega
    refine ⟨fun i j => match Imp S x y m i j with
      | some _ => L i x + 1 + L y j
      | none => L i j, fun i hi => by dsimp only; rw [nd i hi]; exact l0 i hi, fun i j a hi hj e hs => ?_⟩
    unfold upS at hs
    cases hv : Imp S x y m i j with
    | some v =>
      rw [hv] at hs
      cases hs
      obtain ⟨p, b, h1, h2, h3, h4⟩ := imp_some hv
      by_cases ix : i = x
      · subst ix
        rw [g.diag i hi] at h1
        cases h1
        have ny : Imp S i y m y j = none := by
          cases hw : Imp S i y m y j with
          | none => rfl
          | some w =>
            obtain ⟨p', b', k1, k2, k3, k4⟩ := imp_some hw
            have := k4 b h2
            rw [h2] at k2
            cases k2
            have := hc p' k1
            omega
        refine ⟨fa.length, y, m, b, by simp only [upF, hv, if_true], ?_, by simp only [upS, ny]; exact h2, by omega, ?_⟩
        · rw [List.getElem?_append_right (Nat.le_refl _), Nat.sub_self]
          rfl
        · simp only [hv, ny]
          rw [l0 i hi]
          omega
      · obtain ⟨k, y', m', b1, k1, k2, k3, k4, k5⟩ := h i x p hi hx ix h1
        have hy' := (g.ed _ (List.mem_of_getElem? k2)).2
        have iy : Imp S x y m y' j = some (b1 + m + b) := by
          cases hw : Imp S x y m y' j with
          | some w =>
            obtain ⟨p', b', q1, q2, q3, _⟩ := imp_some hw
            rw [k3] at q1
            rw [h2] at q2
            cases q1
            cases q2
            rw [q3]
          | none =>
            obtain ⟨c, q1, q2⟩ := imp_none hw k3 h2
            obtain ⟨d, q3, q4⟩ := g.edge _ (List.mem_of_getElem? k2)
            dsimp only at q3 q4
            obtain ⟨z, q5, q6⟩ := g.tri i y' j d c hi hy' hj q3 q1
            have := h4 z q5
            omega
        refine ⟨k, y', m', b1 + m + b, by simp only [upF, hv, if_neg ix]; exact k1, get_snoc k2, by simp only [upS, iy], by omega, ?_⟩
        simp only [hv, iy]
        omega
    | none =>
      rw [hv] at hs
      dsimp only at hs
      obtain ⟨k, y', m', b, k1, k2, k3, k4, k5⟩ := h i j a hi hj e hs
      have hy' := (g.ed _ (List.mem_of_getElem? k2)).2
      have ny : Imp S x y m y' j = none := by
        cases hw : Imp S x y m y' j with
        | none => rfl
        | some w =>
          obtain ⟨p', b', q1, q2, q3, q4⟩ := imp_some hw
          have q5 := q4 b k3
          obtain ⟨d, q6, q7⟩ := g.edge _ (List.mem_of_getElem? k2)
          dsimp only at q6 q7
          obtain ⟨z, q8, q9⟩ := g.tri i y' x d p' hi hy' hx q6 q1
          obtain ⟨c, r1, r2⟩ := imp_none hv q8 q2
          rw [hs] at r1
          cases r1
          omega
      refine ⟨k, y', m', b, by simp only [upF, hv]; exact k1, get_snoc k2, by simp only [upS, ny]; exact k3, k4, ?_⟩
      simp only [hv, ny]
      exact k5
/-- no difference yet -/
def M0 : Mt := fun i j => if i = j then some 0 else none
theorem good_start (n : Nat) : Good n [] M0 (fun _ _ => none) where
  ed := fun f hf => by cases hf
  diag := fun i _ => if_pos rfl
  tri := fun i j k a b _ _ _ h1 h2 => by
    unfold M0 at h1 h2 ⊢
    split at h1 <;> cases h1
    split at h2 <;> cases h2
    rename_i e1 e2
    exact ⟨0, by rw [if_pos (e1.trans e2)], by decide⟩
  edge := fun f hf => by cases hf
  rank := ⟨fun _ _ => 0, fun _ _ => rfl, fun i j a _ _ e h => by
    unfold M0 at h
    rw [if_neg e] at h
    cases h⟩
/-- the lows are a solution -/
theorem low_sol {n : Nat} {fa : List Ft} {S F : Mt} (g : Good n fa S F) {lo : Nat → Int} (h1 : ∀ i, i < n → ∃ j, j < n ∧ S i j = some (lo i)) (h2 : ∀ i j a, i < n → j < n → S i j = some a → lo i ≤ a) : Sol lo fa := fun f hf => by
  obtain ⟨x, y, m⟩ := f
  obtain ⟨hx, hy⟩ := g.ed _ hf
  obtain ⟨j, hj, e⟩ := h1 y hy
  obtain ⟨c, q1, q2⟩ := g.edge _ hf
  dsimp only at hx hy e q1 q2 ⊢
  obtain ⟨d, q3, q4⟩ := g.tri x y j c (lo y) hx hy hj q1 e
  have := h2 x j d hx hj q3
  omega
theorem good_back {n : Nat} {fa : List Ft} {S F : Mt} (g : Good n fa S F) {p : Nat → Int} {x y : Nat} {m : Int} (hx : x < n) (hy : y < n) (s : Sol p (fa ++ [(x, y, m)])) : ∀ b, S y x = some b → 0 ≤ b + m := fun b hb => by
  have w := g.way y x b hy hx hb
  have := w.sol (fun f hf => s f (List.mem_append_left _ hf))
  have := s (x, y, m) (by simp)
  dsimp only at this
  omega
/-! ### the law's own least sums: by middle atoms -/
structure Fw (k n : Nat) (fa : List Ft) (w : Mt) : Prop where
  diag : ∀ i, i < n → w i i = some 0
  way : ∀ i j a, i < n → j < n → w i j = some a → Way fa i j a
  edge : ∀ f ∈ fa, ∃ c, w f.1 f.2.1 = some c ∧ c ≤ f.2.2
  tri : ∀ i j m a b, i < n → j < n → m < n → m < k → w i m = some a → w m j = some b → ∃ c, w i j = some c ∧ c ≤ a + b
def midM (w : Mt) (m : Nat) : Mt := fun i j => match w i m, w m j with
  | some a, some b => match w i j with
    | none => some (a + b)
    | some c => if a + b < c then some (a + b) else some c
  | _, _ => w i j
section
variable {w : Mt} {m : Nat}
theorem mid1 {i j : Nat} {c : Int} (h : midM w m i j = some c) : w i j = some c ∨ ∃ a b, w i m = some a ∧ w m j = some b ∧ c = a + b := by
  unfold midM at h
  split at h
  · rename_i a b ha hb
    split at h
    · cases h; exact .inr ⟨a, b, ha, hb, rfl⟩
    · rename_i c' hc
      split at h
      · cases h; exact .inr ⟨a, b, ha, hb, rfl⟩
      · cases h; exact .inl hc
  · exact .inl h
theorem mid2 {i j : Nat} {c : Int} (h : w i j = some c) : ∃ c', midM w m i j = some c' ∧ c' ≤ c := by
  unfold midM
  split
  · rw [h]
    dsimp only
    split
    · exact ⟨_, rfl, by omega⟩
    · exact ⟨_, rfl, Int.le_refl _⟩
  · exact ⟨c, h, Int.le_refl _⟩
theorem mid3 {i j : Nat} {a b : Int} (ha : w i m = some a) (hb : w m j = some b) : ∃ c', midM w m i j = some c' ∧ c' ≤ a + b := by
  unfold midM
  rw [ha, hb]
  dsimp only
  split
  · exact ⟨_, rfl, Int.le_refl _⟩
  · split
    · exact ⟨_, rfl, Int.le_refl _⟩
    · exact ⟨_, rfl, by omega⟩
end
theorem Fw.step {k n : Nat} {fa : List Ft} {w : Mt} (g : Fw k n fa w) (hk : k < n) (nn : ∀ i a, Way fa i i a → 0 ≤ a) : Fw (k + 1) n fa (midM w k) where
  diag := fun i hi => by
    obtain ⟨c, h1, h2⟩ := mid2 (m := k) (g.diag i hi)
    rcases mid1 h1 with h | ⟨a, b, p1, p2, rfl⟩
    · rw [g.diag i hi] at h; cases h; exact h1
    · have := nn i _ ((g.way i k a hi hk p1).app (g.way k i b hk hi p2))
      have : a + b = 0 := by omega
      rw [h1, this]
  way := fun i j a hi hj h => by
    rcases mid1 h with h | ⟨a, b, p1, p2, rfl⟩
    · exact g.way i j a hi hj h
    · exact (g.way i k a hi hk p1).app (g.way k j b hk hj p2)
  edge := fun f hf => by
    obtain ⟨c, h1, h2⟩ := g.edge f hf
    obtain ⟨c', h3, h4⟩ := mid2 (m := k) h1
    exact ⟨c', h3, by omega⟩
  tri := fun i j m a b hi hj hmn hm h1 h2 => by
    -- what the k-th middle atom gives to itself
    have kk : ∀ i a, i < n → midM w k i k = some a → ∃ c, w i k = some c ∧ c ≤ a := fun i a hi h => by
      rcases mid1 h with h | ⟨c, d, p1, p2, rfl⟩
      · exact ⟨a, h, Int.le_refl _⟩
      · rw [g.diag k hk] at p2; cases p2; exact ⟨c, p1, by omega⟩
    have kk' : ∀ j a, j < n → midM w k k j = some a → ∃ c, w k j = some c ∧ c ≤ a := fun j a hj h => by
      rcases mid1 h with h | ⟨c, d, p1, p2, rfl⟩
      · exact ⟨a, h, Int.le_refl _⟩
      · rw [g.diag k hk] at p1; cases p1; exact ⟨d, p2, by omega⟩
    by_cases e : m = k
    · subst e
      obtain ⟨c, q1, q2⟩ := kk i a hi h1
      obtain ⟨d, q3, q4⟩ := kk' j b hj h2
      obtain ⟨z, q5, q6⟩ := mid3 q1 q3
      exact ⟨z, q5, by omega⟩
    · have hm' : m < k := by omega
      rcases mid1 h1 with h1 | ⟨c, d, p1, p2, rfl⟩
      · rcases mid1 h2 with h2 | ⟨c, d, p1, p2, rfl⟩
        · obtain ⟨z, q1, q2⟩ := g.tri i j m a b hi hj hmn hm' h1 h2
          obtain ⟨z', q3, q4⟩ := mid2 (m := k) q1
          exact ⟨z', q3, by omega⟩
        · obtain ⟨z, q1, q2⟩ := g.tri i k m a c hi hk hmn hm' h1 p1
          obtain ⟨z', q3, q4⟩ := mid3 q1 p2
          exact ⟨z', q3, by omega⟩
      · rcases mid1 h2 with h2 | ⟨e1, f1, p3, p4, rfl⟩
        · obtain ⟨z, q1, q2⟩ := g.tri k j m d b hk hj hmn hm' p2 h2
          obtain ⟨z', q3, q4⟩ := mid3 p1 q1
          exact ⟨z', q3, by omega⟩
        · have := nn k _ ((g.way k m d hk hmn p2).app (g.way m k e1 hmn hk p3))
          obtain ⟨z', q3, q4⟩ := mid3 p1 p4
          exact ⟨z', q3, by omega⟩
theorem Fw.least {n : Nat} {fa : List Ft} {w : Mt} (g : Fw n n fa w) (ed : ∀ f ∈ fa, f.1 < n ∧ f.2.1 < n) {i j : Nat} {a : Int} (hi : i < n) (hj : j < n) (h : Way fa i j a) : ∃ c, w i j = some c ∧ c ≤ a := by
  induction h with
  | nil i => exact ⟨0, g.diag i hi, Int.le_refl _⟩
  | @cons x y j m a h w' ih =>
    have hy := (ed _ h).2
    obtain ⟨c, h1, h2⟩ := ih hy hj
    obtain ⟨d, h3, h4⟩ := g.edge _ h
    dsimp only at h3 h4
    obtain ⟨e, h5, h6⟩ := g.tri x j y d c hi hj hy hy h3 h1
    exact ⟨e, h5, by omega⟩
theorem same {n : Nat} {fa : List Ft} {S F w : Mt} (g : Good n fa S F) (f : Fw n n fa w) {i j : Nat} (hi : i < n) (hj : j < n) : S i j = w i j := by
  cases h : S i j with
  | some a =>
    obtain ⟨c, h1, h2⟩ := f.least g.ed hi hj (g.way i j a hi hj h)
    obtain ⟨d, h3, h4⟩ := g.least hi hj (f.way i j c hi hj h1)
    rw [h] at h3
    cases h3
    rw [h1]
    congr 1
    omega
  | none =>
    cases h1 : w i j with
    | none => rfl
    | some c =>
      obtain ⟨d, h3, h4⟩ := g.least hi hj (f.way i j c hi hj h1)
      rw [h] at h3
      cases h3
/-- the first sums: each difference at its place -/
structure Fi (n : Nat) (fa : List Ft) (w : Mt) : Prop where
  diag : ∀ i, i < n → w i i = some 0
  way : ∀ i j a, i < n → j < n → w i j = some a → Way fa i j a
  edge : ∀ f ∈ fa, ∃ c, w f.1 f.2.1 = some c ∧ c ≤ f.2.2
def put (w : Mt) (x y : Nat) (v : Option Int) : Mt := fun i j => if i = x ∧ j = y then v else w i j
theorem fi_start (n : Nat) : Fi n [] M0 where
  diag := fun i _ => if_pos rfl
  way := fun i j a _ _ h => by
    unfold M0 at h
    split at h <;> cases h
    rename_i e
    subst e
    exact .nil i
  edge := fun f hf => by cases hf
theorem Fi.old {n : Nat} {fa : List Ft} {w : Mt} (g : Fi n fa w) {f : Ft} {c : Int} (h : w f.1 f.2.1 = some c) (hc : c ≤ f.2.2) : Fi n (fa ++ [f]) w where
  diag := g.diag
  way := fun i j a hi hj h => (g.way i j a hi hj h).more fun f hf => List.mem_append_left _ hf
  edge := fun f' hf => by
    rcases mem_snoc hf with hf | rfl
    · exact g.edge f' hf
    · exact ⟨c, h, hc⟩
theorem Fi.new {n : Nat} {fa : List Ft} {w : Mt} (g : Fi n fa w) {f : Ft} (hx : f.1 < n) (hy : f.2.1 < n) (h : ∀ c, w f.1 f.2.1 = some c → f.2.2 < c) (hd : f.1 = f.2.1 → 0 ≤ f.2.2) : Fi n (fa ++ [f]) (put w f.1 f.2.1 (some f.2.2)) where
  diag := fun i hi => by
    unfold put
    split
    · rename_i e
      have e1 := g.diag i hi
      have := h 0 (by rw [← e.1, ← e.2]; exact e1)
      have := hd (e.1.symm.trans e.2)
      omega
    · exact g.diag i hi
  way := fun i j a hi hj h => by
    unfold put at h
    split at h
    · rename_i e
      cases h
      obtain ⟨x, y, m⟩ := f
      obtain ⟨rfl, rfl⟩ := e
      exact .one (by simp)
    · exact (g.way i j a hi hj h).more fun f hf => List.mem_append_left _ hf
  edge := fun f' hf => by
    rcases mem_snoc hf with hf | rfl
    · obtain ⟨c, h1, h2⟩ := g.edge f' hf
      unfold put
      split
      · rename_i e
        refine ⟨_, rfl, ?_⟩
        have := h c (by rw [← e.1, ← e.2]; exact h1)
        omega
      · exact ⟨c, h1, h2⟩
    · refine ⟨f'.2.2, ?_, Int.le_refl _⟩
      unfold put
      rw [if_pos ⟨rfl, rfl⟩]
theorem Fi.fw {n : Nat} {fa : List Ft} {w : Mt} (g : Fi n fa w) : Fw 0 n fa w := ⟨g.diag, g.way, g.edge, fun _ _ _ _ _ _ _ _ h => absurd h (Nat.not_lt_zero _)⟩
end Wy

/-! Ways: how they stand in the store. -/
namespace Wy
open PX
def oD : Option Int → D
  | none => .non
  | some i => .int i
def rowD (g : Nat → Option Int) (n : Nat) : List D := (List.range n).map fun j => oD (g j)
theorem rowD_len (g : Nat → Option Int) (n : Nat) : (rowD g n).length = n := by simp [rowD]
theorem rowD_get {g : Nat → Option Int} {n j : Nat} (h : j < n) : (rowD g n)[j]? = some (oD (g j)) := by
  unfold rowD
  rw [List.getElem?_map, List.getElem?_range h]
  rfl
theorem rowD_at {g : Nat → Option Int} {n j : Nat} (h : j < n) : L2.atI (rowD g n) (j : Int) = some (oD (g j)) := by rw [atI_k, rowD_get h]
theorem rowD_congr {g g' : Nat → Option Int} {n : Nat} (h : ∀ j, j < n → g j = g' j) : rowD g n = rowD g' n := by
  unfold rowD
  refine List.map_congr_left fun j hj => ?_
  rw [h j (List.mem_range.mp hj)]
theorem rowD_set {g : Nat → Option Int} {n j : Nat} {v : Option Int} : (rowD g n).set j (oD v) = rowD (fun k => if k = j then v else g k) n := by
  apply List.ext_getElem?
  intro k
  by_cases hk : k < n
  · rw [rowD_get hk, List.getElem?_set]
    by_cases e : j = k
    · subst e
      rw [if_pos rfl, if_pos rfl, if_pos (by rw [rowD_len]; exact hk)]
    · rw [if_neg e, rowD_get hk, if_neg (fun z => e z.symm)]
  · rw [List.getElem?_eq_none (by rw [List.length_set, rowD_len]; omega), List.getElem?_eq_none (by rw [rowD_len]; omega)]
theorem rowD_snoc {g : Nat → Option Int} {n : Nat} : rowD g n ++ [oD (g n)] = rowD g (n + 1) := by
  unfold rowD
  rw [List.range_succ, List.map_append]
  rfl
theorem rowD_none (n : Nat) : (List.replicate n [D.non]).flatten = rowD (fun _ => none) n := by
  induction n with
  | zero => rfl
  | succ n ih =>
    rw [← rowD_snoc, ← ih, List.replicate_succ', List.flatten_append]
    rfl
/-- a list of references -/
def refsD (rows : Nat → Nat) (n : Nat) : List D := (List.range n).map fun i => .ref (rows i)
theorem refsD_len (rows : Nat → Nat) (n : Nat) : (refsD rows n).length = n := by simp [refsD]
theorem refsD_get {rows : Nat → Nat} {n i : Nat} (h : i < n) : (refsD rows n)[i]? = some (.ref (rows i)) := by
  unfold refsD
  rw [List.getElem?_map, List.getElem?_range h]
  rfl
theorem refsD_at {rows : Nat → Nat} {n i : Nat} (h : i < n) : L2.atI (refsD rows n) (i : Int) = some (.ref (rows i)) := by rw [atI_k, refsD_get h]
theorem refsD_snoc {rows : Nat → Nat} {n : Nat} : refsD rows n ++ [.ref (rows n)] = refsD rows (n + 1) := by
  unfold refsD
  rw [List.range_succ, List.map_append]
  rfl
theorem refsD_of {rows : Nat → Nat} {n i : Nat} {x : D} (h : (refsD rows n)[i]? = some x) : i < n ∧ x = .ref (rows i) := by
  have hi : i < n := by
    have := (List.getElem?_eq_some_iff.mp h).1
    rwa [refsD_len] at this
  rw [refsD_get hi] at h
  exact ⟨hi, (Option.some.inj h).symm⟩
def eD (f : Ft) : D := .tup [.int f.1, .int f.2.1, .int f.2.2]
/-- item of item -/
theorem ix2 {s : Sto} {r n m i j : Nat} {rows : Nat → Nat} {g : Nat → Option Int} {Q : QE} (h1 : s[r]? = some (.lst (refsD rows n))) (h2 : s[rows i]? = some (.lst (rowD g m))) (hi : i < n) (hj : j < m) (h : Q (oD (g j)) s) :
    xIx (.ref r) (.int (i : Int)) s (fun v s1 => xIx v (.int (j : Int)) s1 Q) := ix_ref h1 (refsD_at hi) (ix_ref h2 (rowD_at hj) h)
/-- a place in the memory: rows of sums, of first edges -/
def rs (L i : Nat) : Nat := if i = 0 then L + 1 else L + 8 * i + 1
def rf (L i : Nat) : Nat := if i = 0 then L + 3 else L + 8 * i + 5
structure WAt (s : Sto) (L n : Nat) (S F : Mt) (fa : List Ft) : Prop where
  ob : s[L]? = some (.ins 0 [(0, .ref (L + 2)), (1, .ref (L + 4)), (2, .ref (L + 5)), (3, .non)])
  s1 : s[L + 2]? = some (.lst (refsD (rs L) n))
  sr : ∀ i, i < n → s[rs L i]? = some (.lst (rowD (S i) n))
  f1 : s[L + 4]? = some (.lst (refsD (rf L) n))
  fr : ∀ i, i < n → s[rf L i]? = some (.lst (rowD (F i) n))
  fc : s[L + 5]? = some (.lst (fa.map eD))
  np : 0 < n
theorem rs_lt {L n i : Nat} (h : i < n) : rs L i + 3 ≤ L + 8 * n ∧ L < rs L i := by
  unfold rs
  split <;> omega
theorem rf_lt {L n i : Nat} (h : i < n) : rf L i + 3 ≤ L + 8 * n ∧ L < rf L i := by
  unfold rf
  split <;> omega
theorem WAt.kp {s s' : Sto} {L n : Nat} {S F : Mt} {fa : List Ft} {R : Nat → Prop} (w : WAt s L n S F fa) (k : Kp R s s') (h : ∀ p, L ≤ p → p + 2 < L + 8 * n → ¬ R p) : WAt s' L n S F fa := by
  have := w.np
  exact ⟨k.get _ _ (h _ (by omega) (by omega)) w.ob, k.get _ _ (h _ (by omega) (by omega)) w.s1, fun i hi => by have := rs_lt (L := L) hi; exact k.get _ _ (h _ (by omega) (by omega)) (w.sr i hi),
    k.get _ _ (h _ (by omega) (by omega)) w.f1, fun i hi => by have := rf_lt (L := L) hi; exact k.get _ _ (h _ (by omega) (by omega)) (w.fr i hi), k.get _ _ (h _ (by omega) (by omega)) w.fc, w.np⟩
theorem rs_inj {L i j : Nat} (h : rs L i = rs L j) : i = j := by
  unfold rs at h
  split at h <;> split at h <;> omega
theorem rf_inj {L i j : Nat} (h : rf L i = rf L j) : i = j := by
  unfold rf at h
  split at h <;> split at h <;> omega
theorem rs_ne_rf {L i j : Nat} : rs L i ≠ rf L j := by
  unfold rs rf
  split <;> split <;> omega
theorem rs_ne {L i : Nat} : rs L i ≠ L ∧ rs L i ≠ L + 2 ∧ rs L i ≠ L + 4 ∧ rs L i ≠ L + 5 := by
  unfold rs
  split <;> omega
theorem rf_ne {L i : Nat} : rf L i ≠ L ∧ rf L i ≠ L + 2 ∧ rf L i ≠ L + 4 ∧ rf L i ≠ L + 5 := by
  unfold rf
  split <;> omega
theorem WAt.setS {s : Sto} {L n : Nat} {S F : Mt} {fa : List Ft} (w : WAt s L n S F fa) {i : Nat} (hi : i < n) {g : Nat → Option Int} {xs : List D} (hx : xs = rowD g n) : WAt (s.set (rs L i) (.lst xs)) L n (fun k => if k = i then g else S k) F fa := by
  subst hx
  have a := rs_ne (L := L) (i := i)
  refine ⟨get_ne w.ob a.1.symm, get_ne w.s1 a.2.1.symm, fun k hk => ?_, get_ne w.f1 a.2.2.1.symm, fun k hk => get_ne (w.fr k hk) (fun z => rs_ne_rf z.symm), get_ne w.fc a.2.2.2.symm, w.np⟩
  by_cases e : k = i
  · subst e
    rw [if_pos rfl]
    exact get_set (w.sr k hk)
  · rw [if_neg e]
    exact get_ne (w.sr k hk) (fun z => e (rs_inj z))
theorem WAt.setF {s : Sto} {L n : Nat} {S F : Mt} {fa : List Ft} (w : WAt s L n S F fa) {i : Nat} (hi : i < n) {g : Nat → Option Int} {xs : List D} (hx : xs = rowD g n) : WAt (s.set (rf L i) (.lst xs)) L n S (fun k => if k = i then g else F k) fa := by
  subst hx
  have a := rf_ne (L := L) (i := i)
  refine ⟨get_ne w.ob a.1.symm, get_ne w.s1 a.2.1.symm, fun k hk => get_ne (w.sr k hk) rs_ne_rf, get_ne w.f1 a.2.2.1.symm, fun k hk => ?_, get_ne w.fc a.2.2.2.symm, w.np⟩
  by_cases e : k = i
  · subst e
    rw [if_pos rfl]
    exact get_set (w.fr k hk)
  · rw [if_neg e]
    exact get_ne (w.fr k hk) (fun z => e (rf_inj z))
theorem WAt.congr {s : Sto} {L n : Nat} {S F S' F' : Mt} {fa : List Ft} (w : WAt s L n S F fa) (hS : ∀ i j, i < n → j < n → S i j = S' i j) (hF : ∀ i j, i < n → j < n → F i j = F' i j) : WAt s L n S' F' fa :=
  ⟨w.ob, w.s1, fun i hi => by rw [w.sr i hi, rowD_congr (hS i · hi)], w.f1, fun i hi => by rw [w.fr i hi, rowD_congr (hF i · hi)], w.fc, w.np⟩
/-- a path, edge by edge -/
def Pth (fa : List Ft) : Nat → List Nat → Nat → Int → Prop
  | x, [], y, a => x = y ∧ a = 0
  | x, k :: ks, y, a => ∃ y' m b, fa[k]? = some (x, y', m) ∧ Pth fa y' ks y b ∧ a = m + b
theorem Pth.snoc {fa : List Ft} {y y' : Nat} {m : Int} {k : Nat} : ∀ {ks : List Nat} {x : Nat} {a : Int}, Pth fa x ks y a → fa[k]? = some (y, y', m) → Pth fa x (ks ++ [k]) y' (a + m)
  | [], x, a, h, e => by
    obtain ⟨rfl, rfl⟩ := h
    exact ⟨y', m, 0, e, ⟨rfl, rfl⟩, by omega⟩
  | k' :: ks, x, a, h, e => by
    obtain ⟨z, m', b, h1, h2, rfl⟩ := h
    exact ⟨z, m', b + m, h1, h2.snoc e, by omega⟩
theorem nodup_len : ∀ (n : Nat) (l : List Nat), l.Nodup → (∀ x ∈ l, x < n) → l.length ≤ n
  | 0, l, _, h => by
    cases l with
    | nil => exact Nat.le_refl _
    | cons a r => exact absurd (h a (by simp)) (Nat.not_lt_zero _)
  | n + 1, l, nd, h => by
    have h1 := nodup_len n (l.erase n) (nd.erase n) fun x hx => by
      have h2 := h x (List.mem_of_mem_erase hx)
      have h3 : x ≠ n := fun z => by
        subst z
        exact (List.Nodup.not_mem_erase nd) hx
      omega
    have h4 := List.length_erase (a := n) (l := l)
    split at h4 <;> omega
/-- how long a path may be -/
theorem rank_lt {n : Nat} {fa : List Ft} {S F : Mt} (g : Good n fa S F) {L : Nat → Nat → Nat} (l0 : ∀ i, i < n → L i i = 0) (hL : ∀ i j a, i < n → j < n → i ≠ j → S i j = some a →
    ∃ (k y : Nat) (m b : Int), F i j = some (k : Int) ∧ fa[k]? = some (i, y, m) ∧ S y j = some b ∧ a = m + b ∧ L i j = L y j + 1) {j : Nat} (hj : j < n) : ∀ {i a}, i < n → S i j = some a → L i j < n := by
  have : ∀ N i a, L i j = N → i < n → S i j = some a → ∃ l : List Nat, l.length = N + 1 ∧ (∀ z ∈ l, z < n ∧ L z j ≤ N) ∧ l.Nodup := by
    intro N
    induction N with
    | zero =>
      intro i a h0 hi hs
      exact ⟨[i], rfl, fun z hz => by rw [List.mem_singleton.mp hz]; exact ⟨hi, by omega⟩, by simp⟩
    | succ N ih =>
      intro i a h0 hi hs
      have e : i ≠ j := fun z => by
        subst z
        rw [l0 i hi] at h0
        omega
      obtain ⟨k, y, m, b, h1, h2, h3, h4, h5⟩ := hL i j a hi hj e hs
      obtain ⟨l, g1, g2, g3⟩ := ih y b (by omega) ((g.ed _ (List.mem_of_getElem? h2)).2) h3
      refine ⟨i :: l, by rw [List.length_cons, g1], fun z hz => ?_, List.nodup_cons.mpr ⟨fun hz => ?_, g3⟩⟩
      · rcases List.mem_cons.mp hz with rfl | hz
        · exact ⟨hi, by omega⟩
        · exact ⟨(g2 z hz).1, by have := (g2 z hz).2; omega⟩
      · have := (g2 i hz).2
        omega
  intro i a hi hs
  obtain ⟨l, h1, h2, h3⟩ := this _ i a rfl hi hs
  have := nodup_len n l h3 fun z hz => (h2 z hz).1
  omega
def LowAt (S : Mt) (n i : Nat) (m : Int) : Prop := (∃ j, j < n ∧ S i j = some m) ∧ ∀ j a, j < n → S i j = some a → m ≤ a
end Wy

/-! plain sums: the points that a set of differences has, and that they stand apart -/
namespace Wy
/-! sums -/
def sm : Nat → (Nat → Int) → Int
  | 0, _ => 0
  | k + 1, f => sm k f + f k
theorem sm_congr {k : Nat} {f g : Nat → Int} (h : ∀ i, i < k → f i = g i) : sm k f = sm k g := by
  induction k with
  | zero => rfl
  | succ k ih => rw [sm, sm, ih fun i hi => h i (by omega), h k (by omega)]
theorem sm_add {k : Nat} {f g : Nat → Int} : sm k (fun i => f i + g i) = sm k f + sm k g := by
  induction k with
  | zero => rfl
  | succ k ih => simp only [sm, ih]; omega
theorem sm_sub {k : Nat} {f g : Nat → Int} : sm k (fun i => f i - g i) = sm k f - sm k g := by
  induction k with
  | zero => rfl
  | succ k ih => simp only [sm, ih]; omega
theorem sm_mul {k : Nat} {f : Nat → Int} {c : Int} : sm k (fun i => f i * c) = sm k f * c := by
  induction k with
  | zero => simp [sm]
  | succ k ih => simp only [sm, ih, Int.add_mul]
theorem sm_zero {k : Nat} {f : Nat → Int} (h : ∀ i, i < k → f i = 0) : sm k f = 0 := by
  induction k with
  | zero => rfl
  | succ k ih => rw [sm, ih fun i hi => h i (by omega), h k (by omega)]; rfl
theorem sm_one {k m : Nat} {f : Nat → Int} (hm : m < k) (h : ∀ i, i < k → i ≠ m → f i = 0) : sm k f = f m := by
  induction k with
  | zero => omega
  | succ k ih =>
    rw [sm]
    by_cases e : m = k
    · subst e
      rw [sm_zero fun i hi => h i (by omega) (by omega)]
      omega
    · rw [ih (by omega) (fun i hi => h i (by omega)), h k (by omega) (by omega)]
      omega
theorem sm_le {k : Nat} {f g : Nat → Int} {a : Int} (h : ∀ i, i < k → f i ≤ g i + a) : sm k f ≤ sm k g + k * a := by
  induction k with
  | zero => simp [sm]
  | succ k ih =>
    have h1 := ih fun i hi => h i (by omega)
    have h2 := h k (by omega)
    have e : ((k + 1 : Nat) : Int) * a = k * a + a := by rw [Int.natCast_add, Int.add_mul]; omega
    rw [sm, sm, e]
    omega
theorem sm_lt {k m : Nat} {f g : Nat → Int} {a : Int} (hm : m < k) (h : ∀ i, i < k → f i ≤ g i + a) (h1 : f m ≤ g m + a - 1) : sm k f ≤ sm k g + k * a - 1 := by
  induction k with
  | zero => omega
  | succ k ih =>
    have h2 := h k (by omega)
    have e : ((k + 1 : Nat) : Int) * a = k * a + a := by rw [Int.natCast_add, Int.add_mul]; omega
    rw [sm, sm, e]
    by_cases z : m = k
    · subst z
      have := sm_le fun i (hi : i < m) => h i (by omega)
      omega
    · have := ih (by omega) fun i hi => h i (by omega)
      omega
theorem sm_upd {k i : Nat} {v : Nat → Int} {x : Int} (hi : i < k) : sm k (fun t => if t = i then x else v t) = sm k v - v i + x := by
  have h1 := sm_one (f := fun t => (if t = i then x else v t) - v t) hi fun t _ hne => by rw [if_neg hne]; omega
  rw [sm_sub, if_pos rfl] at h1
  omega
/-! bounds -/
theorem bnd1 (f : Nat → Int) : ∀ k, ∃ M : Int, 0 ≤ M ∧ ∀ i, i < k → f i ≤ M ∧ -M ≤ f i := by
  intro k
  induction k with
  | zero => exact ⟨0, by omega, fun i h => by omega⟩
  | succ k ih =>
    obtain ⟨M, h0, h⟩ := ih
    refine ⟨M + (f k).natAbs, by omega, fun i hi => ?_⟩
    by_cases e : i = k
    · subst e; omega
    · have := h i (by omega)
      omega
theorem bnd2 (f : Nat → Nat → Int) (l : Nat) : ∀ k, ∃ M : Int, 0 ≤ M ∧ ∀ i j, i < k → j < l → f i j ≤ M ∧ -M ≤ f i j := by
  intro k
  induction k with
  | zero => exact ⟨0, by omega, fun i j h => by omega⟩
  | succ k ih =>
    obtain ⟨M, h0, h⟩ := ih
    obtain ⟨M', h0', h'⟩ := bnd1 (f k) l
    refine ⟨M + M', by omega, fun i j hi hj => ?_⟩
    by_cases e : i = k
    · subst e
      have := h' j hj
      omega
    · have := h i j (by omega) hj
      omega
theorem argmin (f : Nat → Int) : ∀ k, 0 < k → ∃ m, m < k ∧ ∀ i, i < k → f m ≤ f i := by
  intro k
  induction k with
  | zero => intro h; omega
  | succ k ih =>
    intro _
    by_cases z : k = 0
    · subst z
      exact ⟨0, by omega, fun i hi => by rw [show i = 0 by omega]; exact Int.le_refl _⟩
    · obtain ⟨m, h1, h2⟩ := ih (by omega)
      by_cases c : f m ≤ f k
      · exact ⟨m, by omega, fun i hi => by
          by_cases e : i = k
          · subst e; exact c
          · exact h2 i (by omega)⟩
      · exact ⟨k, by omega, fun i hi => by
          by_cases e : i = k
          · subst e; exact Int.le_refl _
          · have := h2 i (by omega); omega⟩
/-! sums closed -/
structure Clo (n : Nat) (S : Mt) : Prop where
  diag : ∀ i, i < n → S i i = some 0
  tri : ∀ i j k a b, i < n → j < n → k < n → S i j = some a → S j k = some b → ∃ c, S i k = some c ∧ c ≤ a + b
theorem Good.clo {n : Nat} {fa : List Ft} {S F : Mt} (g : Good n fa S F) : Clo n S := ⟨g.diag, g.tri⟩
theorem Clo.nn {n : Nat} {S : Mt} (g : Clo n S) {i j : Nat} {a b : Int} (hi : i < n) (hj : j < n) (h1 : S i j = some a) (h2 : S j i = some b) : 0 ≤ a + b := by
  obtain ⟨c, e, h⟩ := g.tri i j i a b hi hj hi h1 h2
  rw [g.diag i hi] at e
  cases e
  exact h
def tiedB (S : Mt) (x r : Nat) : Bool := match S x r, S r x with
  | some a, some b => a + b == 0
  | _, _ => false
theorem tied_iff {S : Mt} {x r : Nat} : tiedB S x r = true ↔ ∃ a, S x r = some a ∧ S r x = some (-a) := by
  unfold tiedB
  cases h1 : S x r with
  | none => simp
  | some a =>
    cases h2 : S r x with
    | none => simp
    | some b =>
      simp only [beq_iff_eq, Option.some.injEq]
      constructor
      · intro h
        exact ⟨a, rfl, by omega⟩
      · rintro ⟨c, e1, e2⟩
        omega
theorem tied_symm {S : Mt} {x r : Nat} (h : tiedB S x r = true) : tiedB S r x = true := by
  obtain ⟨a, h1, h2⟩ := tied_iff.mp h
  exact tied_iff.mpr ⟨-a, h2, by rw [Int.neg_neg]; exact h1⟩
theorem tied_trans {n : Nat} {S : Mt} (g : Clo n S) {x y z : Nat} (hx : x < n) (hy : y < n) (hz : z < n) (h : tiedB S x y = true) (h' : tiedB S y z = true) : tiedB S x z = true := by
  obtain ⟨a, a1, a2⟩ := tied_iff.mp h
  obtain ⟨b, b1, b2⟩ := tied_iff.mp h'
  obtain ⟨c, c1, c2⟩ := g.tri _ _ _ _ _ hx hy hz a1 b1
  obtain ⟨d, d1, d2⟩ := g.tri _ _ _ _ _ hz hy hx b2 a2
  have := g.nn hx hz c1 d1
  exact tied_iff.mpr ⟨c, c1, by rw [d1]; congr 1; omega⟩
/-- the least atom below, tied to this one -/
def rootN (S : Mt) (x : Nat) : Nat → Option Nat
  | 0 => none
  | k + 1 => match rootN S x k with
    | some r => some r
    | none => if tiedB S x k = true then some k else none
theorem rootN_none {S : Mt} {x : Nat} : ∀ {k : Nat}, rootN S x k = none ↔ ∀ r, r < k → tiedB S x r = false := by
  intro k
  induction k with
  | zero => simp [rootN]
  | succ k ih =>
    rw [rootN]
    cases h : rootN S x k with
    | some r =>
      refine ⟨fun z => by simp at z, fun z => ?_⟩
      have := ih.mpr fun r hr => z r (by omega)
      rw [h] at this
      cases this
    | none =>
      have h1 := ih.mp h
      cases ht : tiedB S x k with
      | true =>
        refine ⟨fun z => by simp at z, fun z => ?_⟩
        have := z k (by omega)
        rw [ht] at this
        cases this
      | false =>
        refine ⟨fun _ r hr => ?_, fun _ => by simp⟩
        by_cases e : r = k
        · subst e; exact ht
        · exact h1 r (by omega)
theorem rootN_some {S : Mt} {x r : Nat} : ∀ {k : Nat}, rootN S x k = some r → r < k ∧ tiedB S x r = true ∧ ∀ r', r' < r → tiedB S x r' = false := by
  intro k
  induction k with
  | zero => intro h; simp [rootN] at h
  | succ k ih =>
    intro h
    rw [rootN] at h
    cases h1 : rootN S x k with
    | some r' =>
      rw [h1] at h
      cases h
      obtain ⟨a, b, c⟩ := ih h1
      exact ⟨by omega, b, c⟩
    | none =>
      rw [h1] at h
      cases ht : tiedB S x k with
      | true =>
        rw [ht] at h
        cases h
        exact ⟨by omega, ht, rootN_none.mp h1⟩
      | false =>
        rw [ht] at h
        cases h
def rootB (S : Mt) (x : Nat) : Option Nat := rootN S x x
def tiedL (S : Mt) (k : Nat) : List (Nat × Nat × Int) := (List.range k).filterMap fun x => (rootB S x).map fun r => (x, r, (S x r).getD 0)
theorem tiedL_succ {S : Mt} {k : Nat} : tiedL S (k + 1) = tiedL S k ++ (match rootB S k with
  | some r => [(k, r, (S k r).getD 0)]
  | none => []) := by
  unfold tiedL
  rw [List.range_succ, List.filterMap_append]
  congr 1
  cases h : rootB S k <;> simp [h]
def freeL (S : Mt) (n : Nat) : List Nat := (List.range n).filter fun x => (rootB S x).isNone
/-- the atom that bears another -/
def repr (S : Mt) (x : Nat) : Nat := (rootB S x).getD x
/-- a chosen set of atoms, none tied to another -/
structure Fre (n : Nat) (S : Mt) (k : Nat) (u : Nat → Nat) : Prop where
  lt : ∀ i, i < k → u i < n
  un : ∀ i j, i < k → j < k → i ≠ j → tiedB S (u i) (u j) = false
def tN (S : Mt) (u : Nat → Nat) (p : Nat → Int) (B : Int) (i m : Nat) : Int := ((S (u i) (u m)).getD (B + p (u i)))
theorem pot {n k : Nat} {S : Mt} {u : Nat → Nat} {p : Nat → Int} {M : Int} (g : Clo n S) (f : Fre n S k u) (sp : ∀ i j a, i < n → j < n → S i j = some a → p i - p j ≤ a) (hS' : ∀ i j a, i < n → j < n → S i j = some a → a ≤ M ∧ -M ≤ a) (hp' : ∀ i, i < n → p i ≤ M ∧ -M ≤ p i) (hM0 : 0 ≤ M) :
    ∃ φ : Nat → Int, (∀ i, i < k → φ i ≤ 0 ∧ -(2 * (k * (5 * M + 1))) ≤ φ i) ∧ ∀ i j a, i < k → j < k → i ≠ j → S (u i) (u j) = some a → φ i - φ j ≤ k * a - 1 := by
  obtain ⟨M1, m1e⟩ : ∃ M1 : Int, M1 = M := ⟨M, rfl⟩
  obtain ⟨M2, m2e⟩ : ∃ M2 : Int, M2 = M := ⟨M, rfl⟩
  have h2 : ∀ i, i < k → p (u i) ≤ M2 ∧ -M2 ≤ p (u i) := fun i hi => by rw [m2e]; exact hp' _ (f.lt i hi)
  obtain ⟨B, hB⟩ : ∃ B : Int, B = 2 * M1 + M2 + 1 + M2 := ⟨_, rfl⟩
  obtain ⟨T, hTd⟩ : ∃ T : Nat → Nat → Int, ∀ i m, T i m = tN S u p B i m := ⟨_, fun _ _ => rfl⟩
  have hS : ∀ i j a, i < k → j < k → S (u i) (u j) = some a → a ≤ M1 ∧ -M1 ≤ a := fun i j a hi hj e => by rw [m1e]; exact hS' _ _ a (f.lt i hi) (f.lt j hj) e
  have hT : ∀ i j m a, i < k → j < k → m < k → S (u i) (u j) = some a → T i m ≤ T j m + a := by
    intro i j m a hi hj hm e
    have ha := hS i j a hi hj e
    have pj := h2 j hj
    rw [hTd, hTd]
    unfold tN
    cases e2 : S (u j) (u m) with
    | some b =>
      obtain ⟨c, c1, c2⟩ := g.tri _ _ _ _ _ (f.lt i hi) (f.lt j hj) (f.lt m hm) e e2
      rw [c1]
      simp only [Option.getD_some]
      omega
    | none =>
      cases e3 : S (u i) (u m) with
      | some c =>
        have := hS i m c hi hm e3
        simp only [Option.getD_some, Option.getD_none]
        omega
      | none =>
        have := sp _ _ _ (f.lt i hi) (f.lt j hj) e
        simp only [Option.getD_some, Option.getD_none]
        omega
  have hT1 : ∀ i j a, i < k → j < k → i ≠ j → S (u i) (u j) = some a → T i i ≤ T j i + a - 1 := by
    intro i j a hi hj hne e
    have ha := hS i j a hi hj e
    have pj := h2 j hj
    have pi := h2 i hi
    rw [hTd, hTd]
    unfold tN
    rw [g.diag _ (f.lt i hi)]
    cases e2 : S (u j) (u i) with
    | some b =>
      have nn := g.nn (f.lt i hi) (f.lt j hj) e e2
      have : a + b ≠ 0 := fun z => by
        have := f.un i j hi hj hne
        unfold tiedB at this
        rw [e, e2] at this
        simp only [beq_eq_false_iff_ne, ne_eq] at this
        exact this z
      simp only [Option.getD_some, Option.getD_none]
      omega
    | none =>
      simp only [Option.getD_some, Option.getD_none]
      omega
  have hTb : ∀ i m, i < k → m < k → T i m ≤ 5 * M + 1 ∧ -(5 * M + 1) ≤ T i m := by
    intro i m hi hm
    rw [hTd]
    unfold tN
    have := h2 i hi
    cases e : S (u i) (u m) with
    | none =>
      simp only [Option.getD_none]
      omega
    | some a =>
      have := hS i m a hi hm e
      simp only [Option.getD_some]
      omega
  have h3 : ∀ i, i < k → sm k (T i) ≤ k * (5 * M + 1) ∧ -(k * (5 * M + 1)) ≤ sm k (T i) := fun i hi => by
    have e0 : sm k (fun _ => 0) = 0 := sm_zero fun _ _ => rfl
    have a1 := sm_le (g := fun _ => 0) (a := 5 * M + 1) fun m hm => show T i m ≤ 0 + (5 * M + 1) by have := hTb i m hi hm; omega
    have a2 := sm_le (f := fun _ => 0) (g := T i) (a := 5 * M + 1) fun m hm => show 0 ≤ T i m + (5 * M + 1) by have := hTb i m hi hm; omega
    omega
  refine ⟨fun i => sm k (T i) - k * (5 * M + 1), fun i hi => by have := h3 i hi; dsimp only at this ⊢; omega, fun i j a hi hj hne e => ?_⟩
  have := sm_lt hi (fun m hm => hT i j m a hi hj hm e) (hT1 i j a hi hj hne e)
  dsimp only
  omega
/-! the points -/
section
variable {k : Nat} {v : Nat → Int}
/-- what the program reckons with -/
def sc (k : Nat) (v : Nat → Int) (i : Nat) : Int := (k + 1) * v i + i
def pr (k : Nat) : Int := k * (k + 1)
def tt (k : Nat) (v : Nat → Int) (m : Nat) : Int := (-sc k v m) % pr k
def fm (k : Nat) (v : Nat → Int) (m i : Nat) : Int := (sc k v i + tt k v m) / pr k
theorem pr_pos (h : 0 < k) : 0 < pr k := Int.mul_pos (by omega) (by omega)
theorem sc_le {i j : Nat} {a : Int} (hi : i < k) (h : v i ≤ v j + (k * a - 1)) : sc k v i ≤ sc k v j + a * pr k := by
  unfold sc pr
  have h1 : (k + 1 : Int) * v i ≤ (k + 1) * (v j + (k * a - 1)) := Int.mul_le_mul_of_nonneg_left h (by omega)
  have h2 : (k + 1 : Int) * (v j + (k * a - 1)) = (k + 1) * v j + a * (k * (k + 1)) - (k + 1) := by
    simp only [Int.mul_add, Int.mul_sub, Int.add_mul, Int.mul_one, Int.one_mul]
    have e1 : (k : Int) * (k * a) = a * (k * k) := by rw [Int.mul_comm a, Int.mul_assoc]
    have e2 : (k : Int) * a = a * k := Int.mul_comm _ _
    rw [e1, e2]
    omega
  rw [h2] at h1
  omega
theorem fm_le {i j m : Nat} {a : Int} (hi : i < k) (h : v i ≤ v j + (k * a - 1)) : fm k v m i - fm k v m j ≤ a := by
  have hp : 0 < pr k := pr_pos (by omega)
  have h1 := sc_le hi h
  have h2 : fm k v m i ≤ (sc k v j + tt k v m + a * pr k) / pr k := Int.ediv_le_ediv hp (by omega)
  rw [Int.add_mul_ediv_right _ _ (by omega)] at h2
  unfold fm at h2 ⊢
  omega
/-- remainders -/
def ro (k : Nat) (v : Nat → Int) (i : Nat) : Int := sc k v i % pr k
theorem ro_ne {i j : Nat} (hi : i < k) (hj : j < k) (hne : i ≠ j) : ro k v i ≠ ro k v j := fun z => by
  unfold ro pr at z
  have e : ∀ q, q < k → (sc k v q % (k * (k + 1) : Int)) % (k + 1 : Int) = q := fun q hq => by
    rw [Int.emod_emod_of_dvd _ (Int.dvd_mul_left _ _)]
    unfold sc
    rw [Int.add_comm, Int.add_mul_emod_self_left]
    exact Int.emod_eq_of_lt (by omega) (by omega)
  have h1 := e i hi
  have h2 := e j hj
  rw [z, h2] at h1
  omega
theorem fm_eq {m i : Nat} (hk : 0 < k) : fm k v m i = sc k v i / pr k + (if 0 < ro k v m ∧ ro k v m ≤ ro k v i then 1 else 0) := by
  have hp : 0 < pr k := pr_pos hk
  have r0 := Int.emod_nonneg (sc k v i) (show pr k ≠ 0 by omega)
  have r1 := Int.emod_lt_of_pos (sc k v i) hp
  have s0 := Int.emod_nonneg (sc k v m) (show pr k ≠ 0 by omega)
  have s1 := Int.emod_lt_of_pos (sc k v m) hp
  have e1 := Int.emod_add_mul_ediv (sc k v i) (pr k)
  have e2 := Int.emod_add_mul_ediv (sc k v m) (pr k)
  have ht : tt k v m = if ro k v m = 0 then 0 else pr k - ro k v m := by
    unfold tt ro
    by_cases z : sc k v m % pr k = 0
    · rw [if_pos z]
      rw [z] at e2
      have : -sc k v m = 0 + pr k * (-(sc k v m / pr k)) := by rw [Int.mul_neg]; omega
      rw [this, Int.add_mul_emod_self_left]
      rfl
    · rw [if_neg z]
      have : -sc k v m = (pr k - sc k v m % pr k) + pr k * (-(sc k v m / pr k) - 1) := by rw [Int.mul_sub, Int.mul_neg]; omega
      rw [this, Int.add_mul_emod_self_left]
      exact Int.emod_eq_of_lt (by omega) (by omega)
  have hd : ∀ x q : Int, 0 ≤ x → x < pr k → (x + pr k * q) / pr k = q := fun x q h0 h1 => by
    rw [Int.add_mul_ediv_left _ _ (by omega), Int.ediv_eq_zero_of_lt h0 h1]
    omega
  unfold fm
  rw [ht]
  unfold ro at *
  by_cases z : sc k v m % pr k = 0
  · rw [if_pos z, if_neg (by omega)]
    rw [Int.add_zero, Int.add_zero]
  · rw [if_neg z]
    by_cases c : sc k v m % pr k ≤ sc k v i % pr k
    · rw [if_pos ⟨by omega, c⟩]
      have : sc k v i + (pr k - sc k v m % pr k) = (sc k v i % pr k - sc k v m % pr k) + pr k * (sc k v i / pr k + 1) := by rw [Int.mul_add]; omega
      rw [this]
      exact hd _ _ (by omega) (by omega)
    · rw [if_neg (by omega)]
      have : sc k v i + (pr k - sc k v m % pr k) = (sc k v i % pr k + pr k - sc k v m % pr k) + pr k * (sc k v i / pr k) := by omega
      rw [this, Int.add_zero]
      exact hd _ _ (by omega) (by omega)
/-- the points stand apart -/
theorem kern {c : Nat → Int} {C : Int} (hs : sm k c = 0) (h : ∀ m, m < k → sm k (fun i => c i * fm k v m i) = C) : ∀ i, i < k → c i = 0 := by
  by_cases hk : k = 0
  · intro i hi; omega
  have hk : 0 < k := by omega
  let G : Nat → Int := fun m => sm k (fun i => c i * (if 0 < ro k v m ∧ ro k v m ≤ ro k v i then 1 else 0))
  have hG : ∀ m, m < k → G m = C - sm k (fun i => c i * (sc k v i / pr k)) := fun m hm => by
    have := h m hm
    have e : sm k (fun i => c i * fm k v m i) = sm k (fun i => c i * (sc k v i / pr k) + c i * (if 0 < ro k v m ∧ ro k v m ≤ ro k v i then 1 else 0)) := sm_congr fun i hi => by rw [fm_eq hk, Int.mul_add]
    rw [e, sm_add] at this
    show sm k (fun i => c i * (if 0 < ro k v m ∧ ro k v m ≤ ro k v i then 1 else 0)) = _
    omega
  obtain ⟨m0, hm0, hmin⟩ := argmin (ro k v) k hk
  have g0 : G m0 = 0 := by
    by_cases z : 0 < ro k v m0
    · rw [show G m0 = sm k c from sm_congr fun i hi => by rw [if_pos ⟨z, hmin i hi⟩, Int.mul_one]]
      exact hs
    · exact sm_zero fun i hi => by rw [if_neg (by omega), Int.mul_zero]
  have hG0 : ∀ m, m < k → G m = 0 := fun m hm => by rw [hG m hm, ← hG m0 hm0, g0]
  have hH : ∀ m, m < k → sm k (fun i => if ro k v m ≤ ro k v i then c i else 0) = 0 := fun m hm => by
    by_cases z : 0 < ro k v m
    · refine Eq.trans (sm_congr fun i hi => ?_) (hG0 m hm)
      by_cases q : ro k v m ≤ ro k v i
      · rw [if_pos q, if_pos ⟨z, q⟩, Int.mul_one]
      · rw [if_neg q, if_neg (by omega), Int.mul_zero]
    · refine Eq.trans (sm_congr fun i hi => ?_) hs
      have : 0 ≤ ro k v i := Int.emod_nonneg _ (by have := pr_pos hk; omega)
      rw [if_pos (by omega)]
  have : ∀ N : Nat, ∀ m, m < k → (pr k - ro k v m).toNat ≤ N → c m = 0 := by
    intro N
    induction N with
    | zero =>
      intro m hm hN
      have : ro k v m < pr k := Int.emod_lt_of_pos _ (pr_pos hk)
      omega
    | succ N ih =>
      intro m hm hN
      have := hH m hm
      rw [sm_one (f := fun i => if ro k v m ≤ ro k v i then c i else 0) hm fun i hi hne => ?_, if_pos (Int.le_refl _)] at this
      · exact this
      · by_cases q : ro k v m ≤ ro k v i
        · rw [if_pos q]
          have := ro_ne (v := v) hi hm hne
          have : ro k v m < pr k := Int.emod_lt_of_pos _ (pr_pos hk)
          exact ih i hi (by omega)
        · rw [if_neg q]
  intro i hi
  exact this _ i hi (Nat.le_refl _)
end
/-! the atoms that are free, and the points over all atoms -/
def uo (S : Mt) (n i : Nat) : Nat := (freeL S n).getD i 0
def ko (S : Mt) (n : Nat) : Nat := (freeL S n).length
theorem uo_get {S : Mt} {n i : Nat} (h : i < ko S n) : (freeL S n)[i]? = some (uo S n i) := by
  unfold uo
  rw [List.getD_eq_getElem?_getD, List.getElem?_eq_getElem h]
  rfl
theorem uo_mem {S : Mt} {n i : Nat} (h : i < ko S n) : uo S n i < n ∧ rootB S (uo S n i) = none := by
  have := List.mem_of_getElem? (uo_get h)
  unfold freeL at this
  rw [List.mem_filter, List.mem_range] at this
  exact ⟨this.1, by simpa using this.2⟩
theorem uo_of {S : Mt} {n x : Nat} (h : x < n) (h' : rootB S x = none) : ∃ i, i < ko S n ∧ uo S n i = x := by
  have : x ∈ freeL S n := by
    unfold freeL
    rw [List.mem_filter, List.mem_range]
    exact ⟨h, by rw [h']; rfl⟩
  obtain ⟨i, hi⟩ := List.mem_iff_getElem?.mp this
  have hl := (List.getElem?_eq_some_iff.mp hi).1
  have := uo_get (S := S) (n := n) hl
  rw [hi] at this
  exact ⟨i, hl, (Option.some.inj this).symm⟩
theorem uo_lt {S : Mt} {n i j : Nat} (hij : i < j) (hj : j < ko S n) : uo S n i < uo S n j := by
  have hs : (freeL S n).Pairwise (· < ·) := List.pairwise_lt_range.filter _
  have h1 := uo_get (S := S) (n := n) (i := i) (by omega)
  have h2 := uo_get hj
  have e1 := List.getElem?_eq_some_iff.mp h1
  have e2 := List.getElem?_eq_some_iff.mp h2
  have := List.pairwise_iff_getElem.mp hs i j e1.1 e2.1 hij
  rw [e1.2, e2.2] at this
  exact this
theorem uo_fre {n : Nat} (S : Mt) : Fre n S (ko S n) (uo S n) where
  lt := fun i hi => (uo_mem hi).1
  un := fun i j hi hj hne => by
    by_cases c : i < j
    · have := rootN_none.mp (uo_mem hj).2 _ (uo_lt c hj)
      cases z : tiedB S (uo S n i) (uo S n j) with
      | false => rfl
      | true => rw [tied_symm z] at this; cases this
    · exact rootN_none.mp (uo_mem hi).2 _ (uo_lt (by omega) hi)
theorem uo_inj {S : Mt} {n i j : Nat} (hi : i < ko S n) (hj : j < ko S n) (e : uo S n i = uo S n j) : i = j := by
  by_cases c : i < j
  · have := uo_lt c hj; omega
  · by_cases c' : j < i
    · have := uo_lt c' hi; omega
    · omega
theorem ko_le {S : Mt} {n : Nat} : ko S n ≤ n := by
  unfold ko freeL
  have := List.length_filter_le (fun x => (rootB S x).isNone) (List.range n)
  rw [List.length_range] at this
  exact this
theorem uo_zero {S : Mt} {n : Nat} (h : 0 < n) : 0 < ko S n ∧ uo S n 0 = 0 := by
  obtain ⟨i, hi, e⟩ := uo_of (S := S) h (show rootB S 0 = none from rfl)
  refine ⟨by omega, ?_⟩
  by_cases c : i = 0
  · subst c; exact e
  · have := uo_lt (S := S) (n := n) (i := 0) (by omega) hi
    omega
/-- where an atom stands among the free ones -/
def fi (u : Nat → Nat) : Nat → Nat → Option Nat
  | 0, _ => none
  | k + 1, x => if u k = x then some k else fi u k x
theorem fi_at {u : Nat → Nat} {i : Nat} : ∀ {k : Nat}, i < k → (∀ j, i < j → j < k → u j ≠ u i) → fi u k (u i) = some i := by
  intro k
  induction k with
  | zero => intro h; omega
  | succ k ih =>
    intro h hne
    rw [fi]
    by_cases e : i = k
    · subst e; rw [if_pos rfl]
    · rw [if_neg (hne k (by omega) (by omega))]
      exact ih (by omega) fun j h1 h2 => hne j h1 (by omega)
theorem fi_some {u : Nat → Nat} {i x : Nat} : ∀ {k : Nat}, fi u k x = some i → i < k ∧ u i = x := by
  intro k
  induction k with
  | zero => intro h; simp [fi] at h
  | succ k ih =>
    intro h
    rw [fi] at h
    split at h
    · rename_i e
      cases h
      exact ⟨by omega, e⟩
    · obtain ⟨a, b⟩ := ih h
      exact ⟨by omega, b⟩
theorem fi_uo {S : Mt} {n i : Nat} (h : i < ko S n) : fi (uo S n) (ko S n) (uo S n i) = some i := fi_at h fun j h1 h2 e => by
  have := uo_lt h1 h2
  omega
theorem root_root {n : Nat} {S : Mt} (g : Clo n S) {x r : Nat} (hx : x < n) (h : rootB S x = some r) : r < x ∧ tiedB S x r = true ∧ rootB S r = none := by
  obtain ⟨h1, h2, h3⟩ := rootN_some h
  refine ⟨h1, h2, rootN_none.mpr fun q hq => ?_⟩
  cases z : tiedB S r q with
  | false => rfl
  | true =>
    have := tied_trans g hx (show r < n by omega) (show q < n by omega) h2 z
    rw [h3 q hq] at this
    cases this
def ixo (S : Mt) (n x : Nat) : Nat := (fi (uo S n) (ko S n) x).getD 0
theorem ixo_uo {S : Mt} {n i : Nat} (h : i < ko S n) : ixo S n (uo S n i) = i := by
  unfold ixo
  rw [fi_uo h]
  rfl
/-- the m-th point -/
def bv (S : Mt) (n : Nat) (v : Nat → Int) (m x : Nat) : Int := fm (ko S n) v m (ixo S n x) - fm (ko S n) v m 0
def pv (S : Mt) (n : Nat) (v : Nat → Int) (m x : Nat) : Int := match rootB S x with
  | some r => bv S n v m r + (S x r).getD 0
  | none => bv S n v m x
def LowV (S : Mt) (n : Nat) (v : Nat → Int) : Prop := ∀ i j a, i < ko S n → j < ko S n → i ≠ j → S (uo S n i) (uo S n j) = some a → v i ≤ v j + (ko S n * a - 1)
theorem pv_rep {n : Nat} {S : Mt} {v : Nat → Int} (g : Clo n S) {x : Nat} (hx : x < n) : ∃ (i : Nat) (c : Int), i < ko S n ∧ S x (uo S n i) = some c ∧ S (uo S n i) x = some (-c) ∧ ∀ m, pv S n v m x = fm (ko S n) v m i - fm (ko S n) v m 0 + c := by
  cases h : rootB S x with
  | none =>
    obtain ⟨i, hi, e⟩ := uo_of hx h
    refine ⟨i, 0, hi, by rw [e]; exact g.diag x hx, by rw [e]; exact g.diag x hx, fun m => ?_⟩
    unfold pv bv
    rw [h]
    dsimp only
    rw [← e, ixo_uo hi, Int.add_zero]
  | some r =>
    obtain ⟨h1, h2, h3⟩ := root_root g hx h
    obtain ⟨i, hi, e⟩ := uo_of (S := S) (n := n) (show r < n by omega) h3
    obtain ⟨c, c1, c2⟩ := tied_iff.mp h2
    refine ⟨i, c, hi, by rw [e]; exact c1, by rw [e]; exact c2, fun m => ?_⟩
    unfold pv bv
    rw [h]
    dsimp only
    rw [← e, ixo_uo hi, e, c1]
    rfl
theorem pv_sol {n : Nat} {S : Mt} {v : Nat → Int} (g : Clo n S) (lv : LowV S n v) (m : Nat) {x y : Nat} {a : Int} (hx : x < n) (hy : y < n) (h : S x y = some a) : pv S n v m x - pv S n v m y ≤ a := by
  obtain ⟨i, c, hi, c1, c2, c3⟩ := pv_rep (v := v) g hx
  obtain ⟨j, d, hj, d1, d2, d3⟩ := pv_rep (v := v) g hy
  have ui := (uo_mem hi).1
  have uj := (uo_mem hj).1
  obtain ⟨p, p1, p2⟩ := g.tri _ _ _ _ _ ui hx hy c2 h
  obtain ⟨q, q1, q2⟩ := g.tri _ _ _ _ _ ui hy uj p1 d1
  rw [c3, d3]
  by_cases e : i = j
  · subst e
    rw [g.diag _ ui] at q1
    cases q1
    omega
  · have := fm_le (m := m) hi (lv i j q hi hj e q1)
    omega
theorem pv_zero {n : Nat} {S : Mt} {v : Nat → Int} (h : 0 < n) (m : Nat) : pv S n v m 0 = 0 := by
  unfold pv
  rw [show rootB S 0 = none from rfl]
  dsimp only
  unfold bv
  have := ixo_uo (S := S) (n := n) (uo_zero h).1
  rw [(uo_zero h).2] at this
  rw [this]
  omega
/-- only the form without a free atom is the same at all points -/
theorem pv_apart {n : Nat} {S : Mt} {v : Nat → Int} {c : Nat → Int} {C : Int} (h : ∀ m, m < ko S n → sm (ko S n) (fun i => c i * pv S n v m (uo S n i)) = C) : ∀ i, 0 < i → i < ko S n → c i = 0 := by
  intro i h0 hi
  have hk : 0 < ko S n := by omega
  have e : ∀ m q, q < ko S n → pv S n v m (uo S n q) = fm (ko S n) v m q - fm (ko S n) v m 0 := fun m q hq => by
    unfold pv bv
    rw [(uo_mem hq).2]
    dsimp only
    rw [ixo_uo hq]
  let c' : Nat → Int := fun q => if q = 0 then c 0 - sm (ko S n) c else c q
  have hs : sm (ko S n) c' = 0 := by
    have := sm_upd (v := c) (x := c 0 - sm (ko S n) c) hk
    show sm (ko S n) (fun t => if t = 0 then c 0 - sm (ko S n) c else c t) = 0
    omega
  have := kern (v := v) (C := C) hs fun m hm => ?_
  · have := this i hi
    show c i = 0
    have e2 : c' i = c i := if_neg (by omega)
    rw [← e2]
    exact this
  · have h1 := h m hm
    have e3 : sm (ko S n) (fun i => c i * pv S n v m (uo S n i)) = sm (ko S n) (fun i => c i * fm (ko S n) v m i) - sm (ko S n) c * fm (ko S n) v m 0 := by
      rw [← sm_mul, ← sm_sub]
      exact sm_congr fun q hq => by rw [e m q hq, Int.mul_sub]
    have e4 : sm (ko S n) (fun i => c' i * fm (ko S n) v m i) = sm (ko S n) (fun i => c i * fm (ko S n) v m i) - c 0 * fm (ko S n) v m 0 + c' 0 * fm (ko S n) v m 0 := by
      have := sm_upd (v := fun i => c i * fm (ko S n) v m i) (x := c' 0 * fm (ko S n) v m 0) hk
      rw [← this]
      refine sm_congr fun q hq => ?_
      by_cases z : q = 0
      · subst z; rw [if_pos rfl]
      · rw [if_neg z]
        show (if q = 0 then c 0 - sm (ko S n) c else c q) * _ = _
        rw [if_neg z]
    rw [e4]
    have e5 : c' 0 = c 0 - sm (ko S n) c := if_pos rfl
    rw [e5, Int.sub_mul]
    omega
end Wy

/-! plain sums: rows whose sums tell all factors, and how they are made triangular -/
namespace Wy
def Kt (K w : Nat) (A : Nat → Nat → Int) : Prop := ∀ c : Nat → Int, (∀ i, i < K → sm w (fun j => c j * A i j) = 0) → ∀ j, j < w → c j = 0
theorem ker_piv {K w t : Nat} {A : Nat → Nat → Int} (kt : Kt K w A) (ht : t < w) (up : ∀ i j, i < t → j < i → A i j = 0) (pv : ∀ i, i < t → A i i ≠ 0) (lo : ∀ i j, t ≤ i → i < K → j < t → A i j = 0) : ∃ i, t ≤ i ∧ i < K ∧ A i t ≠ 0 := by
  apply Classical.byContradiction
  intro no
  have z : ∀ i, t ≤ i → i < K → A i t = 0 := fun i h1 h2 => Classical.byContradiction fun h3 => no ⟨i, h1, h2, h3⟩
  have : ∀ q, q ≤ t → ∃ c : Nat → Int, c t ≠ 0 ∧ (∀ j, t < j → c j = 0) ∧ ∀ i, t - q ≤ i → i < t → sm w (fun j => c j * A i j) = 0 := by
    intro q
    induction q with
    | zero =>
      intro _
      exact ⟨fun j => if j = t then 1 else 0, by simp, fun j hj => if_neg (by omega), fun i h1 h2 => by omega⟩
    | succ q ih =>
      intro hq
      obtain ⟨c, c0, c1, c2⟩ := ih (by omega)
      have hi0 : t - q - 1 < t := by omega
      generalize hi : t - q - 1 = i0 at hi0
      obtain ⟨e, he⟩ : ∃ e, e = sm w (fun j => c j * A i0 j) := ⟨_, rfl⟩
      have hd : ∀ i, sm w (fun j => (if j = i0 then A i0 i0 * c i0 - e else A i0 i0 * c j) * A i j) = A i0 i0 * sm w (fun j => c j * A i j) - e * A i i0 := fun i => by
        have h1 := sm_upd (k := w) (i := i0) (v := fun j => (c j * A i j) * A i0 i0) (x := (A i0 i0 * c i0 - e) * A i i0) (by omega)
        rw [sm_mul] at h1
        have h2 : sm w (fun j => (if j = i0 then A i0 i0 * c i0 - e else A i0 i0 * c j) * A i j) = sm w (fun t => if t = i0 then (A i0 i0 * c i0 - e) * A i i0 else (c t * A i t) * A i0 i0) := sm_congr fun j _ => by
          by_cases q : j = i0
          · subst q; rw [if_pos rfl, if_pos rfl]
          · rw [if_neg q, if_neg q, Int.mul_comm (A i0 i0), Int.mul_assoc, Int.mul_assoc, Int.mul_comm (A i0 i0)]
        rw [h2, h1, Int.sub_mul, Int.mul_comm (sm w fun j => c j * A i j)]
        have : c i0 * A i i0 * A i0 i0 = A i0 i0 * c i0 * A i i0 := by rw [Int.mul_comm _ (A i0 i0), Int.mul_assoc]
        rw [this]
        omega
      refine ⟨fun j => if j = i0 then A i0 i0 * c i0 - e else A i0 i0 * c j, ?_, fun j hj => ?_, fun i h1 h2 => ?_⟩
      · dsimp only
        rw [if_neg (by omega)]
        exact Int.mul_ne_zero (pv i0 hi0) c0
      · dsimp only
        rw [if_neg (by omega), c1 j hj, Int.mul_zero]
      · dsimp only
        rw [hd i]
        by_cases q2 : i = i0
        · subst q2
          rw [← he, Int.mul_comm]
          omega
        · rw [c2 i (by omega) h2, up i i0 h2 (by omega), Int.mul_zero, Int.mul_zero]
          rfl
  obtain ⟨c, c0, c1, c2⟩ := this t (Nat.le_refl _)
  refine c0 (kt c (fun i hi => ?_) t ht)
  by_cases h : i < t
  · exact c2 i (by omega) h
  · refine sm_zero fun j hj => ?_
    by_cases h1 : j < t
    · rw [lo i j (by omega) hi h1, Int.mul_zero]
    · by_cases h2 : j = t
      · subst h2
        rw [z i (by omega) hi, Int.mul_zero]
      · rw [c1 j (by omega), Int.zero_mul]
def swA (A : Nat → Nat → Int) (p q : Nat) : Nat → Nat → Int := fun i => if i = q then A p else if i = p then A q else A i
theorem Kt.swap {K w p q : Nat} {A : Nat → Nat → Int} (kt : Kt K w A) (hp : p < K) (hq : q < K) : Kt K w (swA A p q) := by
  intro c h
  refine kt c fun i hi => ?_
  by_cases e1 : i = p
  · subst e1
    have := h q hq
    unfold swA at this
    rw [if_pos rfl] at this
    exact this
  · by_cases e2 : i = q
    · subst e2
      have := h p hp
      unfold swA at this
      rw [if_neg (Ne.symm e1), if_pos rfl] at this
      exact this
    · have := h i hi
      unfold swA at this
      rw [if_neg e2, if_neg e1] at this
      exact this
def elA (A : Nat → Nat → Int) (t k : Nat) : Nat → Nat → Int := fun i => if i = k then fun j => A k j * A t t - A t j * A k t else A i
theorem Kt.elim {K w t k : Nat} {A : Nat → Nat → Int} (kt : Kt K w A) (ht : t < K) (hk : k < K) (hne : k ≠ t) (hp : A t t ≠ 0) : Kt K w (elA A t k) := by
  intro c h
  have ht0 : sm w (fun j => c j * A t j) = 0 := by
    have := h t ht
    unfold elA at this
    rw [if_neg (Ne.symm hne)] at this
    exact this
  refine kt c fun i hi => ?_
  by_cases e : i = k
  · subst e
    have := h i hi
    unfold elA at this
    rw [if_pos rfl] at this
    have e2 : sm w (fun j => c j * (A i j * A t t - A t j * A i t)) = sm w (fun j => c j * A i j) * A t t - sm w (fun j => c j * A t j) * A i t := by
      rw [← sm_mul, ← sm_mul, ← sm_sub]
      exact sm_congr fun j _ => by rw [Int.mul_sub, Int.mul_assoc, Int.mul_assoc]
    rw [e2, ht0, Int.zero_mul, Int.sub_zero] at this
    exact (Int.mul_eq_zero.mp this).resolve_right hp
  · have := h i hi
    unfold elA at this
    rw [if_neg e] at this
    exact this
/-! how large the numbers grow -/
def Bq : Nat → Int
  | 0 => 2
  | t + 1 => 2 * (Bq t * Bq t)
theorem Bq_pos : ∀ t, 2 ≤ Bq t
  | 0 => by decide
  | t + 1 => by
    have h := Bq_pos t
    have : 2 * 2 ≤ Bq t * Bq t := Int.mul_le_mul h h (by decide) (by omega)
    show 2 ≤ 2 * (Bq t * Bq t)
    omega
theorem Bq_up (t : Nat) : Bq t ≤ Bq (t + 1) := by
  have h := Bq_pos t
  have : Bq t * 1 ≤ Bq t * Bq t := Int.mul_le_mul_of_nonneg_left (by omega) (by omega)
  show Bq t ≤ 2 * (Bq t * Bq t)
  omega
theorem Bq_le {t : Nat} : ∀ {u : Nat}, t ≤ u → Bq t ≤ Bq u := by
  intro u
  induction u with
  | zero => intro h; rw [show t = 0 by omega]; exact Int.le_refl _
  | succ u ih =>
    intro h
    by_cases e : t = u + 1
    · rw [e]; exact Int.le_refl _
    · exact Int.le_trans (ih (by omega)) (Bq_up u)
def InB (b x : Int) : Prop := -b ≤ x ∧ x ≤ b
theorem InB.mono {b b' x : Int} (h : InB b x) (hb : b ≤ b') : InB b' x := ⟨by have := h.1; omega, by have := h.2; omega⟩
theorem InB.mul {b x y : Int} (hb : 0 ≤ b) (h : InB b x) (h' : InB b y) : InB (b * b) (x * y) := by
  have hx : (x.natAbs : Int) ≤ b := by have := h.1; have := h.2; omega
  have hy : (y.natAbs : Int) ≤ b := by have := h'.1; have := h'.2; omega
  have : (x.natAbs : Int) * y.natAbs ≤ b * b := Int.mul_le_mul hx hy (by omega) hb
  have e : ((x * y).natAbs : Int) = x.natAbs * y.natAbs := by rw [Int.natAbs_mul]; rfl
  rw [← e] at this
  exact ⟨by omega, by omega⟩
theorem InB.el {t : Nat} {a b c d : Int} (ha : InB (Bq t) a) (hb : InB (Bq t) b) (hc : InB (Bq t) c) (hd : InB (Bq t) d) : InB (Bq (t + 1)) (a * b - c * d) := by
  have h := Bq_pos t
  have h1 := ha.mul (by omega) hb
  have h2 := hc.mul (by omega) hd
  show InB (2 * (Bq t * Bq t)) _
  exact ⟨by have := h1.1; have := h2.2; omega, by have := h1.2; have := h2.1; omega⟩
theorem InB.log {t : Nat} (ht : t ≤ 12) {x : Int} (h : InB (Bq t) x) : x.natAbs.log2 < 10000 := by
  have h1 := h.mono (Bq_le ht)
  have h2 : x.natAbs ≤ (Bq 12).natAbs := by have := h1.1; have := h1.2; omega
  have h3 : (Bq 12).natAbs < 2 ^ 10000 := by decide +kernel
  by_cases z : x.natAbs = 0
  · rw [z]; decide
  · exact (Nat.log2_lt z).mpr (Nat.lt_of_le_of_lt h2 h3)
end Wy

/-! plain sums: chains, rings and grids of differences -/
namespace Wy
theorem Good.eq_some {n : Nat} {fa : List Ft} {S F : Mt} (g : Good n fa S F) {x y : Nat} {a : Int} (hx : x < n) (hy : y < n) (w : Way fa x y a) (lo : ∀ b, Way fa x y b → a ≤ b) : S x y = some a := by
  obtain ⟨c, h1, h2⟩ := g.least hx hy w
  have := lo c (g.way x y c hx hy h1)
  rw [h1]
  congr 1
  omega
theorem Good.eq_none {n : Nat} {fa : List Ft} {S F : Mt} (g : Good n fa S F) {x y : Nat} (hx : x < n) (hy : y < n) (no : ∀ b, ¬ Way fa x y b) : S x y = none := by
  cases h : S x y with
  | none => rfl
  | some a => exact absurd (g.way x y a hx hy h) (no a)
/-- places that stand apart -/
structure Pl (n : Nat) (pl ix : Nat → Nat) : Prop where
  lt : ∀ k, k < n → pl k < n
  ix : ∀ k, k < n → ix (pl k) = k
theorem Pl.inj {n : Nat} {pl ix : Nat → Nat} (P : Pl n pl ix) {i j : Nat} (hi : i < n) (hj : j < n) (e : pl i = pl j) : i = j := by
  rw [← P.ix i hi, ← P.ix j hj, e]
/-- facts that go up along the places -/
def UpF (n : Nat) (pl : Nat → Nat) (su : Nat → Int) (f : Ft) : Prop := ∃ i j, i < j ∧ j < n ∧ f.1 = pl i ∧ f.2.1 = pl j ∧ su j - su i ≤ f.2.2
def ClF (n : Nat) (pl : Nat → Nat) (su : Nat → Int) (c : Int) : Ft := (pl (n - 1), pl 0, c - su (n - 1))
section
variable {n : Nat} {pl ix : Nat → Nat} {su : Nat → Int} {fa : List Ft}
/-- the sums along the places are a point -/
theorem up_sol (P : Pl n pl ix) (h : ∀ f ∈ fa, UpF n pl su f) : Sol (fun x => -su (ix x)) fa := fun f hf => by
  obtain ⟨i, j, hij, hj, e1, e2, e3⟩ := h f hf
  dsimp only
  rw [e1, e2, P.ix i (by omega), P.ix j hj]
  omega
theorem cl_sol (P : Pl n pl ix) (hn : 0 < n) {c : Int} (h0 : su 0 = 0) (hc : 0 ≤ c) (h : ∀ f ∈ fa, UpF n pl su f ∨ f = ClF n pl su c) (q : Nat) (hq : 0 < q) (hqn : q < n) : Sol (fun x => -su (ix x) + if q ≤ ix x then c else 0) fa := fun f hf => by
  dsimp only
  rcases h f hf with ⟨i, j, hij, hj, e1, e2, e3⟩ | rfl
  · rw [e1, e2, P.ix i (by omega), P.ix j hj]
    by_cases a : q ≤ i
    · rw [if_pos a, if_pos (by omega)]
      omega
    · rw [if_neg a]
      split <;> omega
  · unfold ClF
    dsimp only
    rw [P.ix _ (by omega), P.ix 0 hn, if_pos (by omega), if_neg (by omega), h0]
    omega
theorem cl_sol0 (P : Pl n pl ix) (hn : 0 < n) {c : Int} (h0 : su 0 = 0) (hc : 0 ≤ c) (h : ∀ f ∈ fa, UpF n pl su f ∨ f = ClF n pl su c) : Sol (fun x => -su (ix x)) fa := fun f hf => by
  dsimp only
  rcases h f hf with ⟨i, j, hij, hj, e1, e2, e3⟩ | rfl
  · rw [e1, e2, P.ix i (by omega), P.ix j hj]
    omega
  · unfold ClF
    dsimp only
    rw [P.ix _ (by omega), P.ix 0 hn, h0]
    omega
/-- a way along the places -/
theorem up_way (h : ∀ k, k + 1 < n → (pl k, pl (k + 1), su (k + 1) - su k) ∈ fa) {i : Nat} : ∀ {j : Nat}, i ≤ j → j < n → Way fa (pl i) (pl j) (su j - su i) := by
  intro j
  induction j with
  | zero =>
    intro hij _
    have : i = 0 := by omega
    subst this
    rw [Int.sub_self]
    exact .nil _
  | succ j ih =>
    intro hij hj
    by_cases e : i = j + 1
    · subst e
      rw [Int.sub_self]
      exact .nil _
    · have := (ih (by omega) (by omega)).app (Way.one (h j hj))
      rw [show su (j + 1) - su i = su j - su i + (su (j + 1) - su j) by omega]
      exact this
theorem up_only (P : Pl n pl ix) (h : ∀ f ∈ fa, UpF n pl su f) {x y : Nat} {a : Int} (w : Way fa x y a) : x = y ∨ ix x < ix y := by
  induction w with
  | nil i => exact .inl rfl
  | cons hm w ih =>
    obtain ⟨i, j, hij, hj, e1, e2, e3⟩ := h _ hm
    dsimp only at e1 e2
    right
    have h1 := P.ix i (by omega)
    have h2 := P.ix j hj
    rw [← e1] at h1
    rw [← e2] at h2
    rcases ih with ih | ih
    · rw [← ih]; omega
    · omega
/-- least sums without a closing difference -/
theorem up_S {S F : Mt} (P : Pl n pl ix) (h : ∀ f ∈ fa, UpF n pl su f) (h' : ∀ k, k + 1 < n → (pl k, pl (k + 1), su (k + 1) - su k) ∈ fa) (g : Good n fa S F) {i j : Nat} (hi : i < n) (hj : j < n) : S (pl i) (pl j) = if i ≤ j then some (su j - su i) else none := by
  by_cases c : i ≤ j
  · rw [if_pos c]
    refine g.eq_some (P.lt i hi) (P.lt j hj) (up_way h' c hj) fun b w => ?_
    have := w.sol (up_sol P h)
    rw [P.ix i hi, P.ix j hj] at this
    omega
  · rw [if_neg c]
    refine g.eq_none (P.lt i hi) (P.lt j hj) fun b w => ?_
    rcases up_only P h w with e | e
    · have := P.inj hi hj e; omega
    · rw [P.ix i hi, P.ix j hj] at e
      omega
/-- least sums with one -/
theorem cl_S {S F : Mt} (P : Pl n pl ix) (hn : 0 < n) {c : Int} (h0 : su 0 = 0) (hc : 0 ≤ c) (h : ∀ f ∈ fa, UpF n pl su f ∨ f = ClF n pl su c) (h' : ∀ k, k + 1 < n → (pl k, pl (k + 1), su (k + 1) - su k) ∈ fa) (hcl : ClF n pl su c ∈ fa) (g : Good n fa S F) {i j : Nat} (hi : i < n) (hj : j < n) :
    S (pl i) (pl j) = if i ≤ j then some (su j - su i) else some (su j - su i + c) := by
  by_cases e : i ≤ j
  · rw [if_pos e]
    refine g.eq_some (P.lt i hi) (P.lt j hj) (up_way h' e hj) fun b w => ?_
    have := w.sol (cl_sol0 P hn h0 hc h)
    rw [P.ix i hi, P.ix j hj] at this
    omega
  · rw [if_neg e]
    refine g.eq_some (P.lt i hi) (P.lt j hj) ?_ fun b w => ?_
    · have h1 := up_way (su := su) (pl := pl) h' (show i ≤ n - 1 by omega) (by omega)
      have h2 := Way.one hcl
      have h3 := up_way (su := su) (pl := pl) h' (Nat.zero_le j) hj
      have := (h1.app h2).app h3
      rw [h0] at this
      rw [show su j - su i + c = su (n - 1) - su i + (c - su (n - 1)) + (su j - 0) by omega]
      exact this
    · have := w.sol (cl_sol P hn h0 hc h i (by omega) hi)
      rw [P.ix i hi, P.ix j hj, if_pos (Nat.le_refl _), if_neg (by omega)] at this
      omega
end
end Wy

/-! chains, rings and grids: ties, points apart, places around -/
namespace Wy
theorem sm_pick {k i : Nat} {f : Nat → Int} (hi : i < k) : sm k (fun t => (if t = i then 1 else 0) * f t) = f i := by
  rw [sm_one hi fun t _ ht => by rw [if_neg ht, Int.zero_mul], if_pos rfl, Int.one_mul]
/-- two free atoms have no fixed difference -/
theorem fm_apart {k i i' : Nat} {v : Nat → Int} {C : Int} (hi : i < k) (hi' : i' < k) (hne : i ≠ i') : ¬ ∀ m, m < k → fm k v m i - fm k v m i' = C := fun h => by
  have := kern (k := k) (v := v) (c := fun t => (if t = i then 1 else 0) - (if t = i' then 1 else 0)) (C := C) (by
    rw [sm_sub, show (fun t : Nat => if t = i then (1 : Int) else 0) = fun t => (if t = i then 1 else 0) * 1 by funext t; omega, sm_pick hi, show (fun t : Nat => if t = i' then (1 : Int) else 0) = fun t => (if t = i' then 1 else 0) * 1 by funext t; omega, sm_pick hi']
    omega) (fun m hm => by
    have e : (fun t => ((if t = i then (1 : Int) else 0) - (if t = i' then 1 else 0)) * fm k v m t) = fun t => (if t = i then 1 else 0) * fm k v m t - (if t = i' then 1 else 0) * fm k v m t := by
      funext t
      rw [Int.sub_mul]
    rw [e, sm_sub, sm_pick hi, sm_pick hi']
    exact h m hm) i hi
  rw [if_pos rfl, if_neg hne] at this
  omega
theorem pv_part {n : Nat} {S : Mt} {v : Nat → Int} (g : Clo n S) {x y : Nat} {C : Int} (hx : x < n) (hy : y < n) (nt : tiedB S x y = false) : ¬ ∀ m, m < ko S n → pv S n v m x - pv S n v m y = C := fun h => by
  obtain ⟨i, c, hi, c1, c2, c3⟩ := pv_rep (v := v) g hx
  obtain ⟨i', c', hi', d1, d2, d3⟩ := pv_rep (v := v) g hy
  by_cases e : i = i'
  · subst e
    have u := (uo_mem hi).1
    obtain ⟨a, a1, a2⟩ := g.tri x (uo S n i) y c (-c') hx u hy c1 d2
    obtain ⟨b, b1, b2⟩ := g.tri y (uo S n i) x c' (-c) hy u hx d1 c2
    have := g.nn hx hy a1 b1
    have : tiedB S x y = true := tied_iff.mpr ⟨a, a1, by rw [b1]; congr 1; omega⟩
    rw [nt] at this
    cases this
  · refine fm_apart (v := v) (C := C - c + c') hi hi' e fun m hm => ?_
    have := h m hm
    rw [c3, d3] at this
    omega
/-- what closes a chain -/
def lowV (su : Nat → Int) (cl : Option Int) (i j : Nat) : Option Int := if i ≤ j then some (su j - su i) else match cl with
  | none => none
  | some c => some (su j - su i + c)
structure ChF (n : Nat) (pl : Nat → Nat) (su : Nat → Int) (cl : Option Int) (fa : List Ft) : Prop where
  up : ∀ f ∈ fa, UpF n pl su f ∨ ∃ c, cl = some c ∧ f = ClF n pl su c
  ch : ∀ k, k + 1 < n → (pl k, pl (k + 1), su (k + 1) - su k) ∈ fa
  clo : ∀ c, cl = some c → ClF n pl su c ∈ fa
section
variable {n : Nat} {pl ix : Nat → Nat} {su : Nat → Int} {fa : List Ft} {cl : Option Int}
theorem ch_sol (P : Pl n pl ix) (hn : 0 < n) (h0 : su 0 = 0) (hc : ∀ c, cl = some c → 0 ≤ c) (h : ChF n pl su cl fa) : Sol (fun x => -su (ix x)) fa := by
  cases cl with
  | none => exact up_sol P fun f hf => (h.up f hf).elim id fun ⟨c, z, _⟩ => by cases z
  | some c => exact cl_sol0 P hn h0 (hc c rfl) fun f hf => (h.up f hf).imp id fun ⟨c', z, e⟩ => by cases z; exact e
theorem ch_S {S F : Mt} (P : Pl n pl ix) (hn : 0 < n) (h0 : su 0 = 0) (hc : ∀ c, cl = some c → 0 ≤ c) (h : ChF n pl su cl fa) (g : Good n fa S F) {i j : Nat} (hi : i < n) (hj : j < n) : S (pl i) (pl j) = lowV su cl i j := by
  unfold lowV
  cases cl with
  | none => exact up_S P (fun f hf => (h.up f hf).elim id fun ⟨c, z, _⟩ => by cases z) h.ch g hi hj
  | some c => exact cl_S P hn h0 (hc c rfl) (fun f hf => (h.up f hf).imp id fun ⟨c', z, e⟩ => by cases z; exact e) h.ch (h.clo c rfl) g hi hj
theorem ch_part {S F : Mt} (P : Pl n pl ix) (hn : 0 < n) (h0 : su 0 = 0) (hc : ∀ c, cl = some c → 0 ≤ c) (hc0 : cl ≠ some 0) (h : ChF n pl su cl fa) (g : Good n fa S F) {i j : Nat} (hi : i < n) (hj : j < n) (hne : i ≠ j) : tiedB S (pl i) (pl j) = false := by
  cases e : tiedB S (pl i) (pl j) with
  | false => rfl
  | true =>
    obtain ⟨a, a1, a2⟩ := tied_iff.mp e
    rw [ch_S P hn h0 hc h g hi hj] at a1
    rw [ch_S P hn h0 hc h g hj hi] at a2
    unfold lowV at a1 a2
    cases cl with
    | none =>
      by_cases q : i ≤ j
      · rw [if_neg (by omega)] at a2
        cases a2
      · rw [if_neg q] at a1
        cases a1
    | some c =>
      have := hc c rfl
      have : c ≠ 0 := fun z => hc0 (by rw [z])
      by_cases q : i ≤ j
      · rw [if_pos q] at a1
        rw [if_neg (by omega)] at a2
        dsimp only at a2
        have := Option.some.inj a1
        have := Option.some.inj a2
        omega
      · rw [if_neg q] at a1
        rw [if_pos (by omega)] at a2
        dsimp only at a1
        have := Option.some.inj a1
        have := Option.some.inj a2
        omega
theorem fm_map {α β : Type} {g : α → Option β} {f : α → β} : ∀ l : List α, (∀ x ∈ l, g x = some (f x)) → l.filterMap g = l.map f
  | [], _ => rfl
  | a :: l, h => by
    rw [List.filterMap_cons, h a (by simp), List.map_cons, fm_map l fun x hx => h x (by simp [hx])]
/-- every atom has its place -/
def Onto (n : Nat) (pl ix : Nat → Nat) : Prop := ∀ x, x < n → ix x < n ∧ pl (ix x) = x
theorem tiedL_none {S : Mt} (h : ∀ x y, x < n → y < n → x ≠ y → tiedB S x y = false) : tiedL S n = [] := by
  unfold tiedL
  rw [List.filterMap_eq_nil_iff]
  intro x hx
  have hx := List.mem_range.mp hx
  have : rootB S x = none := rootN_none.mpr fun r hr => h x r hx (by omega) (by omega)
  rw [this]
  rfl
theorem tiedL_ch {S F : Mt} (P : Pl n pl ix) (O : Onto n pl ix) (hn : 0 < n) (h0 : su 0 = 0) (hc : ∀ c, cl = some c → 0 ≤ c) (h : ChF n pl su cl fa) (g : Good n fa S F) : tiedL S n = if cl = some 0 then (List.range (n - 1)).map fun k => (k + 1, 0, su (ix 0) - su (ix (k + 1))) else [] := by
  by_cases e : cl = some 0
  · rw [if_pos e]
    subst e
    have hS : ∀ x y, x < n → y < n → S x y = some (su (ix y) - su (ix x)) := fun x y hx hy => by
      obtain ⟨x1, x2⟩ := O x hx
      obtain ⟨y1, y2⟩ := O y hy
      have := ch_S P hn h0 hc h g x1 y1
      rw [x2, y2] at this
      rw [this]
      unfold lowV
      split
      · rfl
      · dsimp only
        rw [Int.add_zero]
    have hr : ∀ x, x < n → rootB S x = if x = 0 then none else some 0 := fun x hx => by
      by_cases z : x = 0
      · subst z; rfl
      · rw [if_neg z]
        cases e : rootB S x with
        | none =>
          have := rootN_none.mp e 0 (by omega)
          rw [tied_iff.mpr ⟨_, hS x 0 hx hn, by rw [hS 0 x hn hx]; congr 1; omega⟩] at this
          cases this
        | some r =>
          obtain ⟨r1, r2, r3⟩ := rootN_some e
          by_cases c : r = 0
          · rw [c]
          · have := r3 0 (by omega)
            rw [tied_iff.mpr ⟨_, hS x 0 hx hn, by rw [hS 0 x hn hx]; congr 1; omega⟩] at this
            cases this
    unfold tiedL
    obtain ⟨k, rfl⟩ : ∃ k, n = k + 1 := ⟨n - 1, by omega⟩
    rw [Nat.add_sub_cancel, List.range_succ_eq_map, List.filterMap_cons, hr 0 hn, if_pos rfl, Option.map_none]
    dsimp only
    rw [List.filterMap_map]
    refine fm_map _ fun x hx => ?_
    have hx := List.mem_range.mp hx
    show (rootB S (x + 1)).map _ = _
    rw [hr _ (by omega), if_neg (by omega), Option.map_some, hS _ _ (by omega) hn]
    rfl
  · rw [if_neg e]
    refine tiedL_none fun x y hx hy hne => ?_
    obtain ⟨x1, x2⟩ := O x hx
    obtain ⟨y1, y2⟩ := O y hy
    have := ch_part P hn h0 hc e h g x1 y1 (fun z => hne (by rw [← x2, ← y2, z]))
    rwa [x2, y2] at this
/-- a ring below nothing has no point -/
theorem neg_ring (hn : 0 < n) (h0 : su 0 = 0) (ch : ∀ k, k + 1 < n → (pl k, pl (k + 1), su (k + 1) - su k) ∈ fa) (cl : ClF n pl su (-1) ∈ fa) : ∀ p, ¬ Sol p fa := fun p hp => by
  have h1 := up_way (su := su) (pl := pl) ch (Nat.zero_le (n - 1)) (by omega)
  have := (h1.app (Way.one cl)).sol hp
  omega
end
/-- a grid: facts go up, each atom is met at its best -/
structure GrF (n : Nat) (be : Nat → Int) (fa : List Ft) : Prop where
  up : ∀ f ∈ fa, f.1 < f.2.1 ∧ f.2.1 < n ∧ be f.2.1 ≤ be f.1 + f.2.2
  at_ : ∀ k, 0 < k → k < n → ∃ x m, (x, k, m) ∈ fa ∧ be k = be x + m
  b0 : be 0 = 0
section
variable {n : Nat} {be : Nat → Int} {fa : List Ft}
theorem gr_sol (h : GrF n be fa) : Sol (fun x => -be x) fa := fun f hf => by
  have := h.up f hf
  dsimp only
  omega
theorem gr_way (h : GrF n be fa) : ∀ k, k < n → Way fa 0 k (be k) := fun k => by
  induction k using Nat.strongRecOn with
  | ind k ih =>
    intro hk
    by_cases z : k = 0
    · subst z; rw [h.b0]; exact .nil 0
    · obtain ⟨x, m, hf, e⟩ := h.at_ k (by omega) hk
      have := h.up _ hf
      dsimp only at this
      rw [e]
      exact (ih x (by omega) (by omega)).app (.one hf)
theorem gr_S0 {S F : Mt} (h : GrF n be fa) (g : Good n fa S F) (hn : 0 < n) {k : Nat} (hk : k < n) : S 0 k = some (be k) := g.eq_some hn hk (gr_way h k hk) fun b w => by
  have := w.sol (gr_sol h)
  have := h.b0
  omega
theorem gr_up (h : GrF n be fa) {x y : Nat} {a : Int} (w : Way fa x y a) : x ≤ y := by
  induction w with
  | nil i => exact Nat.le_refl _
  | cons f w ih =>
    have := (h.up _ f).1
    dsimp only at this
    omega
theorem gr_none {S F : Mt} (h : GrF n be fa) (g : Good n fa S F) {x y : Nat} (hx : x < n) (hy : y < n) (hxy : y < x) : S x y = none := g.eq_none hx hy fun b w => by
  have := gr_up h w
  omega
theorem gr_part {S F : Mt} (h : GrF n be fa) (g : Good n fa S F) {x y : Nat} (hx : x < n) (hy : y < n) (hne : x ≠ y) : tiedB S x y = false := by
  cases e : tiedB S x y with
  | false => rfl
  | true =>
    obtain ⟨a, a1, a2⟩ := tied_iff.mp e
    by_cases c : y < x
    · rw [gr_none h g hx hy c] at a1
      cases a1
    · rw [gr_none h g hy hx (by omega)] at a2
      cases a2
end
/-! places around -/
theorem step_inj {n st a k k' : Nat} (hst : st = 1 ∨ ((st = 7 ∨ st = 5 ∨ st = 3 ∨ st = 2) ∧ n % st ≠ 0)) (hk : k < n) (hk' : k' < n) (e : (a + st * k) % n = (a + st * k') % n) : k = k' := by
  have key : ∀ k k', k < k' → k' < n → (a + st * k) % n = (a + st * k') % n → False := fun k k' h1 h2 e => by
    have e2 := Nat.sub_mod_eq_zero_of_mod_eq e.symm
    obtain ⟨d, rfl⟩ : ∃ d, k' = k + d := ⟨k' - k, by omega⟩
    have e3 : a + st * (k + d) - (a + st * k) = st * d := by rw [Nat.mul_add]; omega
    rw [e3] at e2
    obtain ⟨q, hq⟩ := Nat.dvd_of_mod_eq_zero e2
    have hd : 0 < d ∧ d < n := by omega
    have q1 : q < st := by
      refine Nat.lt_of_not_le fun z => ?_
      have h3 : n * st ≤ n * q := Nat.mul_le_mul_left n z
      have h4 : st * d < st * n := Nat.mul_lt_mul_of_pos_left hd.2 (by omega)
      rw [Nat.mul_comm st n] at h4
      omega
    have q0 : 0 < q := by
      refine Nat.pos_of_ne_zero fun z => ?_
      subst z
      rw [Nat.mul_zero] at hq
      rcases Nat.mul_eq_zero.mp hq with z | z <;> omega
    rcases hst with rfl | ⟨rfl | rfl | rfl | rfl, hm⟩
    · omega
    · have : q = 1 ∨ q = 2 ∨ q = 3 ∨ q = 4 ∨ q = 5 ∨ q = 6 := by omega
      rcases this with rfl | rfl | rfl | rfl | rfl | rfl <;> omega
    · have : q = 1 ∨ q = 2 ∨ q = 3 ∨ q = 4 := by omega
      rcases this with rfl | rfl | rfl | rfl <;> omega
    · have : q = 1 ∨ q = 2 := by omega
      rcases this with rfl | rfl <;> omega
    · have : q = 1 := by omega
      subst this
      omega
  rcases Nat.lt_trichotomy k k' with h | h | h
  · exact (key k k' h hk' e).elim
  · exact h
  · exact (key k' k h hk e.symm).elim
theorem inj_pl {n : Nat} {pl : Nat → Nat} (lt : ∀ k, k < n → pl k < n) (inj : ∀ i j, i < n → j < n → pl i = pl j → i = j) : ∃ ix, Pl n pl ix ∧ Onto n pl ix := by
  have nd : ((List.range n).map pl).Nodup := by
    refine List.pairwise_map.mpr ((List.nodup_range (n := n)).imp_of_mem fun ha hb hne e => hne (inj _ _ (List.mem_range.mp ha) (List.mem_range.mp hb) e))
  have on : ∀ x, x < n → ∃ k, k < n ∧ pl k = x := fun x hx => by
    refine Classical.byContradiction fun z => ?_
    have h1 : x ∉ (List.range n).map pl := fun h => by
      obtain ⟨k, hk, e⟩ := List.mem_map.mp h
      exact z ⟨k, List.mem_range.mp hk, e⟩
    have := nodup_len n (x :: (List.range n).map pl) (List.nodup_cons.mpr ⟨h1, nd⟩) fun y hy => by
      rcases List.mem_cons.mp hy with rfl | hy
      · exact hx
      · obtain ⟨k, hk, rfl⟩ := List.mem_map.mp hy
        exact lt k (List.mem_range.mp hk)
    rw [List.length_cons, List.length_map, List.length_range] at this
    omega
  refine ⟨fun x => if h : x < n then Classical.choose (on x h) else 0, ⟨lt, fun k hk => ?_⟩, fun x hx => ?_⟩
  · rw [dif_pos (lt k hk)]
    have := Classical.choose_spec (on _ (lt k hk))
    exact inj _ _ this.1 hk this.2
  · dsimp only
    rw [dif_pos hx]
    exact Classical.choose_spec (on x hx)
end Wy

namespace K33
open PySem PySem.Spec PyProof.Rows L2 PX
def topS (i : Nat) : Stmt := PySem.Challenge.pw_warmmill_k33_long_ways.main.body.getD i (.Pass ⟨0, 0, 0, 0⟩)
def b_ways_of_1_3 : List ST := [.ret (.var 2)]
def b_ways_of_2 : List ST := [.expr (.mcall 6 [0] (.var 2) [(.var 4), (.var 5), (.var 6)])]
def b_ways_of_1_2 : List ST := .for_ (.tp [(.nm 4), (.nm 5), (.nm 6)]) .seq [(.var 1)] b_ways_of_2 :: b_ways_of_1_3
def b_ways_of_3 : List ST := [.expr (.mcall 5 [0] (.var 2) [])]
def b_ways_of_1_1 : List ST := .for_ (.nm 3) .rng1 [(.bin .Sub (.var 0) (.lit (.int 1)))] b_ways_of_3 :: b_ways_of_1_2
def b_ways_of_1 : List ST := .asg (.nm 2) (.call 2000000 []) :: b_ways_of_1_1
def d_ways_of : DefT := ⟨"ways_of", "ways_of", topS 2, ["count", "facts", "ways", "_", "x", "y", "n"], ["count", "facts"], [], ⟨2, 7, b_ways_of_1⟩⟩
def l_any_solution_1 : EX := (.bin .Sub (.var 4) (.ix (.var 1) (.lit (.int 0))))
def i_any_solution_1 : List EX := []
def b_any_solution_1_1 : List ST := [.ret (.blt .tuple [(.lc [4] (.nm 4) .seq [(.var 1)] i_any_solution_1 l_any_solution_1)])]
def l_any_solution_3 : EX := (.var 2)
def i_any_solution_3 : List EX := [(.cmp .IsNot (.var 2) (.lit (.non)))]
def l_any_solution_2 : EX := (.blt .min1 [(.lc [2] (.nm 2) .seq [(.var 3)] i_any_solution_3 l_any_solution_3)])
def i_any_solution_2 : List EX := []
def b_any_solution_1 : List ST := .asg (.nm 1) (.lc [3] (.nm 3) .seq [(.fld (.var 0) 0)] i_any_solution_2 l_any_solution_2) :: b_any_solution_1_1
def d_any_solution : DefT := ⟨"any_solution", "any_solution", topS 3, ["ways", "lows", "total", "row", "low"], ["ways"], [], ⟨1, 5, b_any_solution_1⟩⟩
def b_tied_atoms_1_1 : List ST := [.ret (.blt .tuple [(.var 1)])]
def b_tied_atoms_4 : List ST := [.expr (.meth .append (.var 1) [(.tup [(.var 2), (.var 4), (.var 5)])]),
  .brk]
def b_tied_atoms_3 : List ST := [.asg (.nm 5) (.ix (.var 3) (.var 4)),
  .asg (.nm 6) (.ix (.ix (.fld (.var 0) 0) (.var 4)) (.var 2)),
  .ite (.and (.cmp .IsNot (.var 5) (.lit (.non))) (.and (.cmp .IsNot (.var 6) (.lit (.non))) (.cmp .Eq (.bin .Add (.var 5) (.var 6)) (.lit (.int 0))))) b_tied_atoms_4 []]
def b_tied_atoms_2 : List ST := [.for_ (.nm 4) .rng1 [(.var 2)] b_tied_atoms_3]
def b_tied_atoms_1 : List ST := .asg (.nm 1) (.lst []) ::
  .for_ (.tp [(.nm 2), (.nm 3)]) .enum [(.fld (.var 0) 0)] b_tied_atoms_2 :: b_tied_atoms_1_1
def d_tied_atoms : DefT := ⟨"tied_atoms", "tied_atoms", topS 4, ["ways", "found", "x", "row", "r", "there", "back"], ["ways"], [], ⟨1, 7, b_tied_atoms_1⟩⟩
def l_least_1 : EX := (.blt .tuple [(.var 3)])
def i_least_1 : List EX := []
def b_least_1_2 : List ST := [.ret (.tup [(.lit (.str [119, 97, 121, 115])), (.blt .tuple [(.lc [3] (.nm 3) .seq [(.fld (.var 2) 0)] i_least_1 l_least_1)])])]
def b_least_2 : List ST := [.ret (.tup [(.lit (.str [99, 121, 99, 108, 101])), (.fld (.var 2) 3)])]
def b_least_1_1 : List ST := .ite (.cmp .IsNot (.fld (.var 2) 3) (.lit (.non))) b_least_2 [] :: b_least_1_2
def b_least_1 : List ST := .asg (.nm 2) (.call 0 [(.var 0), (.var 1)]) :: b_least_1_1
def d_least : DefT := ⟨"least", "least", topS 5, ["count", "facts", "ways", "row"], ["count", "facts"], [], ⟨2, 4, b_least_1⟩⟩
def b_follows_1_3 : List ST := [.ret (.tup [(.lit (.str [110, 111])), (.call 1 [(.var 5)])])]
def b_follows_1_2 : List ST := .expr (.mcall 6 [0] (.var 5) [(.var 3), (.var 2), (.bin .Sub (.neg (.var 4)) (.lit (.int 1)))]) :: b_follows_1_3
def b_follows_2 : List ST := [.ret (.tup [(.lit (.str [121, 101, 115])), (.mcall 8 [0] (.var 5) [(.var 2), (.var 3)])])]
def b_follows_1_1 : List ST := .asg (.nm 6) (.ix (.ix (.fld (.var 5) 0) (.var 2)) (.var 3)) ::
  .ite (.and (.cmp .IsNot (.var 6) (.lit (.non))) (.cmp .LtE (.var 6) (.var 4))) b_follows_2 [] :: b_follows_1_2
def b_follows_1 : List ST := .asg (.nm 5) (.call 0 [(.var 0), (.var 1)]) :: b_follows_1_1
def d_follows : DefT := ⟨"follows", "follows", topS 6, ["count", "facts", "x", "y", "n", "ways", "there"], ["count", "facts", "x", "y", "n"], [], ⟨5, 7, b_follows_1⟩⟩
def b_ties_1 : List ST := [.ret (.call 2 [(.call 0 [(.var 0), (.var 1)])])]
def d_ties : DefT := ⟨"ties", "ties", topS 7, ["count", "facts"], ["count", "facts"], [], ⟨2, 2, b_ties_1⟩⟩
def b_form_value_1_1 : List ST := [.ret (.var 2)]
def b_form_value_2 : List ST := [.aug 2 .Add (.bin .Mult (.var 4) (.ix (.var 1) (.var 3)))]
def b_form_value_1 : List ST := .asg (.nm 2) (.ix (.var 0) (.lit (.int 0))) ::
  .for_ (.tp [(.nm 3), (.nm 4)]) .seq [(.ix (.var 0) (.lit (.int 1)))] b_form_value_2 :: b_form_value_1_1
def d_form_value : DefT := ⟨"form_value", "form_value", topS 9, ["form", "values", "total", "atom", "factor"], ["form", "values"], [], ⟨2, 5, b_form_value_1⟩⟩
def b_lowest_values_1_1 : List ST := [.ret (.var 1)]
def b_lowest_values_5 : List ST := [.aset (.var 1) (.var 3) (.bin .Add (.ix (.var 1) (.var 5)) (.var 6)),
  .asg (.nm 2) (.lit (.bl true))]
def b_lowest_values_4 : List ST := [.ite (.and (.cmp .IsNot (.var 6) (.lit (.non))) (.cmp .Lt (.bin .Add (.ix (.var 1) (.var 5)) (.var 6)) (.ix (.var 1) (.var 3)))) b_lowest_values_5 []]
def b_lowest_values_3 : List ST := [.for_ (.tp [(.nm 5), (.nm 6)]) .enum [(.var 4)] b_lowest_values_4]
def b_lowest_values_2 : List ST := [.asg (.nm 2) (.lit (.bl false)),
  .for_ (.tp [(.nm 3), (.nm 4)]) .enum [(.var 0)] b_lowest_values_3]
def b_lowest_values_1 : List ST := .asg (.nm 1) (.bin .Mult (.lst [(.lit (.int 0))]) (.blt .len [(.var 0)])) ::
  .asg (.nm 2) (.lit (.bl true)) ::
  .whl (.var 2) b_lowest_values_2 :: b_lowest_values_1_1
def d_lowest_values : DefT := ⟨"lowest_values", "lowest_values", topS 10, ["weights", "values", "changed", "i", "line", "j", "weight"], ["weights"], [], ⟨1, 7, b_lowest_values_1⟩⟩
def b_weights_between_1_1 : List ST := [.ret (.var 2)]
def b_weights_between_2_1 : List ST := [.expr (.meth .append (.var 2) [(.var 4)])]
def b_weights_between_3 : List ST := [.asg (.nm 6) (.ix (.ix (.fld (.var 0) 0) (.var 3)) (.var 5)),
  .expr (.meth .append (.var 4) [(.ite (.or (.cmp .Eq (.var 3) (.var 5)) (.cmp .Is (.var 6) (.lit (.non)))) (.lit (.non)) (.bin .Sub (.bin .Mult (.blt .len [(.var 1)]) (.var 6)) (.lit (.int 1))))])]
def b_weights_between_2 : List ST := .asg (.nm 4) (.lst []) ::
  .for_ (.nm 5) .seq [(.var 1)] b_weights_between_3 :: b_weights_between_2_1
def b_weights_between_1 : List ST := .asg (.nm 2) (.lst []) ::
  .for_ (.nm 3) .seq [(.var 1)] b_weights_between_2 :: b_weights_between_1_1
def d_weights_between : DefT := ⟨"weights_between", "weights_between", topS 11, ["ways", "free", "weights", "x", "line", "y", "total"], ["ways", "free"], [], ⟨2, 7, b_weights_between_1⟩⟩
def b_row_of_1_4 : List ST := [.ret (.blt .tuple [(.var 11)])]
def l_row_of_1 : EX := (.ix (.var 15) (.var 2))
def i_row_of_1 : List EX := []
def b_row_of_2_2 : List ST := [.expr (.meth .append (.var 11) [(.blt .tuple [(.lc [2] (.nm 2) .rng1 [(.blt .len [(.fld (.var 0) 0)])] i_row_of_1 l_row_of_1)])])]
def b_row_of_3 : List ST := [.aset (.var 15) (.var 2) (.bin .Add (.ix (.var 15) (.ix (.ix (.var 1) (.var 2)) (.lit (.int 0)))) (.ix (.ix (.var 1) (.var 2)) (.lit (.int 1))))]
def b_row_of_2_1 : List ST := .forK (.nm 2) 1 b_row_of_3 :: b_row_of_2_2
def lk_row_of_2 : EX := (.var 2)
def lv_row_of_2 : EX := (.bin .Sub (.bin .FloorDiv (.bin .Add (.ix (.var 8) (.var 9)) (.var 13)) (.var 7)) (.var 14))
def i_row_of_2 : List EX := []
def b_row_of_2 : List ST := .asg (.nm 13) (.bin .Mod (.neg (.var 12)) (.var 7)) ::
  .asg (.nm 14) (.bin .FloorDiv (.bin .Add (.ix (.var 8) (.lit (.int 0))) (.var 13)) (.var 7)) ::
  .asg (.nm 15) (.dc [9, 2] (.tp [(.nm 9), (.nm 2)]) .enum [(.var 5)] i_row_of_2 lk_row_of_2 lv_row_of_2) :: b_row_of_2_1
def b_row_of_1_3 : List ST := .asg (.nm 11) (.lst []) ::
  .for_ (.nm 12) .seq [(.var 8)] b_row_of_2 :: b_row_of_1_4
def l_row_of_3 : EX := (.bin .Add (.bin .Mult (.bin .Add (.var 6) (.lit (.int 1))) (.var 10)) (.var 9))
def i_row_of_3 : List EX := []
def b_row_of_1_2 : List ST := .asg (.nm 6) (.blt .len [(.var 5)]) ::
  .asg (.nm 7) (.bin .Mult (.var 6) (.bin .Add (.var 6) (.lit (.int 1)))) ::
  .asg (.nm 8) (.lc [9, 10] (.tp [(.nm 9), (.nm 10)]) .enum [(.call 7 [(.call 8 [(.var 0), (.var 5)])])] i_row_of_3 l_row_of_3) :: b_row_of_1_3
def l_row_of_4 : EX := (.var 2)
def i_row_of_4 : List EX := [(.cmp .NotIn (.var 2) (.var 1))]
def b_row_of_1_1 : List ST := .asg (.nm 5) (.lc [2] (.nm 2) .rng1 [(.blt .len [(.fld (.var 0) 0)])] i_row_of_4 l_row_of_4) :: b_row_of_1_2
def lk_row_of_5 : EX := (.var 2)
def lv_row_of_5 : EX := (.tup [(.var 3), (.var 4)])
def i_row_of_5 : List EX := []
def b_row_of_1 : List ST := .asg (.nm 1) (.dc [2, 3, 4] (.tp [(.nm 2), (.nm 3), (.nm 4)]) .seq [(.call 2 [(.var 0)])] i_row_of_5 lk_row_of_5 lv_row_of_5) :: b_row_of_1_1
def d_row_of : DefT := ⟨"row_of", "row_of", topS 12, ["ways", "bound", "x", "r", "c", "free", "size", "period", "scaled", "i", "low", "points", "step", "t", "shift", "known"], ["ways"], [1], ⟨1, 16, b_row_of_1⟩⟩
def b_apart_in_1_1 : List ST := [.ret (.lit (.non))]
def b_apart_in_3 : List ST := [.ret (.var 2)]
def b_apart_in_2 : List ST := [.ite (.cmp .NotEq (.call 6 [(.var 1), (.var 2)]) (.lit (.int 0))) b_apart_in_3 []]
def b_apart_in_1 : List ST := .for_ (.nm 2) .seq [(.call 9 [(.var 0)])] b_apart_in_2 :: b_apart_in_1_1
def d_apart_in : DefT := ⟨"apart_in", "apart_in", topS 13, ["ways", "form", "values"], ["ways", "form"], [], ⟨2, 3, b_apart_in_1⟩⟩
def b_row_1 : List ST := [.ret (.call 9 [(.call 0 [(.var 0), (.var 1)])])]
def d_row : DefT := ⟨"row", "row", topS 14, ["count", "facts"], ["count", "facts"], [], ⟨2, 2, b_row_1⟩⟩
def b_apart_1 : List ST := [.ret (.call 10 [(.call 0 [(.var 0), (.var 1)]), (.var 2)])]
def d_apart : DefT := ⟨"apart", "apart", topS 15, ["count", "facts", "form"], ["count", "facts", "form"], [], ⟨3, 3, b_apart_1⟩⟩
def b_law_cell_1_1 : List ST := [.ret (.lit (.int 0))]
def b_law_cell_2 : List ST := [.ret (.blt .abs [(.blt .int [(.ix (.var 0) (.var 1))])])]
def b_law_cell_1 : List ST := .ite (.cmp .Lt (.var 1) (.blt .len [(.var 0)])) b_law_cell_2 [] :: b_law_cell_1_1
def d_law_cell : DefT := ⟨"_law_cell", "_law_cell", topS 17, ["script", "k"], ["script", "k"], [], ⟨2, 2, b_law_cell_1⟩⟩
def b_law_src_1_2 : List ST := [.ret (.lst [(.lit (.int 0)), (.bin .Add (.var 2) (.bin .Mult (.lit (.int 1000)) (.var 1))), (.lit (.int 0))])]
def b_law_src_2 : List ST := [.ret (.lst [(.lit (.int 1)), (.bin .Sub (.var 2) (.bin .Pow (.lit (.int 10)) (.lit (.int 18)))), (.lit (.int 0))])]
def b_law_src_1_1 : List ST := .ite (.cmp .GtE (.var 2) (.bin .Pow (.lit (.int 10)) (.lit (.int 18)))) b_law_src_2 [] :: b_law_src_1_2
def b_law_src_1 : List ST := .asg (.nm 2) (.call 13 [(.var 0), (.var 1)]) :: b_law_src_1_1
def d_law_src : DefT := ⟨"_law_src", "_law_src", topS 18, ["script", "k", "cell"], ["script", "k"], [], ⟨2, 3, b_law_src_1⟩⟩
def b_law_draw_1_1 : List ST := [.aset (.var 0) (.lit (.int 2)) (.bin .Add (.ix (.var 0) (.lit (.int 2))) (.lit (.int 1))),
  .asg (.nm 3) (.bin .Mod (.blt .int [(.bin .Add (.bin .Add (.bin .Mult (.ix (.var 0) (.lit (.int 1))) (.lit (.int 48271))) (.bin .Mult (.ix (.var 0) (.lit (.int 2))) (.lit (.int 69621)))) (.lit (.int 11)))]) (.lit (.int 2147483647))),
  .asg (.nm 4) (.bin .Mod (.blt .int [(.bin .Add (.bin .Add (.bin .Mult (.var 3) (.var 3)) (.ix (.var 0) (.lit (.int 1)))) (.bin .Mult (.ix (.var 0) (.lit (.int 2))) (.lit (.int 40692))))]) (.lit (.int 2147483563))),
  .ret (.bin .Mod (.blt .int [(.bin .Add (.bin .FloorDiv (.bin .Mult (.var 4) (.var 4)) (.lit (.int 64))) (.var 3))]) (.var 1))]
def b_law_draw_2 : List ST := [.asg (.nm 2) (.bin .Mod (.blt .int [(.ix (.var 0) (.lit (.int 1)))]) (.var 1)),
  .aset (.var 0) (.lit (.int 1)) (.bin .FloorDiv (.ix (.var 0) (.lit (.int 1))) (.var 1)),
  .ret (.var 2)]
def b_law_draw_1 : List ST := .ite (.cmp .Eq (.ix (.var 0) (.lit (.int 0))) (.lit (.int 1))) b_law_draw_2 [] :: b_law_draw_1_1
def d_law_draw : DefT := ⟨"_law_draw", "_law_draw", topS 19, ["src", "m", "got", "a", "b"], ["src", "m"], [], ⟨2, 5, b_law_draw_1⟩⟩
def b_law_is_int_1 : List ST := [.ret (.and (.blt (.isi 0) [(.var 0)]) (.not (.blt (.isi 1) [(.var 0)])))]
def d_law_is_int : DefT := ⟨"_law_is_int", "_law_is_int", topS 20, ["x"], ["x"], [], ⟨1, 1, b_law_is_int_1⟩⟩
def b_law_way_1_3 : List ST := [.ret (.var 5)]
def b_law_way_2 : List ST := [.ret (.lit (.non))]
def b_law_way_1_2 : List ST := .ite (.cmp .NotEq (.var 4) (.var 3)) b_law_way_2 [] :: b_law_way_1_3
def b_law_way_3_1 : List ST := [.asg (.nm 4) (.ix (.ix (.var 0) (.var 6)) (.lit (.int 1))),
  .asg (.nm 5) (.bin .Add (.var 5) (.ix (.ix (.var 0) (.var 6)) (.lit (.int 2))))]
def b_law_way_4 : List ST := [.ret (.lit (.non))]
def b_law_way_3 : List ST := .ite (.or (.not (.call 16 [(.var 6)])) (.or (.not (.chn .LtE .Lt (.lit (.int 0)) (.var 6) (.blt .len [(.var 0)]))) (.cmp .NotEq (.ix (.ix (.var 0) (.var 6)) (.lit (.int 0))) (.var 4)))) b_law_way_4 [] :: b_law_way_3_1
def b_law_way_1_1 : List ST := .for_ (.nm 6) .seq [(.var 1)] b_law_way_3 :: b_law_way_1_2
def b_law_way_5 : List ST := [.ret (.lit (.non))]
def b_law_way_1 : List ST := .asg (.nm 4) (.var 2) ::
  .asg (.nm 5) (.lit (.int 0)) ::
  .ite (.not (.blt (.isi 3) [(.var 1)])) b_law_way_5 [] :: b_law_way_1_1
def d_law_way : DefT := ⟨"_law_way", "_law_way", topS 21, ["facts", "path", "x", "y", "at", "total", "k"], ["facts", "path", "x", "y"], [], ⟨4, 7, b_law_way_1⟩⟩
def l_law_solves_1 : EX := (.var 4)
def i_law_solves_1 : List EX := [(.cmp .Gt (.bin .Sub (.ix (.var 2) (.ix (.var 4) (.lit (.int 0)))) (.ix (.var 2) (.ix (.var 4) (.lit (.int 1))))) (.ix (.var 4) (.lit (.int 2))))]
def b_law_solves_1_1 : List ST := [.ret (.and (.cmp .Eq (.ix (.var 2) (.lit (.int 0))) (.lit (.int 0))) (.cmp .Eq (.lc [4] (.nm 4) .seq [(.var 1)] i_law_solves_1 l_law_solves_1) (.lst [])))]
def l_law_solves_2 : EX := (.var 3)
def i_law_solves_2 : List EX := [(.not (.call 16 [(.var 3)]))]
def b_law_solves_2 : List ST := [.ret (.lit (.bl false))]
def b_law_solves_1 : List ST := .ite (.or (.not (.blt (.isi 3) [(.var 2)])) (.or (.cmp .NotEq (.blt .len [(.var 2)]) (.var 0)) (.cmp .NotEq (.lc [3] (.nm 3) .seq [(.var 2)] i_law_solves_2 l_law_solves_2) (.lst [])))) b_law_solves_2 [] :: b_law_solves_1_1
def d_law_solves : DefT := ⟨"_law_solves", "_law_solves", topS 22, ["count", "facts", "point", "x", "f"], ["count", "facts", "point"], [], ⟨3, 5, b_law_solves_1⟩⟩
def l_law_around_1 : EX := (.bin .Mod (.blt .int [(.bin .Add (.var 4) (.bin .Mult (.var 2) (.var 5)))]) (.var 1))
def i_law_around_1 : List EX := []
def b_law_around_1_2 : List ST := [.ret (.lc [5] (.nm 5) .rng1 [(.var 1)] i_law_around_1 l_law_around_1)]
def b_law_around_1_1 : List ST := .asg (.nm 4) (.call 15 [(.var 0), (.var 1)]) :: b_law_around_1_2
def b_law_around_3 : List ST := [.asg (.nm 2) (.var 3)]
def b_law_around_2 : List ST := [.ite (.and (.cmp .NotEq (.bin .Mod (.blt .int [(.var 1)]) (.var 3)) (.lit (.int 0))) (.cmp .Eq (.call 15 [(.var 0), (.lit (.int 3))]) (.lit (.int 0)))) b_law_around_3 []]
def b_law_around_1 : List ST := .asg (.nm 2) (.lit (.int 1)) ::
  .for_ (.nm 3) .seq [(.lst [(.lit (.int 7)), (.lit (.int 5)), (.lit (.int 3)), (.lit (.int 2))])] b_law_around_2 :: b_law_around_1_1
def d_law_around : DefT := ⟨"_law_around", "_law_around", topS 23, ["src", "count", "step", "one", "first", "k"], ["src", "count"], [], ⟨2, 6, b_law_around_1⟩⟩
def l_law_lengths_1 : EX := (.bin .Sub (.call 15 [(.var 0), (.bin .Add (.bin .Mult (.lit (.int 2)) (.var 2)) (.lit (.int 1)))]) (.var 2))
def i_law_lengths_1 : List EX := []
def b_law_lengths_1_1 : List ST := [.ret (.lc [3] (.nm 3) .rng1 [(.var 1)] i_law_lengths_1 l_law_lengths_1)]
def b_law_lengths_1 : List ST := .asg (.nm 2) (.ix (.lst [(.lit (.int 20)), (.lit (.int 1000)), (.bin .Pow (.lit (.int 10)) (.lit (.int 6))), (.bin .Pow (.lit (.int 10)) (.lit (.int 57)))]) (.call 15 [(.var 0), (.lit (.int 4))])) :: b_law_lengths_1_1
def d_law_lengths : DefT := ⟨"_law_lengths", "_law_lengths", topS 24, ["src", "many", "most", "k"], ["src", "many"], [], ⟨2, 4, b_law_lengths_1⟩⟩
def b_law_low_1_2 : List ST := [.ret (.bin .Add (.bin .Sub (.ix (.var 0) (.var 3)) (.ix (.var 0) (.var 2))) (.var 1))]
def b_law_low_2 : List ST := [.ret (.lit (.non))]
def b_law_low_1_1 : List ST := .ite (.cmp .Is (.var 1) (.lit (.non))) b_law_low_2 [] :: b_law_low_1_2
def b_law_low_3 : List ST := [.ret (.bin .Sub (.ix (.var 0) (.var 3)) (.ix (.var 0) (.var 2)))]
def b_law_low_1 : List ST := .ite (.cmp .LtE (.var 2) (.var 3)) b_law_low_3 [] :: b_law_low_1_1
def d_law_low : DefT := ⟨"_law_low", "_law_low", topS 25, ["sums", "closing", "i", "j"], ["sums", "closing", "i", "j"], [], ⟨4, 4, b_law_low_1⟩⟩
def b_law_chain_1_3 : List ST := [.ret (.bin .Add (.sl (.var 4) (.var 8) (.lit (.kd 0))) (.sl (.var 4) (.lit (.kd 0)) (.var 8)))]
def b_law_chain_1_2 : List ST := .asg (.nm 8) (.call 15 [(.var 0), (.blt .len [(.var 4)])]) :: b_law_chain_1_3
def b_law_chain_3 : List ST := [.expr (.meth .append (.var 4) [(.tup [(.ix (.var 1) (.var 6)), (.ix (.var 1) (.var 7)), (.bin .Add (.bin .Add (.bin .Sub (.ix (.var 2) (.var 7)) (.ix (.var 2) (.var 6))) (.lit (.int 1))) (.call 15 [(.var 0), (.lit (.int 1000))]))])])]
def b_law_chain_2_2 : List ST := [.ite (.cmp .Lt (.var 6) (.var 7)) b_law_chain_3 []]
def b_law_chain_2_1 : List ST := .asg (.nm 7) (.call 15 [(.var 0), (.var 3)]) :: b_law_chain_2_2
def b_law_chain_2 : List ST := .asg (.nm 6) (.call 15 [(.var 0), (.var 3)]) :: b_law_chain_2_1
def b_law_chain_1_1 : List ST := .for_ (.nm 5) .rng1 [(.call 15 [(.var 0), (.lit (.int 12))])] b_law_chain_2 :: b_law_chain_1_2
def l_law_chain_1 : EX := (.tup [(.ix (.var 1) (.var 5)), (.ix (.var 1) (.bin .Add (.var 5) (.lit (.int 1)))), (.bin .Sub (.ix (.var 2) (.bin .Add (.var 5) (.lit (.int 1)))) (.ix (.var 2) (.var 5)))])
def i_law_chain_1 : List EX := []
def b_law_chain_1 : List ST := .asg (.nm 3) (.blt .len [(.var 1)]) ::
  .asg (.nm 4) (.lc [5] (.nm 5) .rng1 [(.bin .Sub (.var 3) (.lit (.int 1)))] i_law_chain_1 l_law_chain_1) :: b_law_chain_1_1
def d_law_chain : DefT := ⟨"_law_chain", "_law_chain", topS 26, ["src", "place", "sums", "count", "got", "k", "i", "j", "first"], ["src", "place", "sums"], [], ⟨3, 9, b_law_chain_1⟩⟩
def b_law_grid_1_2 : List ST := [.ret (.lst [(.var 5), (.var 6)])]
def b_law_grid_2_2 : List ST := [.expr (.meth .append (.var 6) [(.blt .min1 [(.var 8)])])]
def b_law_grid_3 : List ST := [.expr (.meth .append (.var 5) [(.tup [(.bin .Sub (.var 7) (.var 2)), (.var 7), (.ix (.var 4) (.bin .Add (.bin .Mult (.lit (.int 2)) (.var 7)) (.lit (.int 1))))])]),
  .expr (.meth .append (.var 8) [(.bin .Add (.ix (.var 6) (.bin .Sub (.var 7) (.var 2))) (.ix (.var 4) (.bin .Add (.bin .Mult (.lit (.int 2)) (.var 7)) (.lit (.int 1)))))])]
def b_law_grid_2_1 : List ST := .ite (.cmp .GtE (.var 7) (.var 2)) b_law_grid_3 [] :: b_law_grid_2_2
def b_law_grid_4 : List ST := [.expr (.meth .append (.var 5) [(.tup [(.bin .Sub (.var 7) (.lit (.int 1))), (.var 7), (.ix (.var 4) (.bin .Mult (.lit (.int 2)) (.var 7)))])]),
  .expr (.meth .append (.var 8) [(.bin .Add (.ix (.var 6) (.bin .Sub (.var 7) (.lit (.int 1)))) (.ix (.var 4) (.bin .Mult (.lit (.int 2)) (.var 7))))])]
def b_law_grid_2 : List ST := .asg (.nm 8) (.lst []) ::
  .ite (.cmp .Gt (.bin .Mod (.blt .int [(.var 7)]) (.var 2)) (.lit (.int 0))) b_law_grid_4 [] :: b_law_grid_2_1
def b_law_grid_1_1 : List ST := .asg (.nm 5) (.lst []) ::
  .asg (.nm 6) (.lst [(.lit (.int 0))]) ::
  .for_ (.nm 7) .rng2 [(.lit (.int 1)), (.var 3)] b_law_grid_2 :: b_law_grid_1_2
def b_law_grid_1 : List ST := .asg (.nm 3) (.bin .Mult (.var 1) (.var 2)) ::
  .asg (.nm 4) (.call 20 [(.var 0), (.bin .Mult (.lit (.int 2)) (.var 3))]) :: b_law_grid_1_1
def d_law_grid : DefT := ⟨"_law_grid", "_law_grid", topS 27, ["src", "rows", "wide", "count", "lengths", "facts", "best", "k", "ways"], ["src", "rows", "wide"], [], ⟨3, 9, b_law_grid_1⟩⟩
def b_law_entry_1_1 : List ST := [.ret (.and (.call 16 [(.var 0)]) (.cmp .Eq (.var 0) (.var 1)))]
def b_law_entry_2 : List ST := [.ret (.cmp .Is (.var 0) (.lit (.non)))]
def b_law_entry_1 : List ST := .ite (.cmp .Is (.var 1) (.lit (.non))) b_law_entry_2 [] :: b_law_entry_1_1
def d_law_entry : DefT := ⟨"_law_entry", "_law_entry", topS 28, ["told", "due"], ["told", "due"], [], ⟨2, 2, b_law_entry_1⟩⟩
def l_law_is_table_1 : EX := (.var 2)
def i_law_is_table_1 : List EX := [(.or (.not (.blt (.isi 3) [(.var 2)])) (.cmp .NotEq (.blt .len [(.var 2)]) (.var 1)))]
def b_law_is_table_1_1 : List ST := [.ret (.and (.cmp .Eq (.blt .len [(.ix (.var 0) (.lit (.int 1)))]) (.var 1)) (.cmp .Eq (.lc [2] (.nm 2) .seq [(.ix (.var 0) (.lit (.int 1)))] i_law_is_table_1 l_law_is_table_1) (.lst [])))]
def b_law_is_table_2 : List ST := [.ret (.lit (.bl false))]
def b_law_is_table_1 : List ST := .ite (.or (.not (.blt (.isi 3) [(.var 0)])) (.or (.cmp .NotEq (.blt .len [(.var 0)]) (.lit (.int 2))) (.or (.cmp .NotEq (.ix (.var 0) (.lit (.int 0))) (.lit (.str [119, 97, 121, 115]))) (.not (.blt (.isi 3) [(.ix (.var 0) (.lit (.int 1)))]))))) b_law_is_table_2 [] :: b_law_is_table_1_1
def d_law_is_table : DefT := ⟨"_law_is_table", "_law_is_table", topS 29, ["told", "count", "x"], ["told", "count"], [], ⟨2, 3, b_law_is_table_1⟩⟩
def b_law_is_cycle_1_3 : List ST := [.ret (.and (.cmp .IsNot (.var 2) (.lit (.non))) (.cmp .Lt (.var 2) (.lit (.int 0))))]
def b_law_is_cycle_1_2 : List ST := .asg (.nm 2) (.call 17 [(.var 1), (.ix (.var 0) (.lit (.int 1))), (.ix (.ix (.var 1) (.ix (.ix (.var 0) (.lit (.int 1))) (.lit (.int 0)))) (.lit (.int 0))), (.ix (.ix (.var 1) (.ix (.ix (.var 0) (.lit (.int 1))) (.lit (.int 0)))) (.lit (.int 0)))]) :: b_law_is_cycle_1_3
def b_law_is_cycle_2 : List ST := [.ret (.lit (.bl false))]
def b_law_is_cycle_1_1 : List ST := .ite (.or (.cmp .Eq (.blt .len [(.ix (.var 0) (.lit (.int 1)))]) (.lit (.int 0))) (.or (.not (.call 16 [(.ix (.ix (.var 0) (.lit (.int 1))) (.lit (.int 0)))])) (.not (.chn .LtE .Lt (.lit (.int 0)) (.ix (.ix (.var 0) (.lit (.int 1))) (.lit (.int 0))) (.blt .len [(.var 1)]))))) b_law_is_cycle_2 [] :: b_law_is_cycle_1_2
def b_law_is_cycle_3 : List ST := [.ret (.lit (.bl false))]
def b_law_is_cycle_1 : List ST := .ite (.or (.not (.blt (.isi 3) [(.var 0)])) (.or (.cmp .NotEq (.blt .len [(.var 0)]) (.lit (.int 2))) (.or (.cmp .NotEq (.ix (.var 0) (.lit (.int 0))) (.lit (.str [99, 121, 99, 108, 101]))) (.not (.blt (.isi 3) [(.ix (.var 0) (.lit (.int 1)))]))))) b_law_is_cycle_3 [] :: b_law_is_cycle_1_1
def d_law_is_cycle : DefT := ⟨"_law_is_cycle", "_law_is_cycle", topS 30, ["told", "facts", "total"], ["told", "facts"], [], ⟨2, 3, b_law_is_cycle_1⟩⟩
def b_law_followed_1_3 : List ST := [.ret (.and (.cmp .Eq (.ix (.var 6) (.lit (.int 0))) (.lit (.str [110, 111]))) (.and (.call 18 [(.var 0), (.var 1), (.ix (.var 6) (.lit (.int 1)))]) (.cmp .GtE (.bin .Sub (.ix (.ix (.var 6) (.lit (.int 1))) (.var 2)) (.ix (.ix (.var 6) (.lit (.int 1))) (.var 3))) (.bin .Add (.var 5) (.lit (.int 1))))))]
def b_law_followed_2_1 : List ST := [.ret (.and (.cmp .Eq (.ix (.var 6) (.lit (.int 0))) (.lit (.str [121, 101, 115]))) (.and (.cmp .IsNot (.var 7) (.lit (.non))) (.cmp .LtE (.var 7) (.var 5))))]
def b_law_followed_2 : List ST := .asg (.nm 7) (.call 17 [(.var 1), (.ix (.var 6) (.lit (.int 1))), (.var 2), (.var 3)]) :: b_law_followed_2_1
def b_law_followed_1_2 : List ST := .ite (.and (.cmp .IsNot (.var 4) (.lit (.non))) (.cmp .LtE (.var 4) (.var 5))) b_law_followed_2 [] :: b_law_followed_1_3
def b_law_followed_3 : List ST := [.ret (.lit (.bl false))]
def b_law_followed_1_1 : List ST := .ite (.or (.not (.blt (.isi 3) [(.var 6)])) (.or (.cmp .NotEq (.blt .len [(.var 6)]) (.lit (.int 2))) (.not (.blt (.isi 2) [(.ix (.var 6) (.lit (.int 0)))])))) b_law_followed_3 [] :: b_law_followed_1_2
def b_law_followed_1 : List ST := .asg (.nm 6) (.call 4 [(.var 0), (.blt .tuple [(.var 1)]), (.var 2), (.var 3), (.var 5)]) :: b_law_followed_1_1
def d_law_followed : DefT := ⟨"_law_followed", "_law_followed", topS 31, ["count", "facts", "x", "y", "low", "n", "told", "total"], ["count", "facts", "x", "y", "low", "n"], [], ⟨6, 8, b_law_followed_1⟩⟩
def l_law_form_1 : EX := (.var 4)
def i_law_form_1 : List EX := [(.cmp .Gt (.ix (.var 4) (.lit (.int 0))) (.lit (.int 0)))]
def b_law_form_1_1 : List ST := [.ret (.tup [(.var 2), (.blt .tuple [(.lc [4] (.nm 4) .seq [(.var 3)] i_law_form_1 l_law_form_1)])])]
def b_law_form_2 : List ST := [.asg (.nm 3) (.lst [(.tup [(.var 0), (.lit (.int 1))]), (.tup [(.var 1), (.neg (.lit (.int 1)))])])]
def b_law_form_3 : List ST := [.asg (.nm 3) (.lst [(.tup [(.var 1), (.neg (.lit (.int 1)))]), (.tup [(.var 0), (.lit (.int 1))])])]
def b_law_form_1 : List ST := .ite (.cmp .Lt (.var 0) (.var 1)) b_law_form_2 b_law_form_3 :: b_law_form_1_1
def d_law_form : DefT := ⟨"_law_form", "_law_form", topS 32, ["x", "y", "number", "terms", "term"], ["x", "y", "number"], [], ⟨3, 5, b_law_form_1⟩⟩
def b_law_parted_1_2 : List ST := [.ret (.and (.call 18 [(.var 0), (.var 1), (.var 6)]) (.cmp .NotEq (.bin .Add (.bin .Sub (.ix (.var 6) (.var 2)) (.ix (.var 6) (.var 3))) (.var 4)) (.lit (.int 0))))]
def b_law_parted_2 : List ST := [.ret (.cmp .Is (.var 6) (.lit (.non)))]
def b_law_parted_1_1 : List ST := .ite (.var 5) b_law_parted_2 [] :: b_law_parted_1_2
def b_law_parted_1 : List ST := .asg (.nm 6) (.call 12 [(.var 0), (.blt .list [(.var 1)]), (.call 28 [(.var 2), (.var 3), (.var 4)])]) :: b_law_parted_1_1
def d_law_parted : DefT := ⟨"_law_parted", "_law_parted", topS 33, ["count", "facts", "x", "y", "number", "none_due", "told"], ["count", "facts", "x", "y", "number", "none_due"], [], ⟨6, 7, b_law_parted_1⟩⟩
def b_law_ties_right_1_3 : List ST := [.ret (.lit (.bl true))]
def b_law_ties_right_3 : List ST := [.ret (.lit (.bl false))]
def b_law_ties_right_2_1 : List ST := [.ite (.cmp .NotEq (.ix (.var 0) (.var 7)) (.ix (.var 4) (.var 7))) b_law_ties_right_3 []]
def l_law_ties_right_1 : EX := (.var 8)
def i_law_ties_right_1 : List EX := [(.not (.call 16 [(.var 8)]))]
def b_law_ties_right_4 : List ST := [.ret (.lit (.bl false))]
def b_law_ties_right_2 : List ST := .ite (.or (.not (.blt (.isi 3) [(.ix (.var 0) (.var 7))])) (.or (.cmp .NotEq (.blt .len [(.ix (.var 0) (.var 7))]) (.lit (.int 3))) (.cmp .NotEq (.lc [8] (.nm 8) .seq [(.ix (.var 0) (.var 7))] i_law_ties_right_1 l_law_ties_right_1) (.lst [])))) b_law_ties_right_4 [] :: b_law_ties_right_2_1
def b_law_ties_right_1_2 : List ST := .for_ (.nm 7) .rng1 [(.blt .len [(.var 4)])] b_law_ties_right_2 :: b_law_ties_right_1_3
def b_law_ties_right_5 : List ST := [.ret (.lit (.bl false))]
def b_law_ties_right_1_1 : List ST := .ite (.or (.not (.blt (.isi 3) [(.var 0)])) (.cmp .NotEq (.blt .len [(.var 0)]) (.blt .len [(.var 4)]))) b_law_ties_right_5 [] :: b_law_ties_right_1_2
def l_law_ties_right_2 : EX := (.tup [(.var 6), (.lit (.int 0)), (.bin .Sub (.ix (.var 2) (.var 5)) (.ix (.var 2) (.meth .index (.var 1) [(.var 6)])))])
def i_law_ties_right_2 : List EX := []
def b_law_ties_right_6 : List ST := [.asg (.nm 5) (.meth .index (.var 1) [(.lit (.int 0))]),
  .asg (.nm 4) (.lc [6] (.nm 6) .rng2 [(.lit (.int 1)), (.blt .len [(.var 1)])] i_law_ties_right_2 l_law_ties_right_2)]
def b_law_ties_right_1 : List ST := .asg (.nm 4) (.lst []) ::
  .ite (.cmp .Eq (.var 3) (.lit (.int 0))) b_law_ties_right_6 [] :: b_law_ties_right_1_1
def d_law_ties_right : DefT := ⟨"_law_ties_right", "_law_ties_right", topS 34, ["told", "place", "sums", "closing", "due", "zero", "x", "k", "n"], ["told", "place", "sums", "closing"], [], ⟨4, 9, b_law_ties_right_1⟩⟩
def b_law_row_right_1_3 : List ST := [.ret (.lit (.bl true))]
def l_law_row_right_1 : EX := (.var 6)
def i_law_row_right_1 : List EX := [(.cmp .NotEq (.bin .Sub (.ix (.var 6) (.ix (.var 1) (.var 7))) (.ix (.var 6) (.ix (.var 1) (.bin .Add (.var 7) (.lit (.int 1)))))) (.var 8))]
def b_law_row_right_3 : List ST := [.ret (.lit (.bl false))]
def b_law_row_right_2 : List ST := [.asg (.nm 8) (.bin .Sub (.ix (.var 3) (.bin .Add (.var 7) (.lit (.int 1)))) (.ix (.var 3) (.var 7))),
  .ite (.cmp .Eq (.lc [6] (.nm 6) .seq [(.var 0)] i_law_row_right_1 l_law_row_right_1) (.lst [])) b_law_row_right_3 []]
def b_law_row_right_1_2 : List ST := .for_ (.nm 7) .rng1 [(.bin .Mult (.bin .Sub (.var 5) (.lit (.int 1))) (.blt .int [(.cmp .NotEq (.var 4) (.lit (.int 0)))]))] b_law_row_right_2 :: b_law_row_right_1_3
def l_law_row_right_2 : EX := (.var 6)
def i_law_row_right_2 : List EX := [(.not (.call 18 [(.var 5), (.var 2), (.var 6)]))]
def b_law_row_right_4 : List ST := [.ret (.lit (.bl false))]
def b_law_row_right_1_1 : List ST := .ite (.cmp .NotEq (.lc [6] (.nm 6) .seq [(.var 0)] i_law_row_right_2 l_law_row_right_2) (.lst [])) b_law_row_right_4 [] :: b_law_row_right_1_2
def b_law_row_right_5 : List ST := [.ret (.lit (.bl false))]
def b_law_row_right_1 : List ST := .asg (.nm 5) (.blt .len [(.var 1)]) ::
  .ite (.or (.not (.blt (.isi 3) [(.var 0)])) (.not (.chn .LtE .LtE (.lit (.int 1)) (.blt .len [(.var 0)]) (.var 5)))) b_law_row_right_5 [] :: b_law_row_right_1_1
def d_law_row_right : DefT := ⟨"_law_row_right", "_law_row_right", topS 35, ["told", "place", "facts", "sums", "closing", "count", "point", "k", "due"], ["told", "place", "facts", "sums", "closing"], [], ⟨5, 9, b_law_row_right_1⟩⟩
def b_law_asked_1_11 : List ST := [.ret (.call 29 [(.var 5), (.var 2), (.ix (.var 1) (.var 6)), (.ix (.var 1) (.var 7)), (.bin .Sub (.lit (.int 0)) (.var 12)), (.cmp .Eq (.var 4) (.lit (.int 0)))])]
def b_law_asked_2 : List ST := [.ret (.lit (.bl false))]
def b_law_asked_1_10 : List ST := .ite (.not (.call 31 [(.call 11 [(.var 5), (.blt .tuple [(.var 2)])]), (.var 1), (.var 2), (.var 3), (.var 4)])) b_law_asked_2 [] :: b_law_asked_1_11
def b_law_asked_3 : List ST := [.ret (.lit (.bl false))]
def b_law_asked_1_9 : List ST := .ite (.not (.call 30 [(.call 5 [(.var 5), (.blt .list [(.var 2)])]), (.var 1), (.var 3), (.var 4)])) b_law_asked_3 [] :: b_law_asked_1_10
def b_law_asked_5 : List ST := [.ret (.lit (.bl false))]
def b_law_asked_4 : List ST := [.ite (.not (.call 27 [(.var 5), (.var 2), (.ix (.var 1) (.var 6)), (.ix (.var 1) (.var 7)), (.var 11), (.var 13)])) b_law_asked_5 []]
def b_law_asked_1_8 : List ST := .for_ (.nm 13) .seq [(.lst [(.var 12), (.bin .Sub (.var 12) (.lit (.int 1)))])] b_law_asked_4 :: b_law_asked_1_9
def b_law_asked_6 : List ST := [.asg (.nm 12) (.var 11)]
def b_law_asked_1_7 : List ST := .ite (.cmp .IsNot (.var 11) (.lit (.non))) b_law_asked_6 [] :: b_law_asked_1_8
def b_law_asked_1_6 : List ST := .asg (.nm 12) (.bin .Sub (.call 15 [(.var 0), (.lit (.int 2001))]) (.lit (.int 1000))) :: b_law_asked_1_7
def b_law_asked_1_5 : List ST := .asg (.nm 11) (.call 21 [(.var 3), (.var 4), (.var 6), (.var 7)]) :: b_law_asked_1_6
def b_law_asked_8 : List ST := [.ret (.lit (.bl false))]
def b_law_asked_7_1 : List ST := [.ite (.not (.call 24 [(.ix (.ix (.ix (.var 9) (.lit (.int 1))) (.ix (.var 1) (.var 10))) (.ix (.var 1) (.var 6))), (.call 21 [(.var 3), (.var 4), (.var 10), (.var 6)])])) b_law_asked_8 []]
def b_law_asked_9 : List ST := [.ret (.lit (.bl false))]
def b_law_asked_7 : List ST := .ite (.not (.call 24 [(.ix (.ix (.ix (.var 9) (.lit (.int 1))) (.ix (.var 1) (.var 6))) (.ix (.var 1) (.var 10))), (.call 21 [(.var 3), (.var 4), (.var 6), (.var 10)])])) b_law_asked_9 [] :: b_law_asked_7_1
def b_law_asked_1_4 : List ST := .for_ (.nm 10) .rng1 [(.var 5)] b_law_asked_7 :: b_law_asked_1_5
def b_law_asked_10 : List ST := [.ret (.lit (.bl false))]
def b_law_asked_1_3 : List ST := .ite (.or (.cmp .NotEq (.var 8) (.var 2)) (.not (.call 25 [(.var 9), (.var 5)]))) b_law_asked_10 [] :: b_law_asked_1_4
def b_law_asked_1_2 : List ST := .asg (.nm 8) (.blt .list [(.var 2)]) ::
  .asg (.nm 9) (.call 3 [(.var 5), (.var 8)]) :: b_law_asked_1_3
def b_law_asked_1_1 : List ST := .asg (.nm 7) (.bin .Mod (.blt .int [(.bin .Add (.bin .Add (.var 6) (.lit (.int 1))) (.call 15 [(.var 0), (.bin .Sub (.var 5) (.lit (.int 1)))]))]) (.var 5)) :: b_law_asked_1_2
def b_law_asked_1 : List ST := .asg (.nm 5) (.blt .len [(.var 1)]) ::
  .asg (.nm 6) (.call 15 [(.var 0), (.var 5)]) :: b_law_asked_1_1
def d_law_asked : DefT := ⟨"_law_asked", "_law_asked", topS 36, ["src", "place", "facts", "sums", "closing", "count", "i", "j", "given", "told", "k", "low", "number", "n"], ["src", "place", "facts", "sums", "closing"], [], ⟨5, 14, b_law_asked_1⟩⟩
def b_law_on_chain_1_7 : List ST := [.asg (.nm 9) (.blt .list [(.var 5)]),
  .expr (.meth .insert (.var 9) [(.var 7), (.tup [(.ix (.var 2) (.neg (.lit (.int 1)))), (.ix (.var 2) (.lit (.int 0))), (.bin .Sub (.neg (.lit (.int 1))) (.ix (.var 3) (.neg (.lit (.int 1)))))])]),
  .ret (.call 26 [(.call 3 [(.var 1), (.blt .tuple [(.var 9)])]), (.var 9)])]
def b_law_on_chain_3 : List ST := [.ret (.lit (.bl false))]
def b_law_on_chain_2_1 : List ST := [.ite (.not (.call 32 [(.var 0), (.var 2), (.var 9), (.var 3), (.var 8)])) b_law_on_chain_3 []]
def b_law_on_chain_4 : List ST := [.expr (.meth .insert (.var 9) [(.var 7), (.tup [(.ix (.var 2) (.neg (.lit (.int 1)))), (.ix (.var 2) (.lit (.int 0))), (.bin .Sub (.var 8) (.ix (.var 3) (.neg (.lit (.int 1)))))])])]
def b_law_on_chain_2 : List ST := .asg (.nm 9) (.blt .list [(.var 5)]) ::
  .ite (.cmp .IsNot (.var 8) (.lit (.non))) b_law_on_chain_4 [] :: b_law_on_chain_2_1
def b_law_on_chain_1_6 : List ST := .for_ (.nm 8) .seq [(.var 6)] b_law_on_chain_2 :: b_law_on_chain_1_7
def b_law_on_chain_1_5 : List ST := .asg (.nm 7) (.call 15 [(.var 0), (.blt .len [(.var 5)])]) :: b_law_on_chain_1_6
def b_law_on_chain_5 : List ST := [.asg (.nm 6) (.lst [(.ix (.var 6) (.call 15 [(.var 0), (.lit (.int 3))]))])]
def b_law_on_chain_1_4 : List ST := .ite (.cmp .GtE (.var 1) (.lit (.int 20))) b_law_on_chain_5 [] :: b_law_on_chain_1_5
def b_law_on_chain_1_3 : List ST := .asg (.nm 6) (.lst [(.lit (.non)), (.lit (.int 0)), (.bin .Add (.lit (.int 1)) (.call 15 [(.var 0), (.lit (.int 5))]))]) :: b_law_on_chain_1_4
def b_law_on_chain_1_2 : List ST := .asg (.nm 5) (.call 22 [(.var 0), (.var 2), (.var 3)]) :: b_law_on_chain_1_3
def b_law_on_chain_6 : List ST := [.expr (.meth .append (.var 3) [(.bin .Add (.ix (.var 3) (.neg (.lit (.int 1)))) (.var 4))])]
def b_law_on_chain_1_1 : List ST := .asg (.nm 3) (.lst [(.lit (.int 0))]) ::
  .for_ (.nm 4) .seq [(.call 20 [(.var 0), (.bin .Sub (.var 1) (.lit (.int 1)))])] b_law_on_chain_6 :: b_law_on_chain_1_2
def b_law_on_chain_1 : List ST := .asg (.nm 2) (.call 19 [(.var 0), (.var 1)]) :: b_law_on_chain_1_1
def d_law_on_chain : DefT := ⟨"_law_on_chain", "_law_on_chain", topS 37, ["src", "count", "place", "sums", "n", "chain", "closings", "at", "closing", "facts"], ["src", "count"], [], ⟨2, 10, b_law_on_chain_1⟩⟩
def b_law_on_grid_1_6 : List ST := [.ret (.call 29 [(.var 6), (.var 4), (.lit (.int 0)), (.var 10), (.bin .Sub (.lit (.int 0)) (.ix (.var 5) (.var 10))), (.lit (.bl false))])]
def b_law_on_grid_2 : List ST := [.ret (.lit (.bl false))]
def b_law_on_grid_1_5 : List ST := .ite (.or (.cmp .NotEq (.call 5 [(.var 6), (.blt .tuple [(.var 4)])]) (.tup [])) (.not (.call 27 [(.var 6), (.var 4), (.var 10), (.lit (.int 0)), (.lit (.non)), (.ix (.var 5) (.var 10))]))) b_law_on_grid_2 [] :: b_law_on_grid_1_6
def b_law_on_grid_4 : List ST := [.ret (.lit (.bl false))]
def b_law_on_grid_3 : List ST := [.ite (.not (.call 27 [(.var 6), (.var 4), (.lit (.int 0)), (.var 10), (.ix (.var 5) (.var 10)), (.var 11)])) b_law_on_grid_4 []]
def b_law_on_grid_1_4 : List ST := .asg (.nm 10) (.bin .Sub (.var 6) (.lit (.int 1))) ::
  .for_ (.nm 11) .seq [(.lst [(.ix (.var 5) (.var 10)), (.bin .Sub (.ix (.var 5) (.var 10)) (.lit (.int 1)))])] b_law_on_grid_3 :: b_law_on_grid_1_5
def l_law_on_grid_1 : EX := (.var 9)
def i_law_on_grid_1 : List EX := [(.not (.call 24 [(.ix (.ix (.ix (.var 8) (.lit (.int 1))) (.lit (.int 0))) (.var 9)), (.ix (.var 5) (.var 9))]))]
def b_law_on_grid_5 : List ST := [.ret (.lit (.bl false))]
def b_law_on_grid_1_3 : List ST := .ite (.cmp .NotEq (.lc [9] (.nm 9) .rng1 [(.var 6)] i_law_on_grid_1 l_law_on_grid_1) (.lst [])) b_law_on_grid_5 [] :: b_law_on_grid_1_4
def b_law_on_grid_6 : List ST := [.ret (.lit (.bl false))]
def b_law_on_grid_1_2 : List ST := .ite (.or (.cmp .NotEq (.var 7) (.var 4)) (.not (.call 25 [(.var 8), (.var 6)]))) b_law_on_grid_6 [] :: b_law_on_grid_1_3
def b_law_on_grid_1_1 : List ST := .asg (.nm 4) (.ix (.var 3) (.lit (.int 0))) ::
  .asg (.nm 5) (.ix (.var 3) (.lit (.int 1))) ::
  .asg (.nm 6) (.blt .len [(.var 5)]) ::
  .asg (.nm 7) (.blt .list [(.var 4)]) ::
  .asg (.nm 8) (.call 3 [(.var 6), (.var 7)]) :: b_law_on_grid_1_2
def b_law_on_grid_1 : List ST := .asg (.nm 3) (.call 23 [(.var 0), (.var 1), (.var 2)]) :: b_law_on_grid_1_1
def d_law_on_grid : DefT := ⟨"_law_on_grid", "_law_on_grid", topS 38, ["src", "rows", "wide", "made", "facts", "best", "count", "given", "told", "k", "last", "n"], ["src", "rows", "wide"], [], ⟨3, 12, b_law_on_grid_1⟩⟩
def b_law_1_6 : List ST := [.ret (.call 33 [(.call 14 [(.var 0), (.lit (.int 1))]), (.var 3)])]
def b_law_2 : List ST := [.ret (.call 34 [(.call 14 [(.var 0), (.lit (.int 1))]), (.var 4), (.var 5)])]
def b_law_1_5 : List ST := .ite (.cmp .Eq (.call 15 [(.var 1), (.lit (.int 4))]) (.lit (.int 0))) b_law_2 [] :: b_law_1_6
def b_law_3_2 : List ST := [.asg (.nm 5) (.lit (.int 8))]
def b_law_3_1 : List ST := .asg (.nm 4) (.bin .Add (.lit (.int 2)) (.call 15 [(.var 1), (.lit (.int 6))])) :: b_law_3_2
def b_law_3 : List ST := .asg (.nm 3) (.bin .Add (.lit (.int 20)) (.call 15 [(.var 1), (.lit (.int 41))])) :: b_law_3_1
def b_law_5 : List ST := [.asg (.nm 3) (.lit (.int 100))]
def b_law_4 : List ST := [.ite (.cmp .Eq (.var 2) (.lit (.int 4))) b_law_5 []]
def b_law_1_4 : List ST := .asg (.nm 5) (.lit (.int 4)) ::
  .ite (.cmp .Lt (.var 2) (.lit (.int 4))) b_law_3 b_law_4 :: b_law_1_5
def b_law_1_3 : List ST := .asg (.nm 4) (.bin .Add (.lit (.int 2)) (.call 15 [(.var 1), (.lit (.int 2))])) :: b_law_1_4
def b_law_1_2 : List ST := .asg (.nm 3) (.bin .Add (.lit (.int 8)) (.call 15 [(.var 1), (.lit (.int 7))])) :: b_law_1_3
def b_law_1_1 : List ST := .asg (.nm 2) (.call 15 [(.var 1), (.lit (.int 32))]) :: b_law_1_2
def b_law_1 : List ST := .asg (.nm 1) (.call 14 [(.var 0), (.lit (.int 0))]) :: b_law_1_1
def d_law : DefT := ⟨"law", "law", topS 39, ["script", "src", "pick", "count", "rows", "wide"], ["script"], [], ⟨1, 6, b_law_1⟩⟩
def b_Ways_init_1 : List ST := [.fset (.var 0) 0 (.lst [(.lst [(.lit (.int 0))])]),
  .fset (.var 0) 1 (.lst [(.lst [(.lit (.non))])]),
  .fset (.var 0) 2 (.lst []),
  .fset (.var 0) 3 (.lit (.non))]
def d_Ways_init : DefT := ⟨"__init__", "Ways.__init__", inClass (topS 1) 0, ["self"], ["self"], [], ⟨1, 1, b_Ways_init_1⟩⟩
def b_Ways_new_atom_1_2 : List ST := [.expr (.meth .append (.fld (.var 0) 0) [(.bin .Add (.bin .Mult (.lst [(.lit (.non))]) (.var 1)) (.lst [(.lit (.int 0))]))]),
  .expr (.meth .append (.fld (.var 0) 1) [(.bin .Add (.bin .Mult (.lst [(.lit (.non))]) (.var 1)) (.lst [(.lit (.non))]))]),
  .ret (.var 1)]
def b_Ways_new_atom_2 : List ST := [.expr (.meth .append (.var 2) [(.lit (.non))])]
def b_Ways_new_atom_1_1 : List ST := .for_ (.nm 2) .seq [(.fld (.var 0) 1)] b_Ways_new_atom_2 :: b_Ways_new_atom_1_2
def b_Ways_new_atom_3 : List ST := [.expr (.meth .append (.var 2) [(.lit (.non))])]
def b_Ways_new_atom_1 : List ST := .asg (.nm 1) (.blt .len [(.fld (.var 0) 0)]) ::
  .for_ (.nm 2) .seq [(.fld (.var 0) 0)] b_Ways_new_atom_3 :: b_Ways_new_atom_1_1
def d_Ways_new_atom : DefT := ⟨"new_atom", "Ways.new_atom", inClass (topS 1) 1, ["self", "number", "row"], ["self"], [], ⟨1, 3, b_Ways_new_atom_1⟩⟩
def b_Ways_add_1_3 : List ST := [.ret (.var 4)]
def b_Ways_add_2 : List ST := [.expr (.mcall 7 [0] (.var 0) [(.var 4)])]
def b_Ways_add_1_2 : List ST := .asg (.nm 6) (.ix (.ix (.fld (.var 0) 0) (.var 1)) (.var 2)) ::
  .ite (.or (.cmp .Is (.var 6) (.lit (.non))) (.cmp .Lt (.var 3) (.var 6))) b_Ways_add_2 [] :: b_Ways_add_1_3
def b_Ways_add_3_1 : List ST := [.ret (.var 4)]
def b_Ways_add_3 : List ST := .fset (.var 0) 3 (.bin .Add (.tup [(.var 4)]) (.mcall 8 [0] (.var 0) [(.var 2), (.var 1)])) :: b_Ways_add_3_1
def b_Ways_add_1_1 : List ST := .asg (.nm 5) (.ix (.ix (.fld (.var 0) 0) (.var 2)) (.var 1)) ::
  .ite (.and (.cmp .IsNot (.var 5) (.lit (.non))) (.cmp .Lt (.bin .Add (.var 5) (.var 3)) (.lit (.int 0)))) b_Ways_add_3 [] :: b_Ways_add_1_2
def b_Ways_add_4 : List ST := [.ret (.var 4)]
def b_Ways_add_1 : List ST := .asg (.nm 4) (.blt .len [(.fld (.var 0) 2)]) ::
  .expr (.meth .append (.fld (.var 0) 2) [(.tup [(.var 1), (.var 2), (.var 3)])]) ::
  .ite (.cmp .IsNot (.fld (.var 0) 3) (.lit (.non))) b_Ways_add_4 [] :: b_Ways_add_1_1
def d_Ways_add : DefT := ⟨"add", "Ways.add", inClass (topS 1) 2, ["self", "x", "y", "n", "number", "back", "there"], ["self", "x", "y", "n"], [], ⟨4, 7, b_Ways_add_1⟩⟩
def b_Ways_spread_4 : List ST := [.aset (.var 11) (.var 6) (.bin .Add (.var 13) (.var 7)),
  .aset (.var 12) (.var 6) (.ite (.cmp .Eq (.var 9) (.var 2)) (.var 1) (.ix (.var 12) (.var 2)))]
def b_Ways_spread_3 : List ST := [.ite (.or (.cmp .Is (.ix (.var 11) (.var 6)) (.lit (.non))) (.cmp .Lt (.bin .Add (.var 13) (.var 7)) (.ix (.var 11) (.var 6)))) b_Ways_spread_4 []]
def b_Ways_spread_2 : List ST := [.asg (.nm 11) (.ix (.fld (.var 0) 0) (.var 9)),
  .asg (.nm 12) (.ix (.fld (.var 0) 1) (.var 9)),
  .asg (.nm 13) (.ix (.var 11) (.var 2)),
  .for_ (.tp [(.nm 6), (.nm 7)]) .seq [(.var 5)] b_Ways_spread_3]
def b_Ways_spread_1_2 : List ST := [.for_ (.nm 9) .seq [(.var 8)] b_Ways_spread_2]
def b_Ways_spread_6 : List ST := [.expr (.meth .append (.var 8) [(.var 9)])]
def b_Ways_spread_5 : List ST := [.ite (.and (.cmp .IsNot (.ix (.var 10) (.var 2)) (.lit (.non))) (.or (.cmp .Is (.ix (.var 10) (.var 3)) (.lit (.non))) (.cmp .Lt (.bin .Add (.ix (.var 10) (.var 2)) (.var 4)) (.ix (.var 10) (.var 3))))) b_Ways_spread_6 []]
def b_Ways_spread_1_1 : List ST := .asg (.nm 8) (.lst []) ::
  .for_ (.tp [(.nm 9), (.nm 10)]) .enum [(.fld (.var 0) 0)] b_Ways_spread_5 :: b_Ways_spread_1_2
def b_Ways_spread_8 : List ST := [.expr (.meth .append (.var 5) [(.tup [(.var 6), (.bin .Add (.var 4) (.var 7))])])]
def b_Ways_spread_7 : List ST := [.ite (.and (.cmp .IsNot (.var 7) (.lit (.non))) (.or (.cmp .Is (.ix (.ix (.fld (.var 0) 0) (.var 2)) (.var 6)) (.lit (.non))) (.cmp .Lt (.bin .Add (.var 4) (.var 7)) (.ix (.ix (.fld (.var 0) 0) (.var 2)) (.var 6))))) b_Ways_spread_8 []]
def b_Ways_spread_1 : List ST := .asg (.tp [(.nm 2), (.nm 3), (.nm 4)]) (.ix (.fld (.var 0) 2) (.var 1)) ::
  .asg (.nm 5) (.lst []) ::
  .for_ (.tp [(.nm 6), (.nm 7)]) .enum [(.ix (.fld (.var 0) 0) (.var 3))] b_Ways_spread_7 :: b_Ways_spread_1_1
def d_Ways_spread : DefT := ⟨"_spread", "Ways._spread", inClass (topS 1) 3, ["self", "number", "x", "y", "n", "ends", "j", "tail", "begins", "i", "row", "sums", "first", "head"], ["self", "number"], [], ⟨2, 14, b_Ways_spread_1⟩⟩
def b_Ways_path_1_1 : List ST := [.ret (.blt .tuple [(.var 3)])]
def b_Ways_path_2 : List ST := [.asg (.nm 4) (.ix (.ix (.fld (.var 0) 1) (.var 1)) (.var 2)),
  .expr (.meth .append (.var 3) [(.var 4)]),
  .asg (.nm 1) (.ix (.ix (.fld (.var 0) 2) (.var 4)) (.lit (.int 1)))]
def b_Ways_path_1 : List ST := .asg (.nm 3) (.lst []) ::
  .whl (.cmp .NotEq (.var 1) (.var 2)) b_Ways_path_2 :: b_Ways_path_1_1
def d_Ways_path : DefT := ⟨"path", "Ways.path", inClass (topS 1) 4, ["self", "x", "y", "numbers", "number"], ["self", "x", "y"], [], ⟨3, 5, b_Ways_path_1⟩⟩
abbrev i_ways_of : Nat := 0
abbrev i_any_solution : Nat := 1
abbrev i_tied_atoms : Nat := 2
abbrev i_least : Nat := 3
abbrev i_follows : Nat := 4
abbrev i_ties : Nat := 5
abbrev i_form_value : Nat := 6
abbrev i_lowest_values : Nat := 7
abbrev i_weights_between : Nat := 8
abbrev i_row_of : Nat := 9
abbrev i_apart_in : Nat := 10
abbrev i_row : Nat := 11
abbrev i_apart : Nat := 12
abbrev i_law_cell : Nat := 13
abbrev i_law_src : Nat := 14
abbrev i_law_draw : Nat := 15
abbrev i_law_is_int : Nat := 16
abbrev i_law_way : Nat := 17
abbrev i_law_solves : Nat := 18
abbrev i_law_around : Nat := 19
abbrev i_law_lengths : Nat := 20
abbrev i_law_low : Nat := 21
abbrev i_law_chain : Nat := 22
abbrev i_law_grid : Nat := 23
abbrev i_law_entry : Nat := 24
abbrev i_law_is_table : Nat := 25
abbrev i_law_is_cycle : Nat := 26
abbrev i_law_followed : Nat := 27
abbrev i_law_form : Nat := 28
abbrev i_law_parted : Nat := 29
abbrev i_law_ties_right : Nat := 30
abbrev i_law_row_right : Nat := 31
abbrev i_law_asked : Nat := 32
abbrev i_law_on_chain : Nat := 33
abbrev i_law_on_grid : Nat := 34
abbrev i_law : Nat := 35
abbrev fl_sums : Nat := 0
abbrev fl_first : Nat := 1
abbrev fl_facts : Nat := 2
abbrev fl_cycle : Nat := 3
abbrev m_Ways_init : Nat := 1000004
abbrev m_Ways_new_atom : Nat := 1000005
abbrev m_Ways_add : Nat := 1000006
abbrev m_Ways_spread : Nat := 1000007
abbrev m_Ways_path : Nat := 1000008
abbrev c_cls_Ways : Nat := 2000000
def tbl : List DefT := [d_ways_of, d_any_solution, d_tied_atoms, d_least, d_follows, d_ties, d_form_value, d_lowest_values, d_weights_between, d_row_of, d_apart_in, d_row, d_apart, d_law_cell, d_law_src, d_law_draw, d_law_is_int, d_law_way, d_law_solves, d_law_around, d_law_lengths, d_law_low, d_law_chain, d_law_grid, d_law_entry, d_law_is_table, d_law_is_cycle, d_law_followed, d_law_form, d_law_parted, d_law_ties_right, d_law_row_right, d_law_asked, d_law_on_chain, d_law_on_grid, d_law]
def mts : List MetT := [⟨0, 4, d_Ways_init⟩, ⟨0, 5, d_Ways_new_atom⟩, ⟨0, 6, d_Ways_add⟩, ⟨0, 7, d_Ways_spread⟩, ⟨0, 8, d_Ways_path⟩]
def cts : List ClsT := [⟨0, "Ways", 0, 4⟩]
def TT : Nat → Option Fn := Tof tbl mts cts
def gl : List (Str × GE) := ("ways_of", .fn 0 2) :: ("any_solution", .fn 1 1) :: ("tied_atoms", .fn 2 1) :: ("least", .fn 3 2) :: ("follows", .fn 4 5) :: ("ties", .fn 5 2) :: ("form_value", .fn 6 2) :: ("lowest_values", .fn 7 1) :: ("weights_between", .fn 8 2) :: ("row_of", .fn 9 1) :: ("apart_in", .fn 10 2) :: ("row", .fn 11 2) :: ("apart", .fn 12 3) :: ("_law_cell", .fn 13 2) :: ("_law_src", .fn 14 2) :: ("_law_draw", .fn 15 2) :: ("_law_is_int", .fn 16 1) :: ("_law_way", .fn 17 4) :: ("_law_solves", .fn 18 3) :: ("_law_around", .fn 19 2) :: ("_law_lengths", .fn 20 2) :: ("_law_low", .fn 21 4) :: ("_law_chain", .fn 22 3) :: ("_law_grid", .fn 23 3) :: ("_law_entry", .fn 24 2) :: ("_law_is_table", .fn 25 2) :: ("_law_is_cycle", .fn 26 2) :: ("_law_followed", .fn 27 6) :: ("_law_form", .fn 28 3) :: ("_law_parted", .fn 29 6) :: ("_law_ties_right", .fn 30 4) :: ("_law_row_right", .fn 31 5) :: ("_law_asked", .fn 32 5) :: ("_law_on_chain", .fn 33 2) :: ("_law_on_grid", .fn 34 3) :: ("law", .fn 35 1) :: ("Ways", .cls 2000000 0) :: ("abs", .blt) :: ("bool", .blt) :: ("enumerate", .blt) :: ("int", .blt) :: ("isinstance", .blt) :: ("len", .blt) :: ("list", .blt) :: ("min", .blt) :: ("range", .blt) :: ("str", .blt) :: ("tuple", .blt) :: []
def ly : Ly := ⟨gl, ["sums", "first", "facts", "cycle", "__init__", "new_atom", "add", "_spread", "path"], 4, [(4, [0]), (5, [0]), (6, [0]), (7, [0]), (8, [0])]⟩
theorem o_ways_of : DefOk ly d_ways_of := ⟨⟨rfl, rfl, rfl, by decide +kernel, rfl, by decide +kernel, by decide +kernel⟩, by kernel_rfl, rfl, rfl, fun _ _ _ _ _ _ us hl => match us, hl with | [_, _], _ => rfl⟩
theorem o_any_solution : DefOk ly d_any_solution := ⟨⟨rfl, rfl, rfl, by decide +kernel, rfl, by decide +kernel, by decide +kernel⟩, by kernel_rfl, rfl, rfl, fun _ _ _ _ _ _ us hl => match us, hl with | [_], _ => rfl⟩
theorem o_tied_atoms : DefOk ly d_tied_atoms := ⟨⟨rfl, rfl, rfl, by decide +kernel, rfl, by decide +kernel, by decide +kernel⟩, by kernel_rfl, rfl, rfl, fun _ _ _ _ _ _ us hl => match us, hl with | [_], _ => rfl⟩
theorem o_least : DefOk ly d_least := ⟨⟨rfl, rfl, rfl, by decide +kernel, rfl, by decide +kernel, by decide +kernel⟩, by kernel_rfl, rfl, rfl, fun _ _ _ _ _ _ us hl => match us, hl with | [_, _], _ => rfl⟩
theorem o_follows : DefOk ly d_follows := ⟨⟨rfl, rfl, rfl, by decide +kernel, rfl, by decide +kernel, by decide +kernel⟩, by kernel_rfl, rfl, rfl, fun _ _ _ _ _ _ us hl => match us, hl with | [_, _, _, _, _], _ => rfl⟩
theorem o_ties : DefOk ly d_ties := ⟨⟨rfl, rfl, rfl, by decide +kernel, rfl, by decide +kernel, by decide +kernel⟩, by kernel_rfl, rfl, rfl, fun _ _ _ _ _ _ us hl => match us, hl with | [_, _], _ => rfl⟩
theorem o_form_value : DefOk ly d_form_value := ⟨⟨rfl, rfl, rfl, by decide +kernel, rfl, by decide +kernel, by decide +kernel⟩, by kernel_rfl, rfl, rfl, fun _ _ _ _ _ _ us hl => match us, hl with | [_, _], _ => rfl⟩
theorem o_lowest_values : DefOk ly d_lowest_values := ⟨⟨rfl, rfl, rfl, by decide +kernel, rfl, by decide +kernel, by decide +kernel⟩, by kernel_rfl, rfl, rfl, fun _ _ _ _ _ _ us hl => match us, hl with | [_], _ => rfl⟩
theorem o_weights_between : DefOk ly d_weights_between := ⟨⟨rfl, rfl, rfl, by decide +kernel, rfl, by decide +kernel, by decide +kernel⟩, by kernel_rfl, rfl, rfl, fun _ _ _ _ _ _ us hl => match us, hl with | [_, _], _ => rfl⟩
theorem o_row_of : DefOk ly d_row_of := ⟨⟨rfl, rfl, rfl, by decide +kernel, rfl, by decide +kernel, by decide +kernel⟩, by kernel_rfl, rfl, rfl, fun _ _ _ _ _ _ us hl => match us, hl with | [_], _ => rfl⟩
theorem o_apart_in : DefOk ly d_apart_in := ⟨⟨rfl, rfl, rfl, by decide +kernel, rfl, by decide +kernel, by decide +kernel⟩, by kernel_rfl, rfl, rfl, fun _ _ _ _ _ _ us hl => match us, hl with | [_, _], _ => rfl⟩
theorem o_row : DefOk ly d_row := ⟨⟨rfl, rfl, rfl, by decide +kernel, rfl, by decide +kernel, by decide +kernel⟩, by kernel_rfl, rfl, rfl, fun _ _ _ _ _ _ us hl => match us, hl with | [_, _], _ => rfl⟩
theorem o_apart : DefOk ly d_apart := ⟨⟨rfl, rfl, rfl, by decide +kernel, rfl, by decide +kernel, by decide +kernel⟩, by kernel_rfl, rfl, rfl, fun _ _ _ _ _ _ us hl => match us, hl with | [_, _, _], _ => rfl⟩
theorem o_law_cell : DefOk ly d_law_cell := ⟨⟨rfl, rfl, rfl, by decide +kernel, rfl, by decide +kernel, by decide +kernel⟩, by kernel_rfl, rfl, rfl, fun _ _ _ _ _ _ us hl => match us, hl with | [_, _], _ => rfl⟩
theorem o_law_src : DefOk ly d_law_src := ⟨⟨rfl, rfl, rfl, by decide +kernel, rfl, by decide +kernel, by decide +kernel⟩, by kernel_rfl, rfl, rfl, fun _ _ _ _ _ _ us hl => match us, hl with | [_, _], _ => rfl⟩
theorem o_law_draw : DefOk ly d_law_draw := ⟨⟨rfl, rfl, rfl, by decide +kernel, rfl, by decide +kernel, by decide +kernel⟩, by kernel_rfl, rfl, rfl, fun _ _ _ _ _ _ us hl => match us, hl with | [_, _], _ => rfl⟩
theorem o_law_is_int : DefOk ly d_law_is_int := ⟨⟨rfl, rfl, rfl, by decide +kernel, rfl, by decide +kernel, by decide +kernel⟩, by kernel_rfl, rfl, rfl, fun _ _ _ _ _ _ us hl => match us, hl with | [_], _ => rfl⟩
theorem o_law_way : DefOk ly d_law_way := ⟨⟨rfl, rfl, rfl, by decide +kernel, rfl, by decide +kernel, by decide +kernel⟩, by kernel_rfl, rfl, rfl, fun _ _ _ _ _ _ us hl => match us, hl with | [_, _, _, _], _ => rfl⟩
theorem o_law_solves : DefOk ly d_law_solves := ⟨⟨rfl, rfl, rfl, by decide +kernel, rfl, by decide +kernel, by decide +kernel⟩, by kernel_rfl, rfl, rfl, fun _ _ _ _ _ _ us hl => match us, hl with | [_, _, _], _ => rfl⟩
theorem o_law_around : DefOk ly d_law_around := ⟨⟨rfl, rfl, rfl, by decide +kernel, rfl, by decide +kernel, by decide +kernel⟩, by kernel_rfl, rfl, rfl, fun _ _ _ _ _ _ us hl => match us, hl with | [_, _], _ => rfl⟩
theorem o_law_lengths : DefOk ly d_law_lengths := ⟨⟨rfl, rfl, rfl, by decide +kernel, rfl, by decide +kernel, by decide +kernel⟩, by kernel_rfl, rfl, rfl, fun _ _ _ _ _ _ us hl => match us, hl with | [_, _], _ => rfl⟩
theorem o_law_low : DefOk ly d_law_low := ⟨⟨rfl, rfl, rfl, by decide +kernel, rfl, by decide +kernel, by decide +kernel⟩, by kernel_rfl, rfl, rfl, fun _ _ _ _ _ _ us hl => match us, hl with | [_, _, _, _], _ => rfl⟩
theorem o_law_chain : DefOk ly d_law_chain := ⟨⟨rfl, rfl, rfl, by decide +kernel, rfl, by decide +kernel, by decide +kernel⟩, by kernel_rfl, rfl, rfl, fun _ _ _ _ _ _ us hl => match us, hl with | [_, _, _], _ => rfl⟩
theorem o_law_grid : DefOk ly d_law_grid := ⟨⟨rfl, rfl, rfl, by decide +kernel, rfl, by decide +kernel, by decide +kernel⟩, by kernel_rfl, rfl, rfl, fun _ _ _ _ _ _ us hl => match us, hl with | [_, _, _], _ => rfl⟩
theorem o_law_entry : DefOk ly d_law_entry := ⟨⟨rfl, rfl, rfl, by decide +kernel, rfl, by decide +kernel, by decide +kernel⟩, by kernel_rfl, rfl, rfl, fun _ _ _ _ _ _ us hl => match us, hl with | [_, _], _ => rfl⟩
theorem o_law_is_table : DefOk ly d_law_is_table := ⟨⟨rfl, rfl, rfl, by decide +kernel, rfl, by decide +kernel, by decide +kernel⟩, by kernel_rfl, rfl, rfl, fun _ _ _ _ _ _ us hl => match us, hl with | [_, _], _ => rfl⟩
theorem o_law_is_cycle : DefOk ly d_law_is_cycle := ⟨⟨rfl, rfl, rfl, by decide +kernel, rfl, by decide +kernel, by decide +kernel⟩, by kernel_rfl, rfl, rfl, fun _ _ _ _ _ _ us hl => match us, hl with | [_, _], _ => rfl⟩
theorem o_law_followed : DefOk ly d_law_followed := ⟨⟨rfl, rfl, rfl, by decide +kernel, rfl, by decide +kernel, by decide +kernel⟩, by kernel_rfl, rfl, rfl, fun _ _ _ _ _ _ us hl => match us, hl with | [_, _, _, _, _, _], _ => rfl⟩
theorem o_law_form : DefOk ly d_law_form := ⟨⟨rfl, rfl, rfl, by decide +kernel, rfl, by decide +kernel, by decide +kernel⟩, by kernel_rfl, rfl, rfl, fun _ _ _ _ _ _ us hl => match us, hl with | [_, _, _], _ => rfl⟩
theorem o_law_parted : DefOk ly d_law_parted := ⟨⟨rfl, rfl, rfl, by decide +kernel, rfl, by decide +kernel, by decide +kernel⟩, by kernel_rfl, rfl, rfl, fun _ _ _ _ _ _ us hl => match us, hl with | [_, _, _, _, _, _], _ => rfl⟩
theorem o_law_ties_right : DefOk ly d_law_ties_right := ⟨⟨rfl, rfl, rfl, by decide +kernel, rfl, by decide +kernel, by decide +kernel⟩, by kernel_rfl, rfl, rfl, fun _ _ _ _ _ _ us hl => match us, hl with | [_, _, _, _], _ => rfl⟩
theorem o_law_row_right : DefOk ly d_law_row_right := ⟨⟨rfl, rfl, rfl, by decide +kernel, rfl, by decide +kernel, by decide +kernel⟩, by kernel_rfl, rfl, rfl, fun _ _ _ _ _ _ us hl => match us, hl with | [_, _, _, _, _], _ => rfl⟩
theorem o_law_asked : DefOk ly d_law_asked := ⟨⟨rfl, rfl, rfl, by decide +kernel, rfl, by decide +kernel, by decide +kernel⟩, by kernel_rfl, rfl, rfl, fun _ _ _ _ _ _ us hl => match us, hl with | [_, _, _, _, _], _ => rfl⟩
theorem o_law_on_chain : DefOk ly d_law_on_chain := ⟨⟨rfl, rfl, rfl, by decide +kernel, rfl, by decide +kernel, by decide +kernel⟩, by kernel_rfl, rfl, rfl, fun _ _ _ _ _ _ us hl => match us, hl with | [_, _], _ => rfl⟩
theorem o_law_on_grid : DefOk ly d_law_on_grid := ⟨⟨rfl, rfl, rfl, by decide +kernel, rfl, by decide +kernel, by decide +kernel⟩, by kernel_rfl, rfl, rfl, fun _ _ _ _ _ _ us hl => match us, hl with | [_, _, _], _ => rfl⟩
theorem o_law : DefOk ly d_law := ⟨⟨rfl, rfl, rfl, by decide +kernel, rfl, by decide +kernel, by decide +kernel⟩, by kernel_rfl, rfl, rfl, fun _ _ _ _ _ _ us hl => match us, hl with | [_], _ => rfl⟩
theorem o_Ways_init : DefOk ly d_Ways_init := ⟨⟨rfl, rfl, rfl, by decide +kernel, rfl, by decide +kernel, by decide +kernel⟩, by kernel_rfl, rfl, rfl, fun _ _ _ _ _ _ us hl => match us, hl with | [_], _ => rfl⟩
theorem o_Ways_new_atom : DefOk ly d_Ways_new_atom := ⟨⟨rfl, rfl, rfl, by decide +kernel, rfl, by decide +kernel, by decide +kernel⟩, by kernel_rfl, rfl, rfl, fun _ _ _ _ _ _ us hl => match us, hl with | [_], _ => rfl⟩
theorem o_Ways_add : DefOk ly d_Ways_add := ⟨⟨rfl, rfl, rfl, by decide +kernel, rfl, by decide +kernel, by decide +kernel⟩, by kernel_rfl, rfl, rfl, fun _ _ _ _ _ _ us hl => match us, hl with | [_, _, _, _], _ => rfl⟩
theorem o_Ways_spread : DefOk ly d_Ways_spread := ⟨⟨rfl, rfl, rfl, by decide +kernel, rfl, by decide +kernel, by decide +kernel⟩, by kernel_rfl, rfl, rfl, fun _ _ _ _ _ _ us hl => match us, hl with | [_, _], _ => rfl⟩
theorem o_Ways_path : DefOk ly d_Ways_path := ⟨⟨rfl, rfl, rfl, by decide +kernel, rfl, by decide +kernel, by decide +kernel⟩, by kernel_rfl, rfl, rfl, fun _ _ _ _ _ _ us hl => match us, hl with | [_, _, _], _ => rfl⟩
end K33

namespace K33
open PySem PX Wy
section
variable {j : Nat} {E : XQ}
theorem init_ok {s : Sto} {Q : QE} (h : ∀ s', WAt s' s.length 1 M0 (fun _ _ => none) [] → s'.length = s.length + 6 → Kp (fun _ => False) s s' → Q .non s') : Lv TT (j + 1) 1000004 [.ref s.length] (s ++ [.ins 0 []]) Q E := by
  refine lv_in (fn := d_Ways_init.fn) rfl rfl ?_
  dsimp only [d_Ways_init, b_Ways_init_1]
  walk_at "run"
  simp only [List.length_append, List.length_cons, List.length_nil, List.append_assoc, List.cons_append, List.nil_append]
  refine ⟨by decide, by decide, fset_ref get_new (by simp) ?_⟩
  rw [set_new]
  simp only [List.length_append, List.length_cons, List.length_nil, List.append_assoc, List.cons_append, List.nil_append]
  refine ⟨by decide, by decide, fset_ref get_new (by simp [fPut]) ?_⟩
  rw [set_new]
  simp only [List.length_append, List.length_cons, List.length_nil, List.append_assoc, List.cons_append, List.nil_append]
  refine ⟨by decide, fset_ref get_new (by simp [fPut]) ?_⟩
  rw [set_new]
  refine fset_ref get_new (by simp [fPut]) ?_
  rw [set_new]
  refine h _ ⟨get_new, get_off, fun i hi => ?_, get_off, fun i hi => ?_, get_off, by decide⟩ (by simp) Kp.push
  · have : i = 0 := by omega
    subst this
    exact get_off
  · have : i = 0 := by omega
    subst this
    exact get_off
/-- the rows while one more entry is put behind each -/
structure Half (s : Sto) (L n : Nat) (k k' : Nat) : Prop where
  ob : s[L]? = some (.ins 0 [(0, .ref (L + 2)), (1, .ref (L + 4)), (2, .ref (L + 5)), (3, .non)])
  s1 : s[L + 2]? = some (.lst (refsD (rs L) n))
  sr : ∀ i, i < n → s[rs L i]? = some (.lst (rowD (M0 i) (if i < k then n + 1 else n)))
  f1 : s[L + 4]? = some (.lst (refsD (rf L) n))
  fr : ∀ i, i < n → s[rf L i]? = some (.lst (rowD (fun _ => none) (if i < k' then n + 1 else n)))
  fc : s[L + 5]? = some (.lst [])
theorem atom_ok {s : Sto} {L n : Nat} (hn : n < 1000) (w : WAt s L n M0 (fun _ _ => none) []) (hl : s.length + 2 = L + 8 * n) {Q : QE}
    (h : ∀ s', WAt s' L (n + 1) M0 (fun _ _ => none) [] → s'.length + 2 = L + 8 * (n + 1) → Kp (fun p => L ≤ p) s s' → Q (.int n) s') : Lv TT (j + 1) 1000005 [.ref L] s Q E := by
  refine lv_in (fn := d_Ways_new_atom.fn) rfl rfl ?_
  dsimp only [d_Ways_new_atom, b_Ways_new_atom_1]
  walk_at "run"
  refine fld_ref w.ob rfl (len_ref w.s1 (fld_ref w.ob rfl (it_ref w.s1 ?_)))
  rw [refsD_len]
  have hp := w.np
  have h0 : Half s L n 0 0 := ⟨w.ob, w.s1, fun i hi => by rw [if_neg (by omega)]; exact w.sr i hi, w.f1, fun i hi => by rw [if_neg (by omega)]; exact w.fr i hi, w.fc⟩
  refine for_at (I := fun k σ s' => (∃ x, σ = [some (.ref L), some (.int n), x]) ∧ Half s' L n k 0 ∧ s'.length = s.length ∧ Kp (fun p => L ≤ p) s s') ⟨⟨_, rfl⟩, h0, rfl, Kp.refl _ _⟩ ?_ ?_
  · rintro k x σ s1 N' hx ⟨⟨x2, rfl⟩, hf, hl1, kp⟩ hN
    obtain ⟨hk, rfl⟩ := refsD_of hx
    refine ⟨hf.s1, ?_⟩
    unfold b_Ways_new_atom_3
    walk_at "run"
    have e := hf.sr k hk
    rw [if_neg (by omega)] at e
    refine ⟨mty_ref e rfl, app_ref e (by rw [rowD_len]; show _ < 2 ^ 24; omega) (hN.nx _ _ ⟨⟨_, rfl⟩, ?_, by simpa using hl1, kp.trans (Kp.set (by have := rs_lt (L := L) hk; omega))⟩)⟩
    have a := rs_ne (L := L) (i := k)
    refine ⟨get_ne hf.ob a.1.symm, get_ne hf.s1 a.2.1.symm, fun i hi => ?_, get_ne hf.f1 a.2.2.1.symm, fun i hi => get_ne (hf.fr i hi) (fun z => rs_ne_rf z.symm), get_ne hf.fc a.2.2.2.symm⟩
    by_cases ei : i = k
    · subst ei
      rw [get_set e, if_pos (by omega), ← rowD_snoc]
      have : M0 i n = none := if_neg (by omega)
      rw [this]
      rfl
    · have e1 := hf.sr i hi
      have : (if i < k + 1 then n + 1 else n) = if i < k then n + 1 else n := by
        by_cases i < k
        · rw [if_pos (by omega), if_pos (by omega)]
        · rw [if_neg (by omega), if_neg (by omega)]
      rw [this]
      exact get_ne e1 (fun z => ei (rs_inj z))
  · rintro σ s1 ⟨⟨x2, rfl⟩, hf, hl1, kp⟩
    refine ⟨hf.s1, ?_⟩
    rw [refsD_len] at hf
    unfold b_Ways_new_atom_1_1
    walk_at "run"
    refine fld_ref hf.ob rfl (it_ref hf.f1 ?_)
    refine for_at (I := fun k σ s' => (∃ x, σ = [some (.ref L), some (.int n), x]) ∧ Half s' L n n k ∧ s'.length = s.length ∧ Kp (fun p => L ≤ p) s s') ⟨⟨_, rfl⟩, hf, hl1, kp⟩ ?_ ?_
    · rintro k x σ s1 N' hx ⟨⟨x2, rfl⟩, hf, hl1, kp⟩ hN
      obtain ⟨hk, rfl⟩ := refsD_of hx
      refine ⟨hf.f1, ?_⟩
      unfold b_Ways_new_atom_2
      walk_at "run"
      have e := hf.fr k hk
      rw [if_neg (by omega)] at e
      refine ⟨mty_ref e rfl, app_ref e (by rw [rowD_len]; show _ < 2 ^ 24; omega) (hN.nx _ _ ⟨⟨_, rfl⟩, ?_, by simpa using hl1, kp.trans (Kp.set (by have := rf_lt (L := L) hk; omega))⟩)⟩
      have a := rf_ne (L := L) (i := k)
      refine ⟨get_ne hf.ob a.1.symm, get_ne hf.s1 a.2.1.symm, fun i hi => get_ne (hf.sr i hi) rs_ne_rf, get_ne hf.f1 a.2.2.1.symm, fun i hi => ?_, get_ne hf.fc a.2.2.2.symm⟩
      by_cases ei : i = k
      · subst ei
        rw [get_set e, if_pos (by omega), ← rowD_snoc]
        rfl
      · have e1 := hf.fr i hi
        have : (if i < k + 1 then n + 1 else n) = if i < k then n + 1 else n := by
          by_cases i < k
          · rw [if_pos (by omega), if_pos (by omega)]
          · rw [if_neg (by omega), if_neg (by omega)]
        rw [this]
        exact get_ne e1 (fun z => ei (rf_inj z))
    · rintro σ s1 ⟨⟨x2, rfl⟩, hf, hl1, kp⟩
      refine ⟨hf.f1, ?_⟩
      rw [refsD_len] at hf
      unfold b_Ways_new_atom_1_2
      walk_at "run"
      refine fld_ref hf.ob rfl ⟨mty_ref hf.s1 rfl, by decide, mul_ref get_new (by omega) (by omega) (by simp; show _ ≤ 2 ^ 24; omega) ?_⟩
      rw [Int.toNat_natCast, rowD_none]
      simp only [List.length_append, List.length_cons, List.length_nil, List.append_assoc, List.cons_append, List.nil_append, Nat.zero_add, Nat.reduceAdd]
      refine ⟨by decide, add_refs (get_off (k := 1)) (get_off (k := 2)) (by simp [rowD_len]; show _ ≤ 2 ^ 24; omega) ?_⟩
      have e0 : rowD (fun _ => none) n ++ [D.int 0] = rowD (M0 n) (n + 1) := by
        rw [← rowD_snoc]
        have : M0 n n = some 0 := if_pos rfl
        rw [this]
        have : rowD (fun _ => none) n = rowD (M0 n) n := rowD_congr fun k hk => (if_neg (by omega)).symm
        rw [this]
        rfl
      rw [e0]
      simp only [List.length_append, List.length_cons, List.length_nil, List.append_assoc, List.cons_append, List.nil_append, Nat.zero_add, Nat.reduceAdd]
      refine app_ref (get_old hf.s1) (by rw [refsD_len]; show _ < 2 ^ 24; omega) ?_
      have er : s1.length + 3 = rs L n := by unfold rs; rw [if_neg (by omega)]; omega
      rw [set_old hf.s1, er, refsD_snoc]
      have a0 : ∀ {p : Nat} {o o' : Ob}, s1[p]? = some o → p ≠ L + 2 → (s1.set (L + 2) o' ++ [Ob.lst [D.non], Ob.lst (rowD (fun _ => none) n), Ob.lst [D.int 0], Ob.lst (rowD (M0 n) (n + 1))])[p]? = some o := fun h hne => get_old (get_ne h hne)
      refine fld_ref (a0 hf.ob (by omega)) rfl ⟨mty_ref (a0 hf.f1 (by omega)) rfl, by decide, mul_ref get_new (by omega) (by omega) (by simp; show _ ≤ 2 ^ 24; omega) ?_⟩
      rw [Int.toNat_natCast, rowD_none]
      have l1 : (s1.set (L + 2) (Ob.lst (refsD (rs L) (n + 1)))).length = s1.length := by simp
      have f2 : (s1.set (L + 2) (Ob.lst (refsD (rs L) (n + 1))))[L + 4]? = some (.lst (refsD (rf L) n)) := get_ne hf.f1 (by omega)
      have k1 : ∀ {p : Nat} {o : Ob}, s1[p]? = some o → p ≠ L + 2 → (s1.set (L + 2) (Ob.lst (refsD (rs L) (n + 1))))[p]? = some o := fun h hne => get_ne h hne
      have k2 : (s1.set (L + 2) (Ob.lst (refsD (rs L) (n + 1))))[L + 2]? = some (.lst (refsD (rs L) (n + 1))) := get_set hf.s1
      generalize (s1.set (L + 2) (Ob.lst (refsD (rs L) (n + 1)))) = t at l1 f2 k1 k2
      simp only [List.length_append, List.length_cons, List.length_nil, List.append_assoc, List.cons_append, List.nil_append, Nat.zero_add, Nat.reduceAdd]
      refine ⟨by decide, add_refs (get_off (k := 5)) (get_off (k := 6)) (by simp [rowD_len]; show _ ≤ 2 ^ 24; omega) ?_⟩
      have e1 : rowD (fun _ => none) n ++ [D.non] = rowD (fun _ => none) (n + 1) := by rw [← rowD_snoc]; rfl
      rw [e1]
      simp only [List.length_append, List.length_cons, List.length_nil, List.append_assoc, List.cons_append, List.nil_append, Nat.zero_add, Nat.reduceAdd]
      refine app_ref (get_old f2) (by rw [refsD_len]; show _ < 2 ^ 24; omega) ?_
      have er' : t.length + 7 = rf L n := by unfold rf; rw [if_neg (by omega)]; omega
      rw [set_old f2, er', refsD_snoc]
      have l2 : (t.set (L + 4) (Ob.lst (refsD (rf L) (n + 1)))).length = t.length := by simp
      have k3 : ∀ {p : Nat} {o : Ob}, s1[p]? = some o → p ≠ L + 2 → p ≠ L + 4 → (t.set (L + 4) (Ob.lst (refsD (rf L) (n + 1))))[p]? = some o := fun h h1 h2 => get_ne (k1 h h1) h2
      have k4 : (t.set (L + 4) (Ob.lst (refsD (rf L) (n + 1))))[L + 2]? = some (.lst (refsD (rs L) (n + 1))) := get_ne k2 (by omega)
      have k5 : (t.set (L + 4) (Ob.lst (refsD (rf L) (n + 1))))[L + 4]? = some (.lst (refsD (rf L) (n + 1))) := get_set f2
      generalize (t.set (L + 4) (Ob.lst (refsD (rf L) (n + 1)))) = u at l2 k3 k4 k5
      rw [← l1, ← l2] at er
      rw [← l2] at er'
      refine h _ ⟨get_old (k3 hf.ob (by omega) (by omega)), get_old k4, fun i hi => ?_, get_old k5, fun i hi => ?_, get_old (k3 hf.fc (by omega) (by omega)), by omega⟩ (by simp; omega) ⟨by simp; omega, fun p o hp e => get_old (k3 (kp.get p o hp e) (by omega) (by omega))⟩
      · by_cases e : i = n
        · subst e
          rw [← er]
          exact get_off
        · have a := rs_ne (L := L) (i := i)
          have hi' : i < n := by omega
          have := hf.sr i hi'
          rw [if_pos hi'] at this
          exact get_old (k3 this a.2.1 a.2.2.1)
      · by_cases e : i = n
        · subst e
          rw [← er']
          exact get_off
        · have a := rf_ne (L := L) (i := i)
          have hi' : i < n := by omega
          have := hf.fr i hi'
          rw [if_pos hi'] at this
          exact get_old (k3 this a.2.1 a.2.2.1)
end
end K33

namespace K33
open PySem PX Wy
section
variable {j : Nat} {E : XQ}
theorem fact_at {fa : List Ft} {k : Nat} {f : Ft} (h : fa[k]? = some f) : L2.atI (fa.map eD) (k : Int) = some (eD f) := by rw [atI_k, List.getElem?_map, h]; rfl
theorem path_ok {s : Sto} {L n : Nat} {S F : Mt} {fa fb : List Ft} (w : WAt s L n S F fb) (hfb : ∀ (k : Nat) (f : Ft), fa[k]? = some f → fb[k]? = some f) (g : Good n fa S F) (hn : n < 1000) {x y : Nat} (hx : x < n) (hy : y < n) {a : Int} (hs : S x y = some a) (hL : L + 8 * n ≤ s.length + 2) {Q : QE}
    (h : ∀ ks s', ks.length < n → Kp (fun _ => False) s s' → Pth fa x ks y a → Q (.tup (ks.map fun k : Nat => .int k)) s') : Lv TT (j + 1) 1000008 [.ref L, .int x, .int y] s Q E := by
  refine lv_in (fn := d_Ways_path.fn) rfl rfl ?_
  dsimp only [d_Ways_path, b_Ways_path_1]
  walk_at "run"
  refine ⟨by decide, ?_⟩
  obtain ⟨R, r0, hR⟩ := g.rank
  have hb := rank_lt g r0 hR hy hx hs
  refine whl_of (fun m σ s1 => ∃ (x' : Nat) (ks : List Nat) (b c : Int) (v : Option D), σ = [some (.ref L), some (.int x'), some (.int y), some (.ref s.length), v] ∧ x' < n ∧ S x' y = some b ∧ m = R x' y ∧ ks.length + R x' y = R x y ∧
    s1[s.length]? = some (.lst (ks.map fun k : Nat => .int k)) ∧ Pth fa x ks x' c ∧ c + b = a ∧ Kp (fun p => p = s.length) s s1) _ ⟨x, [], a, 0, none, rfl, hx, hs, rfl, by simp, get_new, ⟨rfl, rfl⟩, by omega, Kp.push⟩ ?_
  rintro m σ s1 N' ⟨x', ks, b, c, v, rfl, hx', hb', rfl, hl, hg, hp, hc, kp⟩ hN
  walk_at "run"
  have w1 := w.kp kp (fun p h1 h2 z => by have := w.np; omega)
  refine br_ndec (fun e => ?_) (fun e => ?_)
  · have e' : x' ≠ y := fun z => e (by rw [z])
    obtain ⟨k, y', m', b', q1, q2, q3, q4, q5⟩ := hR x' y b hx' hy e' hb'
    unfold b_Ways_path_2
    walk_at "run"
    refine fld_ref w1.ob rfl (ix2 w1.f1 (w1.fr x' hx') hx' hy ?_)
    rw [q1]
    simp only [oD]
    refine ⟨mty_ref hg rfl, app_ref hg (by rw [List.length_map]; show _ < 2 ^ 24; omega) ?_⟩
    have w2 := w1.kp (Kp.set (s := s1) (n := s.length) (o := .lst (ks.map (fun k : Nat => .int k) ++ [.int k])) (r := fun p => p = s.length) rfl) (fun p h1 h2 z => by have := w.np; omega)
    refine fld_ref w2.ob rfl (ix_ref w2.fc (fact_at (hfb _ _ q2)) (ix_tup (v := .int y') atI_o ?_))
    refine hN.nx _ _ ⟨R y' y, by omega, y', ks ++ [k], b', c + m', _, rfl, (g.ed _ (List.mem_of_getElem? q2)).2, q3, rfl, by simp; omega, ?_, hp.snoc q2, by omega, kp.trans (Kp.set rfl)⟩
    rw [get_set hg, List.map_append]
    rfl
  · have e' : x' = y := by omega
    subst e'
    rw [g.diag x' hx'] at hb'
    cases hb'
    unfold b_Ways_path_1_1
    walk_at "run"
    refine tup_ref hg (h ks s1 (by omega) (kp.mono fun p h1 h2 => by omega) ?_)
    have : c = a := by omega
    rw [← this]
    exact hp
/-- the ends of a new difference, its begins -/
def endsL (S : Mt) (x y : Nat) (m : Int) (n : Nat) : List (Nat × Int) := (List.range n).filterMap fun j => match S y j with
  | some t => match S x j with
    | none => some (j, m + t)
    | some c => if m + t < c then some (j, m + t) else none
  | none => none
def begL (S : Mt) (x y : Nat) (m : Int) (n : Nat) : List Nat := (List.range n).filter fun i => match S i x with
  | some t => match S i y with
    | none => true
    | some c => decide (t + m < c)
  | none => false
def endD (p : Nat × Int) : D := .tup [.int p.1, .int p.2]
theorem endsL_mem {S : Mt} {x y : Nat} {m : Int} {n : Nat} {p : Nat × Int} (h : p ∈ endsL S x y m n) : p.1 < n ∧ ∃ t, S y p.1 = some t ∧ p.2 = m + t := by
  unfold endsL at h
  rw [List.mem_filterMap] at h
  obtain ⟨j, hj, h⟩ := h
  rw [List.mem_range] at hj
  split at h
  · rename_i t ht
    split at h
    · cases h; exact ⟨hj, t, ht, rfl⟩
    · split at h
      · cases h; exact ⟨hj, t, ht, rfl⟩
      · cases h
  · cases h
theorem endsL_not {S : Mt} {x y : Nat} {m : Int} {n : Nat} {j : Nat} (hj : j < n) (h : ∀ p ∈ endsL S x y m n, p.1 ≠ j) {t : Int} (ht : S y j = some t) : ∃ c, S x j = some c ∧ c ≤ m + t := by
  cases hc : S x j with
  | none =>
    refine absurd rfl (h (j, m + t) ?_)
    unfold endsL
    rw [List.mem_filterMap]
    exact ⟨j, List.mem_range.mpr hj, by rw [ht]; dsimp only; rw [hc]⟩
  | some c =>
    refine ⟨c, rfl, ?_⟩
    refine Decidable.byContradiction fun hn => absurd rfl (h (j, m + t) ?_)
    unfold endsL
    rw [List.mem_filterMap]
    exact ⟨j, List.mem_range.mpr hj, by rw [ht]; dsimp only; rw [hc]; dsimp only; rw [if_pos (by omega)]⟩
theorem begL_mem {S : Mt} {x y : Nat} {m : Int} {n i : Nat} (h : i ∈ begL S x y m n) : i < n ∧ ∃ t, S i x = some t := by
  unfold begL at h
  rw [List.mem_filter, List.mem_range] at h
  refine ⟨h.1, ?_⟩
  have h := h.2
  split at h
  · rename_i t ht
    exact ⟨t, ht⟩
  · cases h
theorem begL_not {S : Mt} {x y : Nat} {m : Int} {n i : Nat} (hi : i < n) (h : ¬ i ∈ begL S x y m n) {t : Int} (ht : S i x = some t) : ∃ c, S i y = some c ∧ c ≤ t + m := by
  unfold begL at h
  rw [List.mem_filter, List.mem_range] at h
  have h : ¬ _ := fun z => h ⟨hi, z⟩
  rw [ht] at h
  dsimp only at h
  cases hc : S i y with
  | none => rw [hc] at h; exact absurd rfl h
  | some c =>
    rw [hc] at h
    dsimp only at h
    rw [decide_eq_true_eq] at h
    exact ⟨c, rfl, by omega⟩
/-- where the new difference betters nothing -/
theorem imp_end {S : Mt} {x y : Nat} {m : Int} {n i j : Nat} {fa : List Ft} {F : Mt} (g : ∀ i j k a b, i < n → j < n → k < n → S i j = some a → S j k = some b → ∃ c, S i k = some c ∧ c ≤ a + b) (hx : x < n) (hi : i < n) (hj : j < n) (h : ∀ p ∈ endsL S x y m n, p.1 ≠ j) : Imp S x y m i j = none := by
  cases hv : Imp S x y m i j with
  | none => rfl
  | some v =>
    obtain ⟨a, b, h1, h2, h3, h4⟩ := imp_some hv
    obtain ⟨c, h5, h6⟩ := endsL_not hj h h2
    obtain ⟨d, h7, h8⟩ := g i x j a c hi hx hj h1 h5
    have := h4 d h7
    omega
theorem imp_beg {S : Mt} {x y : Nat} {m : Int} {n i j : Nat} (g : ∀ i j k a b, i < n → j < n → k < n → S i j = some a → S j k = some b → ∃ c, S i k = some c ∧ c ≤ a + b) (hy : y < n) (hi : i < n) (hj : j < n) (h : ¬ i ∈ begL S x y m n) : Imp S x y m i j = none := by
  cases hv : Imp S x y m i j with
  | none => rfl
  | some v =>
    obtain ⟨a, b, h1, h2, h3, h4⟩ := imp_some hv
    obtain ⟨c, h5, h6⟩ := begL_not hi h h1
    obtain ⟨d, h7, h8⟩ := g i y j c b hi hy hj h5 h2
    have := h4 d h7
    omega
theorem range_take {n k : Nat} (h : k < n) : (List.range n).take (k + 1) = (List.range n).take k ++ [k] := by
  rw [List.take_add_one, List.getElem?_range h]
  rfl
theorem endsL_len {S : Mt} {x y : Nat} {m : Int} {n : Nat} : (endsL S x y m n).length ≤ n := Nat.le_trans (List.length_filterMap_le _ _) (by simp)
theorem begL_len {S : Mt} {x y : Nat} {m : Int} {n : Nat} : (begL S x y m n).length ≤ n := Nat.le_trans (List.length_filter_le _ _) (by simp)
end
end K33

namespace K33
open PySem PX Wy
section
variable {j : Nat} {E : XQ}
theorem endsL_succ {S : Mt} {x y : Nat} {m : Int} {k : Nat} : endsL S x y m (k + 1) = endsL S x y m k ++ (match S y k with
  | some t => match S x k with
    | none => [(k, m + t)]
    | some c => if m + t < c then [(k, m + t)] else []
  | none => []) := by
  unfold endsL
  rw [List.range_succ, List.filterMap_append]
  congr 1
  cases h1 : S y k with
  | none => simp [h1]
  | some t =>
    cases h2 : S x k with
    | none => simp [h1, h2]
    | some c =>
      by_cases h3 : m + t < c <;> simp [h1, h2, h3]
theorem begL_succ {S : Mt} {x y : Nat} {m : Int} {k : Nat} : begL S x y m (k + 1) = begL S x y m k ++ (match S k x with
  | some t => match S k y with
    | none => [k]
    | some c => if t + m < c then [k] else []
  | none => []) := by
  unfold begL
  rw [List.range_succ, List.filter_append]
  congr 1
  cases h1 : S k x with
  | none => simp [h1]
  | some t =>
    cases h2 : S k y with
    | none => simp [h1, h2]
    | some c =>
      by_cases h3 : t + m < c <;> simp [h1, h2, h3]
theorem nodup_take {α : Type} {l : List α} (h : l.Nodup) {k : Nat} {a : α} (e : l[k]? = some a) : ¬ a ∈ l.take k := by
  intro hm
  have hk := (List.getElem?_eq_some_iff.mp e)
  have : l.take k ++ l.drop k = l := List.take_append_drop k l
  rw [← this] at h
  have h2 := (List.nodup_append.mp h).2.2 a hm a
  refine h2 ?_ rfl
  have : (l.drop k)[0]? = some a := by rw [List.getElem?_drop]; exact e
  exact List.mem_of_getElem? this
theorem take_mem {α : Type} {l : List α} {k : Nat} {a b : α} (e : l[k]? = some a) : b ∈ l.take (k + 1) ↔ b ∈ l.take k ∨ b = a := by
  rw [List.take_add_one, e]
  simp
theorem ends_nodup {S : Mt} {x y : Nat} {m : Int} {n : Nat} : ((endsL S x y m n).map (·.1)).Nodup := by
  have : ∀ p ∈ endsL S x y m n, p.1 < n := fun p hp => (endsL_mem hp).1
  induction n with
  | zero => exact List.nodup_nil
  | succ n ih =>
    rw [endsL_succ, List.map_append]
    refine List.nodup_append.mpr ⟨ih fun p hp => (endsL_mem hp).1, ?_, ?_⟩
    · cases S y n with
      | none => exact List.nodup_nil
      | some t =>
        cases S x n with
        | none => simp
        | some c => by_cases h3 : m + t < c <;> simp [h3]
    · intro a ha b hb
      obtain ⟨p, hp, rfl⟩ := List.mem_map.mp ha
      have h1 := (endsL_mem hp).1
      have : b = n := by
        cases h1 : S y n with
        | none => simp [h1] at hb
        | some t =>
          cases h2 : S x n with
          | none => simpa [h1, h2] using hb
          | some c =>
            by_cases h3 : m + t < c
            · simpa [h1, h2, h3] using hb
            · simp [h1, h2, h3] at hb
      omega
theorem beg_nodup {S : Mt} {x y : Nat} {m : Int} {n : Nat} : (begL S x y m n).Nodup := List.nodup_range.filter _
theorem imp_x {S : Mt} {x y : Nat} {m : Int} (hc : ∀ b, S y x = some b → 0 ≤ b + m) {i : Nat} : Imp S x y m i x = none := by
  cases hv : Imp S x y m i x with
  | none => rfl
  | some v =>
    obtain ⟨a, b, h1, h2, h3, h4⟩ := imp_some hv
    have := h4 a h1
    have := hc b h2
    omega
/-- one row -/
theorem row_ok {s : Sto} {L n rE q i x y : Nat} {m : Int} {S F S3 F3 : Mt} {fa : List Ft} {N : En} {x1 x6 x7 x8 x10 x11 x12 x13 : Option D} (w : WAt s L n S3 F3 fa) (hn : n < 1000) (hx : x < n) (hi : i < n) (hr : ∀ c, c < n → S3 i c = S i c ∧ F3 i c = F i c)
    (hE : s[rE]? = some (.lst ((endsL S x y m n).map endD))) (hEL : L + 8 * n ≤ rE + 2) (hc : ∀ b, S y x = some b → 0 ≤ b + m) {a : Int} (ha : S i x = some a)
    (h : ∀ σ s', WAt s' L n (fun r c => if r = i then (if c ∈ (endsL S x y m n).map (·.1) then upS S x y m i c else S i c) else S3 r c) (fun r c => if r = i then (if c ∈ (endsL S x y m n).map (·.1) then upF S F x y m q i c else F i c) else F3 r c) fa →
      (∃ y6 y7 y9 y11 y12 y13, σ = [some (.ref L), some (.int q), some (.int x), x1, some (.int m), some (.ref rE), y6, y7, x8, y9, x10, y11, y12, y13]) → Kp (fun p => L ≤ p ∧ p + 2 < L + 8 * n) s s' → N.nx σ s') :
    xSs (Lv TT j) b_Ways_spread_2 [some (.ref L), some (.int q), some (.int x), x1, some (.int m), some (.ref rE), x6, x7, x8, some (.int i), x10, x11, x12, x13] s N := by
  unfold b_Ways_spread_2
  walk_at "run"
  refine fld_ref w.ob rfl (ix_ref w.s1 (refsD_at hi) ?_)
  refine fld_ref w.ob rfl (ix_ref w.f1 (refsD_at hi) ?_)
  refine ix_ref (w.sr i hi) (rowD_at hx) ?_
  rw [(hr x hx).1, ha]
  refine it_ref hE ?_
  generalize hEn : endsL S x y m n = en at *
  have hnd : (en.map (·.1)).Nodup := hEn ▸ ends_nodup
  refine for_at (I := fun k σ s' => WAt s' L n (fun r c => if r = i then (if c ∈ (en.take k).map (·.1) then upS S x y m i c else S i c) else S3 r c) (fun r c => if r = i then (if c ∈ (en.take k).map (·.1) then upF S F x y m q i c else F i c) else F3 r c) fa ∧
      (∃ y6 y7 , σ = [some (.ref L), some (.int q), some (.int x), x1, some (.int m), some (.ref rE), y6, y7, x8, some (.int i), x10, some (.ref (rs L i)), some (.ref (rf L i)), some (oD (some a))]) ∧ Kp (fun p => L ≤ p ∧ p + 2 < L + 8 * n) s s') ?_ ?_ ?_
  · refine ⟨w.congr (fun r c hr' hc' => ?_) (fun r c hr' hc' => ?_), ⟨_, _, rfl⟩, Kp.refl _ _⟩
    · by_cases e : r = i
      · subst e
        rw [if_pos rfl, if_neg (by simp)]
        exact (hr c hc').1
      · rw [if_neg e]
    · by_cases e : r = i
      · subst e
        rw [if_pos rfl, if_neg (by simp)]
        exact (hr c hc').2
      · rw [if_neg e]
  · rintro k it σ s1 N' hit ⟨w1, ⟨y6, y7, rfl⟩, kp⟩ hN
    rw [List.getElem?_map] at hit
    cases hp : en[k]? with
    | none => rw [hp] at hit; cases hit
    | some p =>
    rw [hp] at hit
    cases hit
    have hm : p ∈ en := List.mem_of_getElem? hp
    obtain ⟨hj, t, ht, ht2⟩ := endsL_mem (hEn ▸ hm)
    have fresh : ¬ p.1 ∈ (en.take k).map (·.1) := by
      have := nodup_take hnd (k := k) (a := p.1) (by rw [List.getElem?_map, hp]; rfl)
      rwa [← List.map_take] at this
    have tk : ∀ c, c ∈ (en.take (k + 1)).map (·.1) ↔ c ∈ (en.take k).map (·.1) ∨ c = p.1 := fun c => by
      rw [List.take_add_one, hp]
      simp
    have hE1 := kp.get _ _ (by omega) hE
    refine ⟨hE1, ?_⟩
    unfold endD b_Ways_spread_3
    walk_at "run"
    simp only [oD]
    refine ix_ref (w1.sr i hi) (rowD_at hj) ?_
    rw [if_pos rfl, if_neg fresh]
    -- the entry is bettered
    have better : Imp S x y m i p.1 = some (a + p.2) → xSs (Lv TT j) b_Ways_spread_4 [some (.ref L), some (.int q), some (.int x), x1, some (.int m), some (.ref rE), some (.int p.1), some (.int p.2), x8, some (.int i), x10, some (.ref (rs L i)), some (.ref (rf L i)), some (.int a)] s1 N' := fun hv => by
      unfold b_Ways_spread_4
      walk_at "run"
      refine set_ref (w1.sr i hi) (ixn_k (by rw [rowD_len]; exact hj)) ?_
      have w2 := w1.setS hi (xs := (rowD ((fun r c => if r = i then (if c ∈ (en.take k).map (·.1) then upS S x y m i c else S i c) else S3 r c) i) n).set p.1 (.int (a + p.2))) (g := fun c => if c = p.1 then some (a + p.2) else (fun r c => if r = i then (if c ∈ (en.take k).map (·.1) then upS S x y m i c else S i c) else S3 r c) i c) (rowD_set (v := some (a + p.2)))
      have fin : ∀ v : Option Int, v = upF S F x y m q i p.1 → xAset (.ref (rf L i)) (.int p.1) (oD v) (s1.set (rs L i) (.lst ((rowD ((fun r c => if r = i then (if c ∈ (en.take k).map (·.1) then upS S x y m i c else S i c) else S3 r c) i) n).set p.1 (.int (a + p.2))))) (fun s4 => N'.nx [some (.ref L), some (.int q), some (.int x), x1, some (.int m), some (.ref rE), some (.int p.1), some (.int p.2), x8, some (.int i), x10, some (.ref (rs L i)), some (.ref (rf L i)), some (.int a)] s4) := fun v hvv => by
        refine set_ref (w2.fr i hi) (ixn_k (by rw [rowD_len]; exact hj)) ?_
        have w3 := w2.setF hi (xs := (rowD ((fun r c => if r = i then (if c ∈ (en.take k).map (·.1) then upF S F x y m q i c else F i c) else F3 r c) i) n).set p.1 (oD v)) rowD_set
        have l1 := rs_lt (L := L) hi
        have l2 := rf_lt (L := L) hi
        refine hN.nx _ _ ⟨w3.congr (fun r c _ hc' => ?_) (fun r c _ hc' => ?_), ⟨_, _, rfl⟩, (kp.trans (Kp.set (by omega))).trans (Kp.set (by omega))⟩
        · try dsimp only
          by_cases e : r = i
          · subst e
            rw [if_pos rfl, if_pos rfl]
            by_cases ec : c = p.1
            · subst ec
              rw [if_pos rfl, if_pos ((tk _).mpr (.inr rfl))]
              simp only [upS, hv, if_true]
            · rw [if_neg ec]
              try dsimp only
              try rw [if_pos rfl]
              by_cases ek : c ∈ (en.take k).map (·.1)
              · rw [if_pos ek, if_pos ((tk _).mpr (.inl ek))]
              · rw [if_neg ek, if_neg (fun z => ((tk _).mp z).elim ek ec)]
          · rw [if_neg e, if_neg e, if_neg e]
        · try dsimp only
          by_cases e : r = i
          · subst e
            rw [if_pos rfl, if_pos rfl]
            by_cases ec : c = p.1
            · subst ec
              rw [if_pos rfl, if_pos ((tk _).mpr (.inr rfl)), hvv, if_pos rfl]
            · rw [if_neg ec]
              try dsimp only
              try rw [if_pos rfl]
              by_cases ek : c ∈ (en.take k).map (·.1)
              · rw [if_pos ek, if_pos ((tk _).mpr (.inl ek))]
              · rw [if_neg ek, if_neg (fun z => ((tk _).mp z).elim ek ec)]
          · rw [if_neg e, if_neg e, if_neg e]
      refine br_dec (fun eix => ?_) (fun eix => ?_)
      · have eix : i = x := by omega
        exact fin (some q) (by simp only [upF, hv]; rw [if_pos eix])
      · have eix : i ≠ x := fun z => eix (by rw [z])
        refine ix_ref (w2.fr i hi) (rowD_at hx) ?_
        refine fin _ ?_
        rw [if_pos rfl]
        have : (if x ∈ (en.take k).map (·.1) then upF S F x y m q i x else F i x) = F i x := by
          split
          · simp only [upF, imp_x hc]
          · rfl
        rw [this]
        simp only [upF, hv]
        rw [if_neg eix]
    have stay : Imp S x y m i p.1 = none → N'.nx [some (.ref L), some (.int q), some (.int x), x1, some (.int m), some (.ref rE), some (.int p.1), some (.int p.2), x8, some (.int i), x10, some (.ref (rs L i)), some (.ref (rf L i)), some (.int a)] s1 := fun hv => by
      refine hN.nx _ _ ⟨w1.congr (fun r c _ hc' => ?_) (fun r c _ hc' => ?_), ⟨_, _, rfl⟩, kp⟩
      · by_cases e : r = i
        · subst e
          rw [if_pos rfl, if_pos rfl]
          by_cases ec : c = p.1
          · subst ec
            rw [if_neg fresh, if_pos ((tk _).mpr (.inr rfl))]
            simp only [upS, hv]
          · by_cases ek : c ∈ (en.take k).map (·.1)
            · rw [if_pos ek, if_pos ((tk _).mpr (.inl ek))]
            · rw [if_neg ek, if_neg (fun z => ((tk _).mp z).elim ek ec)]
        · rw [if_neg e, if_neg e]
      · by_cases e : r = i
        · subst e
          rw [if_pos rfl, if_pos rfl]
          by_cases ec : c = p.1
          · subst ec
            rw [if_neg fresh, if_pos ((tk _).mpr (.inr rfl))]
            simp only [upF, hv]
          · by_cases ek : c ∈ (en.take k).map (·.1)
            · rw [if_pos ek, if_pos ((tk _).mpr (.inl ek))]
            · rw [if_neg ek, if_neg (fun z => ((tk _).mp z).elim ek ec)]
        · rw [if_neg e, if_neg e]
    have hsum : a + p.2 = a + m + t := by omega
    cases hS : S i p.1 with
    | none =>
      simp only [oD]
      walk_at "run"
      exact better (by unfold Imp; rw [ha, ht]; dsimp only; rw [hS, hsum])
    | some c =>
      simp only [oD]
      walk_at "run"
      refine ix_ref (w1.sr i hi) (rowD_at hj) ?_
      rw [if_pos rfl, if_neg fresh, hS]
      simp only [oD]
      walk_at "run"
      refine br_dec (fun hlt => ?_) (fun hlt => ?_)
      · exact better (by unfold Imp; rw [ha, ht]; dsimp only; rw [hS]; dsimp only; rw [if_pos (by omega), hsum])
      · exact stay (by unfold Imp; rw [ha, ht]; dsimp only; rw [hS]; dsimp only; rw [if_neg (by omega)])
  · rintro σ s1 ⟨w1, ⟨y6, y7, rfl⟩, kp⟩
    refine ⟨kp.get _ _ (by omega) hE, ?_⟩
    rw [List.length_map, List.take_length] at w1
    exact h _ _ w1 ⟨_, _, _, _, _, _, rfl⟩ kp
end
end K33

namespace K33
open PySem PX Wy
section
variable {j : Nat} {E : XQ}
theorem enum_of {xs : List D} {k : Nat} {x : D} (h : (enumL 0 xs)[k]? = some x) : ∃ y, xs[k]? = some y ∧ x = .tup [.int k, y] := by
  rw [enumL_get] at h
  cases e : xs[k]? with
  | none => rw [e] at h; cases h
  | some y =>
    rw [e] at h
    cases h
    exact ⟨y, rfl, by simp⟩
theorem rowD_of {g : Nat → Option Int} {n k : Nat} {x : D} (h : (rowD g n)[k]? = some x) : k < n ∧ x = oD (g k) := by
  have hi : k < n := by
    have := (List.getElem?_eq_some_iff.mp h).1
    rwa [rowD_len] at this
  rw [rowD_get hi] at h
  exact ⟨hi, (Option.some.inj h).symm⟩
theorem spread_ok {s : Sto} {L n x y : Nat} {m : Int} {S F : Mt} {fa : List Ft} (w : WAt s L n S F (fa ++ [(x, y, m)])) (hn : n < 1000) (hx : x < n) (hy : y < n) (tri : ∀ i j k a b, i < n → j < n → k < n → S i j = some a → S j k = some b → ∃ c, S i k = some c ∧ c ≤ a + b)
    (hc : ∀ b, S y x = some b → 0 ≤ b + m) (hL : L + 8 * n ≤ s.length + 2) {Q : QE}
    (h : ∀ s', WAt s' L n (upS S x y m) (upF S F x y m fa.length) (fa ++ [(x, y, m)]) → Kp (fun p => L ≤ p ∧ p + 2 < L + 8 * n) s s' → Q .non s') : Lv TT (j + 1) 1000007 [.ref L, .int fa.length] s Q E := by
  refine lv_in (fn := d_Ways_spread.fn) rfl rfl ?_
  dsimp only [d_Ways_spread, b_Ways_spread_1]
  walk_at "run"
  have np := w.np
  refine fld_ref w.ob rfl (ix_ref w.fc (fact_at (f := (x, y, m)) (by rw [List.getElem?_append_right (Nat.le_refl _), Nat.sub_self]; rfl)) ?_)
  unfold eD
  walk_at "run"
  refine ⟨by decide, ?_⟩
  have w0 : WAt (s ++ [Ob.lst []]) L n S F (fa ++ [(x, y, m)]) := w.kp (R := fun _ => False) Kp.push (fun _ _ _ z => z)
  refine fld_ref w0.ob rfl (ix_ref w0.s1 (refsD_at hy) (it_enum (w0.sr y hy) ?_))
  -- ends
  refine for_at (I := fun k σ s' => WAt s' L n S F (fa ++ [(x, y, m)]) ∧ (∃ y6 y7, σ = [some (.ref L), some (.int fa.length), some (.int x), some (.int y), some (.int m), some (.ref s.length), y6, y7, none, none, none, none, none, none]) ∧ s'.length = s.length + 1 ∧
    s'[s.length]? = some (.lst ((endsL S x y m k).map endD)) ∧ Kp (fun p => s.length ≤ p) s s') ⟨w0, ⟨_, _, rfl⟩, by simp, get_new, Kp.push⟩ ?_ ?_
  · rintro k it σ s1 N' hit ⟨w1, ⟨y6, y7, rfl⟩, hl, he, kp⟩ hN
    obtain ⟨z, hz, rfl⟩ := enum_of hit
    obtain ⟨hk, rfl⟩ := rowD_of hz
    refine ⟨⟨_, w1.sr y hy, rfl⟩, ?_⟩
    unfold b_Ways_spread_7
    walk_at "run"
    have app : ∀ t, S y k = some t → endsL S x y m (k + 1) = endsL S x y m k ++ [(k, m + t)] → xSs (Lv TT j) b_Ways_spread_8 [some (.ref L), some (.int fa.length), some (.int x), some (.int y), some (.int m), some (.ref s.length), some (.int k), some (.int t), none, none, none, none, none, none] s1 N' := fun t ht hap => by
      unfold b_Ways_spread_8
      walk_at "run"
      refine ⟨mty_ref he rfl, by decide, app_ref he (by rw [List.length_map]; have := endsL_len (S := S) (x := x) (y := y) (m := m) (n := k); show _ < 2 ^ 24; omega) ?_⟩
      refine hN.nx _ _ ⟨w1.kp (Kp.set (r := fun p => p = s.length) rfl) (fun p _ _ z => by omega), ⟨_, _, rfl⟩, by simpa using hl, ?_, kp.trans (Kp.set (Nat.le_refl _))⟩
      rw [get_set he, hap, List.map_append]
      rfl
    have stay : ∀ v, endsL S x y m (k + 1) = endsL S x y m k → N'.nx [some (.ref L), some (.int fa.length), some (.int x), some (.int y), some (.int m), some (.ref s.length), some (.int k), some v, none, none, none, none, none, none] s1 := fun v hap =>
      hN.nx _ _ ⟨w1, ⟨_, _, rfl⟩, hl, by rw [hap]; exact he, kp⟩
    cases hS : S y k with
    | none =>
      simp only [oD]
      walk_at "run"
      exact stay _ (by rw [endsL_succ, hS, List.append_nil])
    | some t =>
      simp only [oD]
      walk_at "run"
      refine fld_ref w1.ob rfl (ix2 w1.s1 (w1.sr x hx) hx hk ?_)
      cases hS2 : S x k with
      | none =>
        simp only [oD]
        walk_at "run"
        exact app t hS (by rw [endsL_succ, hS]; dsimp only; rw [hS2])
      | some c =>
        simp only [oD]
        walk_at "run"
        refine fld_ref w1.ob rfl (ix2 w1.s1 (w1.sr x hx) hx hk ?_)
        rw [hS2]
        simp only [oD]
        walk_at "run"
        refine br_dec (fun hlt => ?_) (fun hlt => ?_)
        · exact app t hS (by rw [endsL_succ, hS]; dsimp only; rw [hS2]; dsimp only; rw [if_pos hlt])
        · exact stay _ (by rw [endsL_succ, hS]; dsimp only; rw [hS2]; dsimp only; rw [if_neg hlt, List.append_nil])
  rintro σ s1 ⟨w1, ⟨y6, y7, rfl⟩, hl, he, kp⟩
  rw [enumL_len, rowD_len] at he
  refine ⟨⟨_, w1.sr y hy, rfl⟩, ?_⟩
  unfold b_Ways_spread_1_1
  walk_at "run"
  refine ⟨by decide, ?_⟩
  have w2 : WAt (s1 ++ [Ob.lst []]) L n S F (fa ++ [(x, y, m)]) := w1.kp (R := fun _ => False) Kp.push (fun _ _ _ z => z)
  refine fld_ref w2.ob rfl (it_enum w2.s1 ?_)
  -- begins
  refine for_at (I := fun k σ s' => WAt s' L n S F (fa ++ [(x, y, m)]) ∧ (∃ y9 y10, σ = [some (.ref L), some (.int fa.length), some (.int x), some (.int y), some (.int m), some (.ref s.length), y6, y7, some (.ref (s.length + 1)), y9, y10, none, none, none]) ∧ s'.length = s.length + 2 ∧
    s'[s.length]? = some (.lst ((endsL S x y m n).map endD)) ∧ s'[s.length + 1]? = some (.lst ((begL S x y m k).map fun i : Nat => .int i)) ∧ Kp (fun p => s.length ≤ p) s s') ⟨w2, ⟨_, _, by rw [hl]⟩, by simp; omega, get_old he, by rw [← hl]; exact get_new, kp.trans Kp.push⟩ ?_ ?_
  · rintro k it σ s1 N' hit ⟨w1, ⟨y9, y10, rfl⟩, hl, he, hb, kp⟩ hN
    obtain ⟨z, hz, rfl⟩ := enum_of hit
    obtain ⟨hk, rfl⟩ := refsD_of hz
    refine ⟨⟨_, w1.s1, rfl⟩, ?_⟩
    unfold b_Ways_spread_5
    walk_at "run"
    have app : begL S x y m (k + 1) = begL S x y m k ++ [k] → xSs (Lv TT j) b_Ways_spread_6 [some (.ref L), some (.int fa.length), some (.int x), some (.int y), some (.int m), some (.ref s.length), y6, y7, some (.ref (s.length + 1)), some (.int k), some (.ref (rs L k)), none, none, none] s1 N' := fun hap => by
      unfold b_Ways_spread_6
      walk_at "run"
      refine ⟨mty_ref hb rfl, app_ref hb (by rw [List.length_map]; have := begL_len (S := S) (x := x) (y := y) (m := m) (n := k); show _ < 2 ^ 24; omega) ?_⟩
      refine hN.nx _ _ ⟨w1.kp (Kp.set (r := fun p => p = s.length + 1) rfl) (fun p _ _ z => by omega), ⟨_, _, rfl⟩, by simpa using hl, get_ne he (by omega), ?_, kp.trans (Kp.set (by omega))⟩
      rw [get_set hb, hap, List.map_append]
      rfl
    have stay : begL S x y m (k + 1) = begL S x y m k → N'.nx [some (.ref L), some (.int fa.length), some (.int x), some (.int y), some (.int m), some (.ref s.length), y6, y7, some (.ref (s.length + 1)), some (.int k), some (.ref (rs L k)), none, none, none] s1 := fun hap =>
      hN.nx _ _ ⟨w1, ⟨_, _, rfl⟩, hl, he, by rw [hap]; exact hb, kp⟩
    refine ix_ref (w1.sr k hk) (rowD_at hx) ?_
    cases hS : S k x with
    | none =>
      simp only [oD]
      walk_at "run"
      exact stay (by rw [begL_succ, hS, List.append_nil])
    | some t =>
      simp only [oD]
      walk_at "run"
      refine ix_ref (w1.sr k hk) (rowD_at hy) ?_
      cases hS2 : S k y with
      | none =>
        simp only [oD]
        walk_at "run"
        exact app (by rw [begL_succ, hS]; dsimp only; rw [hS2])
      | some c =>
        simp only [oD]
        walk_at "run"
        refine ix_ref (w1.sr k hk) (rowD_at hx) ?_
        rw [hS]
        simp only [oD]
        walk_at "run"
        refine ix_ref (w1.sr k hk) (rowD_at hy) ?_
        rw [hS2]
        simp only [oD]
        walk_at "run"
        refine br_dec (fun hlt => ?_) (fun hlt => ?_)
        · exact app (by rw [begL_succ, hS]; dsimp only; rw [hS2]; dsimp only; rw [if_pos hlt])
        · exact stay (by rw [begL_succ, hS]; dsimp only; rw [hS2]; dsimp only; rw [if_neg hlt, List.append_nil])
  rintro σ s1 ⟨w1, ⟨y9, y10, rfl⟩, hl, he, hb, kp⟩
  rw [enumL_len, refsD_len] at hb
  refine ⟨⟨_, w1.s1, rfl⟩, ?_⟩
  unfold b_Ways_spread_1_2
  walk_at "run"
  refine it_ref hb ?_
  have nd := beg_nodup (S := S) (x := x) (y := y) (m := m) (n := n)
  -- the rows
  refine for_at (I := fun k σ s' => WAt s' L n (fun r c => if r ∈ (begL S x y m n).take k then upS S x y m r c else S r c) (fun r c => if r ∈ (begL S x y m n).take k then upF S F x y m fa.length r c else F r c) (fa ++ [(x, y, m)]) ∧
    (∃ y6 y7 y9 y10 y11 y12 y13, σ = [some (.ref L), some (.int fa.length), some (.int x), some (.int y), some (.int m), some (.ref s.length), y6, y7, some (.ref (s.length + 1)), y9, y10, y11, y12, y13]) ∧
    Kp (fun p => L ≤ p ∧ p + 2 < L + 8 * n) s1 s') ⟨w1.congr (fun r c _ _ => by simp) (fun r c _ _ => by simp), ⟨_, _, _, _, _, _, _, rfl⟩, Kp.refl _ _⟩ ?_ ?_
  · rintro k it σ s2 N' hit ⟨w2, ⟨y6, y7, y9, y10, y11, y12, y13, rfl⟩, k2⟩ hN
    rw [List.getElem?_map] at hit
    cases hp : (begL S x y m n)[k]? with
    | none => rw [hp] at hit; cases hit
    | some i =>
    rw [hp] at hit
    cases hit
    obtain ⟨hi, a, ha⟩ := begL_mem (List.mem_of_getElem? hp)
    have fresh := nodup_take nd hp
    refine ⟨k2.get _ _ (by omega) hb, ?_⟩
    walk_at "run"
    refine row_ok (q := fa.length) (S := S) (F := F) w2 hn hx hi (fun c hc' => by rw [if_neg fresh, if_neg fresh]; exact ⟨rfl, rfl⟩) (k2.get _ _ (by omega) he) (by omega) hc ha fun σ' s3 w3 ⟨z6, z7, z9, z11, z12, z13, hσ⟩ k3 => ?_
    subst hσ
    refine hN.nx _ _ ⟨w3.congr (fun r c hr hc' => ?_) (fun r c hr hc' => ?_), ⟨_, _, _, _, _, _, _, rfl⟩, k2.trans k3⟩
    · by_cases e : r = i
      · subst e
        rw [if_pos rfl, if_pos ((take_mem hp).mpr (.inr rfl))]
        split
        · rfl
        · rename_i hne
          have : Imp S x y m r c = none := imp_end (n := n) (fa := fa) (F := F) tri hx hr hc' fun p hp' z => hne (List.mem_map.mpr ⟨p, hp', z⟩)
          simp only [upS, this]
      · rw [if_neg e]
        by_cases ek : r ∈ (begL S x y m n).take k
        · rw [if_pos ek, if_pos ((take_mem hp).mpr (.inl ek))]
        · rw [if_neg ek, if_neg (fun z => ((take_mem hp).mp z).elim ek e)]
    · by_cases e : r = i
      · subst e
        rw [if_pos rfl, if_pos ((take_mem hp).mpr (.inr rfl))]
        split
        · rfl
        · rename_i hne
          have : Imp S x y m r c = none := imp_end (n := n) (fa := fa) (F := F) tri hx hr hc' fun p hp' z => hne (List.mem_map.mpr ⟨p, hp', z⟩)
          simp only [upF, this]
      · rw [if_neg e]
        by_cases ek : r ∈ (begL S x y m n).take k
        · rw [if_pos ek, if_pos ((take_mem hp).mpr (.inl ek))]
        · rw [if_neg ek, if_neg (fun z => ((take_mem hp).mp z).elim ek e)]
  rintro σ s2 ⟨w2, ⟨y6, y7, y9, y10, y11, y12, y13, rfl⟩, k2⟩
  refine ⟨k2.get _ _ (by omega) hb, ?_⟩
  walk_at "run"
  rw [List.length_map, List.take_length] at w2
  refine h s2 (w2.congr (fun r c hr hc' => ?_) (fun r c hr hc' => ?_)) ((kp.mono fun p h1 h2 => by omega).trans k2)
  · split
    · rfl
    · rename_i hne
      simp only [upS, imp_beg (n := n) tri hy hr hc' hne]
  · split
    · rfl
    · rename_i hne
      simp only [upF, imp_beg (n := n) tri hy hr hc' hne]
end
end K33

namespace K33
open PySem PX Wy
section
variable {j : Nat} {E : XQ}
theorem add_ok {s : Sto} {L n x y : Nat} {m : Int} {S F : Mt} {fa : List Ft} (w : WAt s L n S F fa) (g : Good n fa S F) (hn : n < 1000) (hf : fa.length < 1000) (hx : x < n) (hy : y < n)
    (hc : ∀ b, S y x = some b → 0 ≤ b + m) (hL : L + 8 * n ≤ s.length + 2) {Q : QE}
    (h : ∀ v s' S' F', WAt s' L n S' F' (fa ++ [(x, y, m)]) → Good n (fa ++ [(x, y, m)]) S' F' → Kp (fun p => L ≤ p ∧ p + 2 < L + 8 * n) s s' → Q v s') : Lv TT (j + 2) 1000006 [.ref L, .int x, .int y, .int m] s Q E := by
  refine lv_in (fn := d_Ways_add.fn) rfl rfl ?_
  dsimp only [d_Ways_add, b_Ways_add_1]
  walk_at "run"
  have np := w.np
  refine fld_ref w.ob rfl (len_ref w.fc (fld_ref w.ob rfl ⟨mty_ref w.fc rfl, by decide, app_ref w.fc (by rw [List.length_map]; show _ < 2 ^ 24; omega) ?_⟩))
  have w1 : WAt (s.set (L + 5) (.lst (fa.map eD ++ [.tup [.int x, .int y, .int m]]))) L n S F (fa ++ [(x, y, m)]) := by
    have a := fun i => rs_ne (L := L) (i := i)
    have b := fun i => rf_ne (L := L) (i := i)
    exact ⟨get_ne w.ob (by omega), get_ne w.s1 (by omega), fun i hi => get_ne (w.sr i hi) (a i).2.2.2, get_ne w.f1 (by omega), fun i hi => get_ne (w.fr i hi) (b i).2.2.2, by rw [get_set w.fc, List.map_append]; rfl, w.np⟩
  have k1 : Kp (fun p => L ≤ p ∧ p + 2 < L + 8 * n) s (s.set (L + 5) (.lst (fa.map eD ++ [.tup [.int x, .int y, .int m]]))) := Kp.set (by omega)
  have l1 : (s.set (L + 5) (.lst (fa.map eD ++ [.tup [.int x, .int y, .int m]]))).length = s.length := by simp
  generalize s.set (L + 5) (.lst (fa.map eD ++ [.tup [.int x, .int y, .int m]])) = s1 at w1 k1 l1
  refine fld_ref w1.ob rfl ?_
  unfold b_Ways_add_1_1
  walk_at "run"
  refine fld_ref w1.ob rfl (ix2 w1.s1 (w1.sr y hy) hy hx ?_)
  rw [List.length_map]
  have rest : ∀ v : D, xSs (Lv TT (j + 1)) b_Ways_add_1_2 [some (.ref L), some (.int x), some (.int y), some (.int m), some (.int fa.length), some v, none] s1 { nx := fun σ s' => Q .non s', rt := Q, bk := fun σ s => False, ct := fun σ s => False, ex := fun c fs σ s' => E c fs s' } := fun v => by
    unfold b_Ways_add_1_2
    walk_at "run"
    refine fld_ref w1.ob rfl (ix2 w1.s1 (w1.sr x hx) hx hy ?_)
    have sp : ∀ v', xSs (Lv TT (j + 1)) b_Ways_add_2 [some (.ref L), some (.int x), some (.int y), some (.int m), some (.int fa.length), some v, some v'] s1 { nx := fun σ s => xSs (Lv TT (j + 1)) b_Ways_add_1_3 σ s { nx := fun σ s' => Q .non s', rt := Q, bk := fun σ s => False, ct := fun σ s => False, ex := fun c fs σ s' => E c fs s' }, rt := Q, bk := fun σ s => False, ct := fun σ s => False, ex := fun c fs σ s' => E c fs s' } := fun v' => by
      unfold b_Ways_add_2
      walk_at "run"
      refine mc_ref w1.ob rfl (by decide) (spread_ok (fa := fa) w1 hn hx hy g.tri hc (by omega) fun s' w2 k2 => ?_)
      unfold b_Ways_add_1_3
      walk_at "run"
      exact h _ s' _ _ w2 (good_new g hx hy hc) (k1.trans k2)
    cases hS : S x y with
    | none =>
      simp only [oD]
      walk_at "run"
      exact sp _
    | some c =>
      simp only [oD]
      walk_at "run"
      refine br_dec (fun hlt => sp _) (fun hlt => ?_)
      unfold b_Ways_add_1_3
      walk_at "run"
      exact h _ s1 _ _ w1 (good_old g hx hy hS (by omega)) k1
  cases hS : S y x with
  | none =>
    simp only [oD]
    walk_at "run"
    exact rest _
  | some b =>
    simp only [oD]
    walk_at "run"
    refine br_no (by have := hc b hS; omega) (rest _)
/-- the differences as they are handed in -/
def FaV (s : Sto) (d : D) (fa : List Ft) : Prop := d = .tup (fa.map eD) ∨ ∃ r, d = .ref r ∧ s[r]? = some (.lst (fa.map eD))
theorem FaV.kp {s s' : Sto} {d : D} {fa : List Ft} {R : Nat → Prop} (h : FaV s d fa) (k : Kp R s s') (hr : ∀ p, p < s.length → ¬ R p) : FaV s' d fa := by
  rcases h with h | ⟨r, h, e⟩
  · exact .inl h
  · exact .inr ⟨r, h, k.get r _ (hr r (lt_of_get e)) e⟩
theorem it_fa {s s2 : Sto} {d : D} {fa : List Ft} {K : List D → WK → Prop} (h : FaV s d fa) (k2 : Kp (fun p => s.length ≤ p) s s2) (hk : ∀ o, (∀ s', Kp (fun p => s.length ≤ p) s s' → chk o (fa.map eD) s') → K (fa.map eD) o) : xIt .seq [d] s2 K := by
  rcases h with rfl | ⟨r, rfl, e⟩
  · exact hk .free fun _ _ => trivial
  · exact it_ref (k2.get r _ (by have := lt_of_get e; omega) e) (hk (.lst r) fun s' k => k.get r _ (by have := lt_of_get e; omega) e)
theorem ways_ok {s : Sto} {n : Nat} {d : D} {fa : List Ft} {p : Nat → Int} (hn : n < 1000) (hn0 : 0 < n) (hf : fa.length < 1000) (hd : FaV s d fa) (ed : ∀ f ∈ fa, f.1 < n ∧ f.2.1 < n) (sol : Sol p fa) {Q : QE}
    (h : ∀ s' S F, WAt s' s.length n S F fa → Good n fa S F → s.length + 8 * n ≤ s'.length + 2 → Kp (fun p => s.length ≤ p) s s' → Q (.ref s.length) s') : Lv TT (j + 3) i_ways_of [.int n, d] s Q E := by
  refine lv_in (fn := d_ways_of.fn) rfl rfl ?_
  dsimp only [d_ways_of, b_ways_of_1]
  walk_at "run"
  refine new_ok (T := TT) (c := 0) (i := 1000004) (ar := 0) rfl rfl (init_ok fun s1 w1 l1 k1 => ⟨rfl, ?_⟩)
  unfold b_ways_of_1_1
  walk_at "run"
  refine ⟨⟨by decide, by decide, by omega, by omega⟩, ?_⟩
  have rl : (rngL 0 ((n : Int) - 1)).length = n - 1 := by
    unfold rngL
    rw [List.length_map, List.length_range]
    omega
  refine for_at (I := fun k σ s' => WAt s' s.length (k + 1) M0 (fun _ _ => none) [] ∧ s'.length + 2 = s.length + 8 * (k + 1) ∧ (∃ y3, σ = [some (.int n), some d, some (.ref s.length), y3, none, none, none]) ∧ Kp (fun p => s.length ≤ p) s s') ⟨w1, by omega, ⟨_, rfl⟩, k1.mono fun _ _ z => z.elim⟩ ?_ ?_
  · rintro k x σ s2 N' hx ⟨w2, l2, ⟨y3, rfl⟩, k2⟩ hN
    have hk : k < n - 1 := by
      have := (List.getElem?_eq_some_iff.mp hx).1
      rwa [rl] at this
    refine ⟨trivial, ?_⟩
    unfold b_ways_of_3
    walk_at "run"
    refine mc_ref w2.ob rfl (by decide) (atom_ok (by omega) w2 l2 fun s3 w3 l3 k3 => ?_)
    exact hN.nx _ _ ⟨w3, l3, ⟨_, rfl⟩, k2.trans k3⟩
  rintro σ s2 ⟨w2, l2, ⟨y3, rfl⟩, k2⟩
  rw [rl] at w2 l2
  have e1 : n - 1 + 1 = n := by omega
  rw [e1] at w2 l2
  refine ⟨trivial, ?_⟩
  unfold b_ways_of_1_2
  walk_at "run"
  refine it_fa hd k2 fun o ho => ?_
  refine for_at (I := fun k σ s' => (∃ S F, WAt s' s.length n S F (fa.take k) ∧ Good n (fa.take k) S F) ∧ (∃ y4 y5 y6, σ = [some (.int n), some d, some (.ref s.length), y3, y4, y5, y6]) ∧ Kp (fun p => s.length ≤ p ∧ p + 2 < s.length + 8 * n) s2 s') ⟨⟨_, _, w2, good_start n⟩, ⟨_, _, _, rfl⟩, Kp.refl _ _⟩ ?_ ?_
  · rintro k it σ s3 N' hit ⟨⟨S, F, w3, g3⟩, ⟨y4, y5, y6, rfl⟩, k3⟩ hN
    rw [List.getElem?_map] at hit
    cases hp : fa[k]? with
    | none => rw [hp] at hit; cases hit
    | some f =>
    rw [hp] at hit
    cases hit
    obtain ⟨x, y, m⟩ := f
    obtain ⟨hx, hy⟩ := ed _ (List.mem_of_getElem? hp)
    have tk : fa.take (k + 1) = fa.take k ++ [(x, y, m)] := by rw [List.take_add_one, hp]; rfl
    refine ⟨ho _ (k2.trans (k3.mono fun p _ h => h.1)), ?_⟩
    unfold eD b_ways_of_2
    walk_at "run"
    refine mc_ref w3.ob rfl (by decide) (add_ok w3 g3 hn (by rw [List.length_take]; omega) hx hy (good_back g3 hx hy (p := p) fun f hf => ?_) (by have := k3.len; omega) fun v s4 S' F' w4 g4 k4 => ?_)
    · rw [← tk] at hf
      exact sol f (List.mem_of_mem_take hf)
    · rw [← tk] at w4 g4
      exact hN.nx _ _ ⟨⟨S', F', w4, g4⟩, ⟨_, _, _, rfl⟩, k3.trans k4⟩
  rintro σ s3 ⟨⟨S, F, w3, g3⟩, ⟨y4, y5, y6, rfl⟩, k3⟩
  refine ⟨ho _ (k2.trans (k3.mono fun p _ h => h.1)), ?_⟩
  rw [List.length_map, List.take_length] at w3 g3
  unfold b_ways_of_1_3
  walk_at "run"
  exact h s3 S F w3 g3 (by have := k3.len; omega) (k2.trans (k3.mono fun p _ h => h.1))
end
end K33

namespace K33
open PySem PX Wy
section
variable {j : Nat} {E : XQ}
theorem tiedL_len {S : Mt} {k : Nat} : (tiedL S k).length ≤ k := Nat.le_trans (List.length_filterMap_le _ _) (by simp)
theorem rngN_len {n : Nat} : (rngL 0 (n : Int)).length = n := by
  unfold rngL
  rw [List.length_map, List.length_range]
  omega
theorem rngN_of {n k : Nat} {x : D} (h : (rngL 0 (n : Int))[k]? = some x) : k < n ∧ x = .int k := by
  have h1 := (List.getElem?_eq_some_iff.mp h).1
  rw [rngN_len] at h1
  unfold rngL at h
  rw [List.getElem?_map, List.getElem?_range (by omega)] at h
  cases h
  exact ⟨h1, by simp⟩
theorem tied_ok {s : Sto} {L n : Nat} {S F : Mt} {fa : List Ft} (w : WAt s L n S F fa) (hn : n < 1000) (hL : L + 8 * n ≤ s.length + 2) {Q : QE}
    (h : ∀ s', Kp (fun _ => False) s s' → Q (.tup ((tiedL S n).map eD)) s') : Lv TT (j + 1) i_tied_atoms [.ref L] s Q E := by
  refine lv_in (fn := d_tied_atoms.fn) rfl rfl ?_
  dsimp only [d_tied_atoms, b_tied_atoms_1]
  walk_at "run"
  have e24 := size24
  refine ⟨by decide, fld_ref (get_old w.ob) rfl ?_⟩
  refine it_enum (get_old w.s1) ?_
  refine for_at (I := fun i σ s' => i ≤ n ∧ (∃ v2 v3 v4 v5 v6, σ = [some (.ref L), some (.ref s.length), v2, v3, v4, v5, v6]) ∧ s'[s.length]? = some (.lst ((tiedL S i).map eD)) ∧ Kp (fun p => p = s.length) s s') ⟨Nat.zero_le _, ⟨_, _, _, _, _, rfl⟩, get_new, Kp.push⟩ ?_ ?_
  · rintro i it σ s1 N' hit ⟨hin, ⟨v2, v3, v4, v5, v6, rfl⟩, hg, k1⟩ hN
    obtain ⟨y, hy, rfl⟩ := enum_of hit
    obtain ⟨hi, rfl⟩ := refsD_of hy
    have w1 := w.kp k1 (fun p _ h2 z => by omega)
    refine ⟨⟨_, w1.s1, rfl⟩, ?_⟩
    unfold b_tied_atoms_2
    walk_at "run"
    refine ⟨⟨by decide, by decide, by omega, by omega⟩, ?_⟩
    refine for_at (I := fun r σ s' => r ≤ i ∧ rootN S i r = none ∧ (∃ v4 v5 v6, σ = [some (.ref L), some (.ref s.length), some (.int i), some (.ref (rs L i)), v4, v5, v6]) ∧ s' = s1) ⟨Nat.zero_le _, rfl, ⟨_, _, _, rfl⟩, rfl⟩ ?_ ?_
    · rintro r it σ s2 N2 hit ⟨hri, hr0, ⟨w4, w5, w6, rfl⟩, rfl⟩ hN2
      obtain ⟨hr, rfl⟩ := rngN_of hit
      refine ⟨trivial, ?_⟩
      unfold b_tied_atoms_3
      walk_at "run"
      refine ix_ref (w1.sr i hi) (rowD_at (by omega)) ?_
      walk_at "run"
      refine fld_ref w1.ob rfl (ix_ref w1.s1 (refsD_at (by omega)) (ix_ref (w1.sr r (by omega)) (rowD_at hi) ?_))
      have no : tiedB S i r = false → ∀ v4 v5 v6, N2.nx [some (.ref L), some (.ref s.length), some (.int i), some (.ref (rs L i)), v4, v5, v6] s2 := fun ht v4 v5 v6 => hN2.nx _ _ ⟨by omega, by rw [rootN, hr0, ht]; rfl, ⟨_, _, _, rfl⟩, rfl⟩
      cases h1 : S i r with
      | none =>
        simp only [oD]
        walk_at "run"
        exact no (by unfold tiedB; rw [h1]) _ _ _
      | some a =>
        cases h2 : S r i with
        | none =>
          simp only [oD]
          walk_at "run"
          exact no (by unfold tiedB; rw [h1, h2]) _ _ _
        | some b =>
          simp only [oD]
          walk_at "run"
          refine br_dec (fun hz => ?_) (fun hz => no (by unfold tiedB; rw [h1, h2]; simp only [beq_eq_false_iff_ne, ne_eq]; exact hz) _ _ _)
          unfold b_tied_atoms_4
          walk_at "run"
          refine ⟨mty_ref hg rfl, ?_⟩
          walk_at "run"
          refine ⟨by decide, app_ref hg (by rw [List.length_map]; have := tiedL_len (S := S) (k := i); omega) ?_⟩
          refine hN2.bk _ _ (hN.nx _ _ ⟨hi, ⟨_, _, _, _, _, rfl⟩, ?_, k1.trans (Kp.set rfl)⟩)
          have ht : tiedB S i r = true := by unfold tiedB; rw [h1, h2]; simpa using hz
          have : rootN S i i = some r := by
            have h3 : rootN S i (r + 1) = some r := by rw [rootN, hr0, ht]; rfl
            have : ∀ q, r + 1 ≤ q → rootN S i q = some r := by
              intro q
              induction q with
              | zero => intro z; omega
              | succ q ih =>
                intro z
                by_cases e : r + 1 = q + 1
                · rw [← e]; exact h3
                · rw [rootN, ih (by omega)]
            exact this i (by omega)
          rw [get_set hg, tiedL_succ, rootB, this, List.map_append]
          dsimp only
          rw [h1]
          rfl
    · rintro σ s2 ⟨hri, hr0, ⟨w4, w5, w6, rfl⟩, rfl⟩
      refine ⟨trivial, ?_⟩
      rw [rngN_len] at hr0
      refine hN.nx _ _ ⟨hi, ⟨_, _, _, _, _, rfl⟩, ?_, k1⟩
      rw [tiedL_succ, rootB, hr0, List.append_nil]
      exact hg
  · rintro σ s1 ⟨hin, ⟨v2, v3, v4, v5, v6, rfl⟩, hg, k1⟩
    rw [enumL_len, refsD_len] at hg
    have w1 := w.kp k1 (fun p _ h2 z => by omega)
    refine ⟨⟨_, w1.s1, rfl⟩, ?_⟩
    unfold b_tied_atoms_1_1
    walk_at "run"
    refine tup_ref hg ?_
    exact h s1 (k1.mono fun p h1 h2 => by omega)
end
end K33

namespace K33
open PySem PX Wy
section
variable {j : Nat} {E : XQ}
abbrev vD (v : Nat → Int) (k : Nat) : List D := rowD (fun i => some (v i)) k
structure Low (k : Nat) (W : Mt) (φ v : Nat → Int) : Prop where
  lo : ∀ i, i < k → φ i ≤ v i
  hi : ∀ i, i < k → v i ≤ 0
theorem lowest_ok {s : Sto} {r k : Nat} {rw_ : Nat → Nat} {W : Mt} {φ : Nat → Int} (hk : k < 1000) (hr : s[r]? = some (.lst (refsD rw_ k))) (hw : ∀ i, i < k → s[rw_ i]? = some (.lst (rowD (W i) k))) (p0 : ∀ i, i < k → φ i ≤ 0) (p1 : ∀ i j c, i < k → j < k → W i j = some c → φ i - φ j ≤ c) {Q : QE}
    (h : ∀ s' q v, (∀ i, i < k → φ i ≤ v i ∧ v i ≤ 0) → (∀ i j c, i < k → j < k → W i j = some c → v i ≤ v j + c) → Kp (fun _ => False) s s' → s'[q]? = some (.lst (vD v k)) → s.length ≤ q → Q (.ref q) s') : Lv TT (j + 1) i_lowest_values [.ref r] s Q E := by
  refine lv_in (fn := d_lowest_values.fn) rfl rfl ?_
  dsimp only [d_lowest_values, b_lowest_values_1]
  walk_at "run"
  have e24 := size24
  have hrl := lt_of_get hr
  refine ⟨by decide, len_ref (get_old hr) ?_⟩
  rw [refsD_len]
  refine mul_ref get_new (by omega) (by omega) (by simp only [List.length_cons, List.length_nil]; omega) ?_
  have e0 : (List.replicate (k : Int).toNat [D.int 0]).flatten = vD (fun _ => 0) k := by
    clear hk hr hw p0 p1 h
    induction k with
    | zero => rfl
    | succ k ih =>
      rw [Int.toNat_natCast] at ih ⊢
      rw [List.replicate_succ', List.flatten_append, ih]
      exact rowD_snoc (g := fun _ => some 0)
  rw [e0]
  walk_at "run"
  generalize hq : (s ++ [Ob.lst [D.int 0]]).length = q
  have hql : s.length ≤ q := by rw [← hq]; simp
  refine whl_of (W := fun m σ s' => ∃ (v : Nat → Int) (c : Bool) (v3 v4 v5 v6 : Option D), m = 2 * (sm k v - sm k φ).toNat + (if c = true then 1 else 0) ∧ σ = [some (.ref r), some (.ref q), some (.bl c), v3, v4, v5, v6] ∧ s'[q]? = some (.lst (vD v k)) ∧ (∀ i, i < k → φ i ≤ v i ∧ v i ≤ 0) ∧ Kp (fun _ => False) s s' ∧ (c = false → ∀ i j x, i < k → j < k → W i j = some x → v i ≤ v j + x)) _ ⟨fun _ => 0, true, _, _, _, _, rfl, rfl, by rw [← hq]; exact get_new, fun i hi => ⟨p0 i hi, Int.le_refl _⟩, Kp.push.trans Kp.push, fun z => by cases z⟩ ?_
  rintro m σ s1 N' ⟨v, c, v3, v4, v5, v6, rfl, rfl, hg, hv, kp, hc⟩ hN
  walk_at "run"
  refine br_b (fun e => ?_) (fun e => ?_)
  · subst e
    unfold b_lowest_values_2
    walk_at "run"
    refine it_enum (kp.get _ _ id hr) ?_
    have hph : ∀ v : Nat → Int, (∀ i, i < k → φ i ≤ v i ∧ v i ≤ 0) → sm k φ ≤ sm k v := fun v hv => by
      have := sm_le (a := 0) fun i hi => show φ i ≤ v i + 0 by have := hv i hi; omega
      omega
    refine for_at (I := fun i σ s' => ∃ (v' : Nat → Int) (c : Bool) (v3 v4 v5 v6 : Option D), σ = [some (.ref r), some (.ref q), some (.bl c), v3, v4, v5, v6] ∧ s'[q]? = some (.lst (vD v' k)) ∧ (∀ i, i < k → φ i ≤ v' i ∧ v' i ≤ 0) ∧ Kp (fun _ => False) s s' ∧ (c = false → v' = v ∧ ∀ i' j x, i' < i → j < k → W i' j = some x → v i' ≤ v j + x) ∧ (c = true → sm k v' < sm k v)) ⟨v, false, _, _, _, _, rfl, hg, hv, kp, fun _ => ⟨rfl, fun i' j x h => by omega⟩, fun z => by cases z⟩ ?_ ?_
    · rintro i it σ s2 N2 hit ⟨v', c, w3, w4, w5, w6, rfl, hg2, hv2, kp2, hc0, hc1⟩ hN2
      obtain ⟨y, hy, rfl⟩ := enum_of hit
      obtain ⟨hi, rfl⟩ := refsD_of hy
      refine ⟨⟨_, kp2.get _ _ id hr, rfl⟩, ?_⟩
      unfold b_lowest_values_3
      walk_at "run"
      refine it_enum (kp2.get _ _ id (hw i hi)) ?_
      refine for_at (I := fun jj σ s' => ∃ (v' : Nat → Int) (c : Bool) (v5 v6 : Option D), σ = [some (.ref r), some (.ref q), some (.bl c), some (.int i), some (.ref (rw_ i)), v5, v6] ∧ s'[q]? = some (.lst (vD v' k)) ∧ (∀ i, i < k → φ i ≤ v' i ∧ v' i ≤ 0) ∧ Kp (fun _ => False) s s' ∧ (c = false → v' = v ∧ (∀ i' j x, i' < i → j < k → W i' j = some x → v i' ≤ v j + x) ∧ ∀ j x, j < jj → W i j = some x → v i ≤ v j + x) ∧ (c = true → sm k v' < sm k v)) ⟨v', c, _, _, rfl, hg2, hv2, kp2, fun z => ⟨(hc0 z).1, (hc0 z).2, fun j x h => by omega⟩, hc1⟩ ?_ ?_
      · rintro jj it σ s3 N3 hit ⟨v', c, w5, w6, rfl, hg3, hv3, kp3, hc0, hc1⟩ hN3
        obtain ⟨y, hy, rfl⟩ := enum_of hit
        obtain ⟨hj, rfl⟩ := rowD_of hy
        refine ⟨⟨_, kp3.get _ _ id (hw i hi), rfl⟩, ?_⟩
        unfold b_lowest_values_4
        cases hW : W i jj with
        | none =>
          simp only [oD]
          walk_at "run"
          refine hN3.nx _ _ ⟨v', c, _, _, rfl, hg3, hv3, kp3, fun z => ⟨(hc0 z).1, (hc0 z).2.1, fun j x h1 h2 => ?_⟩, hc1⟩
          by_cases e : j = jj
          · subst e; rw [hW] at h2; cases h2
          · exact (hc0 z).2.2 j x (by omega) h2
        | some x =>
          simp only [oD]
          walk_at "run"
          refine ix_ref hg3 (rowD_at hj) ?_
          simp only [oD]
          walk_at "run"
          refine ix_ref hg3 (rowD_at hi) ?_
          simp only [oD]
          walk_at "run"
          refine br_dec (fun hlt => ?_) (fun hge => ?_)
          · unfold b_lowest_values_5
            walk_at "run"
            refine ix_ref hg3 (rowD_at hj) ?_
            simp only [oD]
            walk_at "run"
            refine set_ref hg3 (ixn_k (by rw [rowD_len]; exact hi)) ?_
            walk_at "run"
            have hne : i ≠ jj := fun e => by
              subst e
              have := p1 i i x hi hi hW
              omega
            have := p1 i jj x hi hj hW
            have hvj := hv3 jj hj
            have hvi := hv3 i hi
            refine hN3.nx _ _ ⟨fun t => if t = i then v' jj + x else v' t, true, _, _, rfl, ?_, ?_, ?_, fun z => absurd z (by decide), fun _ => ?_⟩
            · rw [get_set hg3]
              have := rowD_set (g := fun i => some (v' i)) (n := k) (j := i) (v := some (v' jj + x))
              simp only [oD] at this
              rw [this]
              congr 2
              refine rowD_congr fun t _ => ?_
              dsimp only
              by_cases e : t = i
              · rw [if_pos e, if_pos e]
              · rw [if_neg e, if_neg e]
            · intro t ht
              dsimp only
              by_cases e : t = i
              · subst e
                rw [if_pos rfl]
                omega
              · rw [if_neg e]
                exact hv3 t ht
            · exact ((kp3.mono (r' := fun p => p = q) fun _ _ z => z.elim).trans (Kp.set rfl)).mono fun p hp z => by omega
            · rw [sm_upd hi]
              cases c with
              | false =>
                rw [(hc0 rfl).1] at hlt ⊢
                omega
              | true =>
                have := hc1 rfl
                omega
          · refine hN3.nx _ _ ⟨v', c, _, _, rfl, hg3, hv3, kp3, fun z => ⟨(hc0 z).1, (hc0 z).2.1, fun j y h1 h2 => ?_⟩, hc1⟩
            by_cases e : j = jj
            · subst e
              rw [hW] at h2
              cases h2
              rw [(hc0 z).1] at hge
              omega
            · exact (hc0 z).2.2 j y (by omega) h2
      · rintro σ s3 ⟨v', c, w5, w6, rfl, hg3, hv3, kp3, hc0, hc1⟩
        refine ⟨⟨_, kp3.get _ _ id (hw i hi), rfl⟩, ?_⟩
        rw [enumL_len, rowD_len] at hc0
        refine hN2.nx _ _ ⟨v', c, _, _, _, _, rfl, hg3, hv3, kp3, fun z => ⟨(hc0 z).1, fun i' j x h1 h2 h3 => ?_⟩, hc1⟩
        by_cases e : i' = i
        · subst e
          exact (hc0 z).2.2 j x h2 h3
        · exact (hc0 z).2.1 i' j x (by omega) h2 h3
    · rintro σ s2 ⟨v', c, w3, w4, w5, w6, rfl, hg2, hv2, kp2, hc0, hc1⟩
      refine ⟨⟨_, kp2.get _ _ id hr, rfl⟩, ?_⟩
      rw [enumL_len, refsD_len] at hc0
      refine hN.nx _ _ ⟨_, ?_, v', c, _, _, _, _, rfl, rfl, hg2, hv2, kp2, fun z i j x h1 h2 h3 => by rw [(hc0 z).1]; exact (hc0 z).2 i j x h1 h2 h3⟩
      have a1 := hph v hv
      have a2 := hph v' hv2
      cases c with
      | false =>
        rw [(hc0 rfl).1]
        simp
      | true =>
        have := hc1 rfl
        simp only [if_true]
        omega
  · unfold b_lowest_values_1_1
    walk_at "run"
    exact h s1 q v hv (hc e) kp hg hql
end
end K33

namespace K33
open PySem PX Wy
theorem log2_abs {i : Int} {n : Nat} (h0 : -(2 ^ n) < i) (h : i < 2 ^ n) (hn : 0 < n) : i.natAbs.log2 < n := by
  have : i.natAbs < 2 ^ n := by
    have : ((i.natAbs : Nat) : Int) < ((2 ^ n : Nat) : Int) := by
      push_cast
      omega
    exact Int.ofNat_lt.mp this
  by_cases z : i.natAbs = 0
  · rw [z]; exact hn
  · exact (Nat.log2_lt z).mpr this
/-- numbers of at most this size are multiplied -/
def Fit (i : Int) : Prop := -(2 ^ 1000) < i ∧ i < 2 ^ 1000
theorem mul_fit {i j : Int} (h : Fit i) (h' : Fit j) : mulOk i j := by
  have a := log2_abs h.1 h.2 (by decide)
  have b := log2_abs h'.1 h'.2 (by decide)
  unfold mulOk
  omega
theorem fit_nat {n : Nat} (h : n < 2 ^ 60) : Fit (n : Int) := ⟨by omega, by omega⟩
def uD (u : Nat → Nat) (k : Nat) : List D := (List.range k).map fun i => .int (u i)
theorem uD_len {u : Nat → Nat} {k : Nat} : (uD u k).length = k := by simp [uD]
theorem uD_get {u : Nat → Nat} {k i : Nat} (h : i < k) : (uD u k)[i]? = some (.int (u i)) := by
  unfold uD
  rw [List.getElem?_map, List.getElem?_range h]
  rfl
theorem uD_of {u : Nat → Nat} {k i : Nat} {x : D} (h : (uD u k)[i]? = some x) : i < k ∧ x = .int (u i) := by
  have h1 := (List.getElem?_eq_some_iff.mp h).1
  rw [uD_len] at h1
  rw [uD_get h1] at h
  exact ⟨h1, (Option.some.inj h).symm⟩
def wM (S : Mt) (u : Nat → Nat) (k : Nat) : Mt := fun i j => if u i = u j then none else (S (u i) (u j)).map fun a => (k : Int) * a - 1
section
variable {j : Nat} {E : XQ}
theorem weights_ok {s : Sto} {L n k r : Nat} {u : Nat → Nat} {S F : Mt} {fa : List Ft} (w : WAt s L n S F fa) (hn : n < 1000) (hr : s[r]? = some (.lst (uD u k))) (hu : ∀ i, i < k → u i < n) (hk : k < 1000) (hM : ∀ i j a, i < n → j < n → S i j = some a → Fit a) {Q : QE}
    (h : ∀ s' rw_, s'[s.length]? = some (.lst (refsD rw_ k)) → (∀ i, i < k → s'[rw_ i]? = some (.lst (rowD (wM S u k i) k))) → Kp (fun _ => False) s s' → Q (.ref s.length) s') : Lv TT (j + 1) i_weights_between [.ref L, .ref r] s Q E := by
  refine lv_in (fn := d_weights_between.fn) rfl rfl ?_
  dsimp only [d_weights_between, b_weights_between_1]
  walk_at "run"
  have e24 := size24
  refine ⟨by decide, it_ref (get_old hr) ?_⟩
  refine for_at (I := fun i σ s' => i ≤ k ∧ (∃ v3 v4 v5 v6, σ = [some (.ref L), some (.ref r), some (.ref s.length), v3, v4, v5, v6]) ∧ s'[s.length]? = some (.lst (refsD (fun i => s.length + 1 + i) i)) ∧ s'.length = s.length + 1 + i ∧ (∀ i', i' < i → s'[s.length + 1 + i']? = some (.lst (rowD (wM S u k i') k))) ∧ Kp (fun _ => False) s s') ⟨Nat.zero_le _, ⟨_, _, _, _, rfl⟩, get_new, by simp, fun i' h => by omega, Kp.push⟩ ?_ ?_
  · rintro i it σ s1 N' hit ⟨hik, ⟨v3, v4, v5, v6, rfl⟩, hg, hl, hro, k1⟩ hN
    obtain ⟨hi, rfl⟩ := uD_of hit
    refine ⟨k1.get _ _ id hr, ?_⟩
    unfold b_weights_between_2
    walk_at "run"
    refine ⟨by decide, it_ref (get_old (k1.get _ _ id hr)) ?_⟩
    have hrl := lt_of_get hr
    refine for_at (I := fun jj σ s' => jj ≤ k ∧ (∃ v5 v6, σ = [some (.ref L), some (.ref r), some (.ref s.length), some (.int (u i)), some (.ref s1.length), v5, v6]) ∧ s'[s1.length]? = some (.lst (rowD (wM S u k i) jj)) ∧ s'.length = s1.length + 1 ∧ Kp (fun p => p = s1.length) s1 s') ⟨Nat.zero_le _, ⟨_, _, rfl⟩, get_new, by simp, Kp.push⟩ ?_ ?_
    · rintro jj it σ s2 N2 hit ⟨hjk, ⟨w5, w6, rfl⟩, hg2, hl2, k2⟩ hN2
      obtain ⟨hj, rfl⟩ := uD_of hit
      have k02 : Kp (fun p => p = s1.length) s s2 := (k1.mono fun _ _ z => z.elim).trans k2
      refine ⟨k02.get _ _ (by omega) hr, ?_⟩
      have w2 := w.kp k02 (fun p h1 h2 z => by
        have := k1.len
        have := lt_of_get w.fc
        have := lt_of_get (w.fr (n - 1) (by have := w.np; omega))
        have := w.np
        unfold rf at *
        split at * <;> omega)
      unfold b_weights_between_3
      walk_at "run"
      refine fld_ref w2.ob rfl (ix_ref w2.s1 (refsD_at (hu i hi)) (ix_ref (w2.sr _ (hu i hi)) (rowD_at (hu jj hj)) ?_))
      walk_at "run"
      refine ⟨mty_ref hg2 rfl, ?_⟩
      have fin : ∀ (v : Option Int) v6 (s3 : Sto), v = wM S u k i jj → s3 = s2 → xMeth .append (.ref s1.length) [oD v] s3 (fun _ s4 => N2.nx [some (.ref L), some (.ref r), some (.ref s.length), some (.int (u i)), some (.ref s1.length), some (.int (u jj)), v6] s4) := by
        rintro v v6 s3 rfl rfl
        refine app_ref hg2 (by rw [rowD_len]; omega) (hN2.nx _ _ ⟨by omega, ⟨_, _, rfl⟩, ?_, by simpa using hl2, k2.trans (Kp.set rfl)⟩)
        rw [get_set hg2, rowD_snoc]
      refine br_dec (fun e => ?_) (fun e => ?_)
      · have e' : u i = u jj := by omega
        exact br_yes e (fin none _ _ (by unfold wM; rw [if_pos e']) rfl)
      · have e' : ¬ u i = u jj := by omega
        cases hS : S (u i) (u jj) with
        | none =>
          simp only [oD]
          walk_at "run"
          exact fin none _ _ (by unfold wM; rw [if_neg e', hS]; rfl) rfl
        | some a =>
          simp only [oD]
          walk_at "run"
          refine len_ref (k02.get _ _ (by omega) hr) ?_
          rw [uD_len]
          walk_at "run"
          refine ⟨mul_fit (fit_nat (by omega)) (hM _ _ _ (hu i hi) (hu jj hj) hS), ?_⟩
          exact fin (some _) _ _ (by unfold wM; rw [if_neg e', hS]; rfl) rfl
    · rintro σ s2 ⟨hjk, ⟨w5, w6, rfl⟩, hg2, hl2, k2⟩
      have k02 : Kp (fun p => p = s1.length) s s2 := (k1.mono fun _ _ z => z.elim).trans k2
      refine ⟨k02.get _ _ (by omega) hr, ?_⟩
      rw [uD_len] at hg2
      have hgq := k2.get _ _ (by omega) hg
      unfold b_weights_between_2_1
      walk_at "run"
      refine ⟨mty_ref hgq rfl, app_ref hgq (by rw [refsD_len]; omega) ?_⟩
      have e : s1.length = s.length + 1 + i := hl
      refine hN.nx _ _ ⟨by omega, ⟨_, _, _, _, rfl⟩, ?_, ?_, fun i' hi' => ?_, ?_⟩
      · rw [get_set hgq, e]
        have := refsD_snoc (rows := fun i => s.length + 1 + i) (n := i)
        rw [← this]
      · rw [List.length_set, hl2, e]; omega
      · rw [List.getElem?_set_ne (by omega)]
        by_cases z : i' = i
        · subst z
          rw [← e]
          exact hg2
        · exact k2.get _ _ (by omega) (hro i' (by omega))
      · exact ((k02.mono (r' := fun p => p = s1.length ∨ p = s.length) fun _ _ z => .inl z).trans (Kp.set (.inr rfl))).mono fun p hp z => by omega
  · rintro σ s1 ⟨hik, ⟨v3, v4, v5, v6, rfl⟩, hg, hl, hro, k1⟩
    refine ⟨k1.get _ _ id hr, ?_⟩
    rw [uD_len] at hg hro
    unfold b_weights_between_1_1
    walk_at "run"
    exact h s1 _ hg hro k1
end
end K33

namespace K33
open PySem PX Wy
def bkv (l : List Ft) : List (D × D) := l.map fun f => (D.int f.1, D.tup [.int f.2.1, .int f.2.2])
theorem dGet_app {a b : List (D × D)} {k : D} : dGet (a ++ b) k = match dGet a k with
  | some v => some v
  | none => dGet b k := by
  unfold dGet
  rw [List.find?_append]
  cases a.find? fun p => decide (p.1 = k) <;> rfl
theorem dGet_bkv {S : Mt} : ∀ {k x : Nat}, dGet (bkv (tiedL S k)) (.int x) = if x < k then (rootB S x).map fun r : Nat => D.tup [.int r, .int ((S x r).getD 0)] else none := by
  intro k
  induction k with
  | zero => intro x; rfl
  | succ k ih =>
    intro x
    rw [tiedL_succ]
    unfold bkv at ih ⊢
    rw [List.map_append, dGet_app, ih]
    by_cases h : x < k
    · rw [if_pos h, if_pos (by omega)]
      cases hr : rootB S x with
      | some r => rfl
      | none =>
        cases hk : rootB S k with
        | none => rfl
        | some q =>
          simp only [Option.map_none, List.map_cons, List.map_nil]
          unfold dGet
          have : ¬ (D.int (k : Int) = D.int (x : Int)) := fun e => by
            have := D.int.inj e
            omega
          simp [this]
    · rw [if_neg h]
      by_cases e : x = k
      · subst e
        rw [if_pos (by omega)]
        cases hk : rootB S x with
        | none => rfl
        | some q => simp [dGet]
      · rw [if_neg (by omega)]
        cases hk : rootB S k with
        | none => rfl
        | some q =>
          have : ¬ (D.int (k : Int) = D.int (x : Int)) := fun e => by
            have := D.int.inj e
            omega
          simp [dGet, this]
theorem tiedL_mem {S : Mt} {f : Ft} : ∀ {k : Nat}, f ∈ tiedL S k → f.1 < k ∧ rootB S f.1 = some f.2.1 ∧ f.2.2 = (S f.1 f.2.1).getD 0 := by
  intro k h
  unfold tiedL at h
  rw [List.mem_filterMap] at h
  obtain ⟨x, hx, e⟩ := h
  rw [List.mem_range] at hx
  cases hr : rootB S x with
  | none => rw [hr] at e; cases e
  | some r =>
    rw [hr] at e
    cases e
    exact ⟨hx, hr, rfl⟩
theorem tiedL_keys {S : Mt} {k x r : Nat} (hx : x < k) (h : rootB S x = some r) : x ∈ (tiedL S k).map (·.1) := by
  rw [List.mem_map]
  refine ⟨(x, r, (S x r).getD 0), ?_, rfl⟩
  unfold tiedL
  rw [List.mem_filterMap]
  exact ⟨x, List.mem_range.mpr hx, by rw [h]; rfl⟩
theorem tiedL_nodup {S : Mt} : ∀ {k : Nat}, ((tiedL S k).map (·.1)).Nodup := by
  intro k
  induction k with
  | zero => exact List.nodup_nil
  | succ k ih =>
    rw [tiedL_succ, List.map_append]
    cases h : rootB S k with
    | none => simpa using ih
    | some r =>
      rw [List.nodup_append]
      refine ⟨ih, by simp, ?_⟩
      intro a ha b hb
      obtain ⟨f, hf, rfl⟩ := List.mem_map.mp ha
      have := (tiedL_mem hf).1
      simp only [List.map_cons, List.map_nil, List.mem_cons, List.not_mem_nil, or_false] at hb
      omega
theorem tiedL_new {S : Mt} {k i : Nat} {f : Ft} (h : (tiedL S k)[i]? = some f) : f.1 ∉ ((tiedL S k).take i).map (·.1) := by
  have := nodup_take (tiedL_nodup (S := S) (k := k)) (k := i) (a := f.1) (by rw [List.getElem?_map, h]; rfl)
  rwa [← List.map_take] at this
theorem freeL_succ {S : Mt} {k : Nat} : freeL S (k + 1) = freeL S k ++ (if (rootB S k).isNone = true then [k] else []) := by
  unfold freeL
  rw [List.range_succ, List.filter_append]
  congr 1
  cases h : (rootB S k).isNone <;> simp [h]
theorem freeL_uD {S : Mt} {n : Nat} : (freeL S n).map (fun x : Nat => D.int x) = uD (uo S n) (ko S n) := by
  refine List.ext_getElem? fun i => ?_
  by_cases h : i < ko S n
  · rw [uD_get h, List.getElem?_map, uo_get h]
    rfl
  · rw [List.getElem?_eq_none (by rw [List.length_map]; exact Nat.le_of_not_lt h), List.getElem?_eq_none (by rw [uD_len]; exact Nat.le_of_not_lt h)]
/-- the points as they are told -/
def ptD (S : Mt) (n : Nat) (v : Nat → Int) (m : Nat) : D := .tup (vD (pv S n v m) n)
def rowP (S : Mt) (n : Nat) (v : Nat → Int) : List D := (List.range (ko S n)).map (ptD S n v)
section
variable {j : Nat} {E : XQ}
/-- the walk's state behind the free atoms -/
theorem points_ok {s : Sto} {L n D0 fr sc0 : Nat} {S F : Mt} {fa : List Ft} {v : Nat → Int} {x2 x3 x4 x9 x10 x11 x12 x13 x14 x15 : Option D} {N : En} (w : WAt s L n S F fa) (g : Good n fa S F) (hn : n < 1000)
    (hD : s[D0]? = some (.dic (bkv (tiedL S n)))) (hr : s[fr]? = some (.lst (uD (uo S n) (ko S n)))) (hs : s[sc0]? = some (.lst (vD (sc (ko S n) v) (ko S n)))) (hDL : D0 ≠ L)
    (h : ∀ s', Kp (fun p => p = D0) s s' → N.rt (.tup (rowP S n v)) s') :
    xSs (Lv TT (j + 1)) b_row_of_1_3 [some (.ref L), some (.ref D0), x2, x3, x4, some (.ref fr), some (.int (ko S n)), some (.int (pr (ko S n))), some (.ref sc0), x9, x10, x11, x12, x13, x14, x15] s N := by
  unfold b_row_of_1_3
  walk_at "run"
  have e24 := size24
  have np := w.np
  have hk0 := (uo_zero (S := S) np).1
  have hkn := ko_le (S := S) (n := n)
  have hpp : 0 < pr (ko S n) := pr_pos hk0
  have g0 := g.clo
  have hDl := lt_of_get hD
  have hrl := lt_of_get hr
  have hsl := lt_of_get hs
  have hdv : divOk (pr (ko S n)) := by
    refine div_small hpp ?_
    unfold pr
    have : (ko S n : Int) * ((ko S n : Int) + 1) ≤ 1000 * 1001 := Int.mul_le_mul (by omega) (by omega) (by omega) (by omega)
    omega
  have hDr : D0 ≠ fr := ref_ne hD hr (by intro z; cases z)
  have hDs : D0 ≠ sc0 := ref_ne hD hs (by intro z; cases z)
  refine ⟨by decide, it_ref (get_old hs) ?_⟩
  have KW : ∀ {s'}, Kp (fun p => p = D0) s s' → s'[L]? = some (.ins 0 [(0, .ref (L + 2)), (1, .ref (L + 4)), (2, .ref (L + 5)), (3, .non)]) ∧ s'[L + 2]? = some (.lst (refsD (rs L) n)) ∧ s'[fr]? = some (.lst (uD (uo S n) (ko S n))) ∧ s'[sc0]? = some (.lst (vD (sc (ko S n) v) (ko S n))) := fun k =>
    ⟨k.get _ _ (ref_ne w.ob hD (by intro z; cases z)) w.ob, k.get _ _ (ref_ne w.s1 hD (by intro z; cases z)) w.s1, k.get _ _ (Ne.symm hDr) hr, k.get _ _ (Ne.symm hDs) hs⟩
  have e5 : L + 2 ≠ s.length := by have := lt_of_get w.s1; omega
  refine for_at (I := fun m σ s' => m ≤ ko S n ∧ (∃ x2 x3 x4 x9 x10 x12 x13 x14 x15, σ = [some (.ref L), some (.ref D0), x2, x3, x4, some (.ref fr), some (.int (ko S n)), some (.int (pr (ko S n))), some (.ref sc0), x9, x10, some (.ref s.length), x12, x13, x14, x15]) ∧ s'[s.length]? = some (.lst ((List.range m).map (ptD S n v))) ∧ s'[D0]? = some (.dic (bkv (tiedL S n))) ∧ Kp (fun p => p = D0) s s') ⟨Nat.zero_le _, ⟨_, _, _, _, _, _, _, _, _, rfl⟩, get_new, get_old hD, Kp.push⟩ ?_ ?_
  · rintro m it σ s1 N' hit ⟨hmk, ⟨y2, y3, y4, y9, y10, y12, y13, y14, y15, rfl⟩, hg, hD1, k1⟩ hN
    obtain ⟨hm, rfl⟩ := rowD_of hit
    simp only [oD]
    obtain ⟨wo, ws, fr1, sc1⟩ := KW k1
    refine ⟨sc1, ?_⟩
    unfold b_row_of_2
    walk_at "run"
    refine ⟨hpp, ?_⟩
    refine ix_ref sc1 (rowD_at (j := 0) hk0) ?_
    simp only [oD]
    walk_at "run"
    refine ⟨hdv, it_enum fr1 ?_⟩
    have fl1 := lt_of_get fr1
    have sl1 := lt_of_get sc1
    refine dc_at (I := fun i s' => ∃ kvs, s'[s1.length]? = some (.dic kvs) ∧ kvs.length ≤ i ∧ (∀ x : Nat, dGet kvs (.int x) = (fi (uo S n) i x).map fun q => .int (fm (ko S n) v m q - fm (ko S n) v m 0)) ∧ Kp (fun p => p = s1.length) s1 s') ⟨[], get_new, Nat.le_refl _, fun x => rfl, Kp.push⟩ ?_ ?_
    · rintro i it s2 hit ⟨kvs, hk1, hk2, hk3, k2⟩
      obtain ⟨y, hy, rfl⟩ := enum_of hit
      obtain ⟨hi, rfl⟩ := uD_of hy
      refine ⟨⟨_, k2.get _ _ (by omega) fr1, rfl⟩, ?_⟩
      unfold i_row_of_2 lk_row_of_2 lv_row_of_2
      simp only [wipeS]
      walk_at "run"
      simp only [if_true]
      walk_at "run"
      refine ix_ref (k2.get _ _ (by omega) sc1) (rowD_at hi) ?_
      simp only [oD]
      walk_at "run"
      refine ⟨hdv, kvs, hk1, trivial, by omega, _, get_set hk1, Nat.le_trans dPut_len (by omega), fun x => ?_, k2.trans (Kp.set rfl)⟩
      rw [dGet_put, fi]
      by_cases e : uo S n i = x
      · rw [if_pos (by rw [e]), if_pos e]
        rfl
      · rw [if_neg (fun z => e (by have := D.int.inj z; omega)), if_neg e]
        exact hk3 x
    · rintro s2 ⟨kvs, hk1, hk2, hk3, k2⟩
      rw [enumL_len, uD_len] at hk2 hk3
      have k02 : Kp (fun p => p = D0) s s2 := (k1.mono (r' := fun p => p = D0 ∨ p = s1.length) fun _ _ z => .inl z).trans (k2.mono fun _ _ z => .inr z) |>.mono fun p hp z => z.resolve_right (by have := k1.len; omega)
      obtain ⟨wo2, ws2, fr2, sc2⟩ := KW k02
      have hD2 := k2.get _ _ (by have := lt_of_get hD1; omega) hD1
      refine ⟨⟨_, fr2, rfl⟩, ?_⟩
      unfold b_row_of_2_1
      walk_at "run"
      refine fk_slot rfl hD2 ?_
      have hKD : s1.length ≠ D0 := by have := lt_of_get hD1; omega
      have klen : ((bkv (tiedL S n)).map (·.1)).length = (tiedL S n).length := by unfold bkv; rw [List.length_map, List.length_map]
      have tl := tiedL_len (S := S) (k := n)
      refine for_at (I := fun i σ s' => (∃ x2, σ = [some (.ref L), some (.ref D0), x2, y3, y4, some (.ref fr), some (.int (ko S n)), some (.int (pr (ko S n))), some (.ref sc0), y9, y10, some (.ref s.length), some (.int (sc (ko S n) v m)), some (.int (tt (ko S n) v m)), some (.int (fm (ko S n) v m 0)), some (.ref s1.length)]) ∧ ∃ kvs, s'[s1.length]? = some (.dic kvs) ∧ kvs.length ≤ ko S n + i ∧ (∀ x : Nat, dGet kvs (.int x) = if x ∈ ((tiedL S n).take i).map (·.1) then some (.int (pv S n v m x)) else (fi (uo S n) (ko S n) x).map fun q => .int (fm (ko S n) v m q - fm (ko S n) v m 0)) ∧ s'[D0]? = some (.ldic (bkv (tiedL S n))) ∧ Kp (fun p => p = D0 ∨ p = s1.length) s2 s') ⟨⟨_, rfl⟩, kvs, get_ne hk1 hKD, hk2, fun x => by rw [hk3 x, if_neg (by simp)], get_set hD2, Kp.set (.inl rfl)⟩ ?_ ?_
      · rintro i it σ s3 N3 hit ⟨⟨z2, rfl⟩, kvs, hk1, hk2, hk3, hL3, k3⟩ hN3
        unfold bkv at hit
        rw [List.map_map, List.getElem?_map] at hit
        cases hf : (tiedL S n)[i]? with
        | none => rw [hf] at hit; cases hit
        | some f =>
        rw [hf] at hit
        have hit : it = D.int f.1 := (Option.some.inj hit).symm
        subst hit
        obtain ⟨f1, f2, f3⟩ := tiedL_mem (List.mem_of_getElem? hf)
        obtain ⟨x, r, c⟩ := f
        dsimp only at f1 f2 f3
        subst f3
        have hi2 := (List.getElem?_eq_some_iff.mp hf).1
        refine ⟨hL3, ?_⟩
        unfold b_row_of_3
        walk_at "run"
        have hb : dGet (bkv (tiedL S n)) (.int x) = some (.tup [.int r, .int ((S x r).getD 0)]) := by rw [dGet_bkv, if_pos f1, f2]; rfl
        obtain ⟨r1, r2, r3⟩ := root_root g0 f1 f2
        obtain ⟨q, hq, hqe⟩ := uo_of (S := S) (n := n) (show r < n by omega) r3
        have hkr : dGet kvs (.int r) = some (.int (bv S n v m r)) := by
          rw [hk3 r, if_neg, ← hqe, fi_uo hq]
          · show some (D.int _) = some (D.int (fm (ko S n) v m (ixo S n (uo S n q)) - fm (ko S n) v m 0))
            rw [ixo_uo hq]
          · intro z
            obtain ⟨f', hf', e'⟩ := List.mem_map.mp z
            have := (tiedL_mem (List.mem_of_mem_take hf')).2.1
            rw [e', r3] at this
            cases this
        refine ix_dic (ldic_ref hL3) rfl hb ?_
        rw [PX.x0]
        refine ix_dic (dic_ref hk1) rfl hkr ?_
        refine ix_dic (ldic_ref hL3) rfl hb ?_
        rw [PX.x1]
        walk_at "run"
        refine dset_ref hk1 rfl (by omega) ?_
        refine hN3.nx _ _ ⟨⟨_, rfl⟩, _, get_set hk1, Nat.le_trans dPut_len (by omega), fun y => ?_, get_ne hL3 (Ne.symm hKD), k3.trans (Kp.set (.inr rfl))⟩
        rw [dGet_put, List.take_add_one, hf]
        by_cases e : y = x
        · subst e
          rw [if_pos rfl, if_pos (by simp)]
          unfold pv
          rw [f2]
        · rw [if_neg (fun z => e (by have := D.int.inj z; omega)), hk3 y]
          have : (y ∈ (List.take i (tiedL S n) ++ (some (x, r, (S x r).getD 0)).toList).map (·.1)) ↔ y ∈ (List.take i (tiedL S n)).map (·.1) := by
            rw [List.map_append, List.mem_append]
            simp [e]
          simp only [this]
      · rintro σ s3 ⟨⟨z2, rfl⟩, kvs, hk1, hk2, hk3, hL3, k3⟩
        refine ⟨hL3, hL3, ?_⟩
        rw [klen, List.take_length] at hk3
        have hall : ∀ x, x < n → dGet kvs (.int x) = some (.int (pv S n v m x)) := fun x hx => by
          rw [hk3 x]
          cases hr : rootB S x with
          | some r => rw [if_pos (tiedL_keys hx hr)]
          | none =>
            obtain ⟨q, hq, hqe⟩ := uo_of hx hr
            rw [if_neg, ← hqe, fi_uo hq]
            · unfold pv bv
              rw [hqe, hr, ← hqe, ixo_uo hq]
              rfl
            · intro z
              obtain ⟨f', hf', e'⟩ := List.mem_map.mp z
              have := (tiedL_mem hf').2.1
              rw [e', hr] at this
              cases this
        have k13 : Kp (fun p => p = D0) s s3 := (k02.mono (r' := fun p => p = D0 ∨ p = s1.length) fun _ _ z => .inl z).trans k3 |>.mono fun p hp z => z.resolve_right (by have := k1.len; omega)
        have hk4 := get_ne (o' := .dic (bkv (tiedL S n))) hk1 hKD
        have k04 : Kp (fun p => p = D0) s (s3.set D0 (.dic (bkv (tiedL S n)))) := k13.trans (Kp.set rfl)
        have hD4 : (s3.set D0 (.dic (bkv (tiedL S n))))[D0]? = some (.dic (bkv (tiedL S n))) := get_set hL3
        have hg4 : (s3.set D0 (.dic (bkv (tiedL S n))))[s.length]? = some (.lst ((List.range m).map (ptD S n v))) := get_ne (k3.get _ _ (by have := lt_of_get hg; omega) (k2.get _ _ (by have := lt_of_get hg; omega) hg)) (by omega)
        generalize s3.set D0 (.dic (bkv (tiedL S n))) = s4 at hk4 k04 hD4 hg4 ⊢
        obtain ⟨wo4, ws4, fr4, sc4⟩ := KW k04
        unfold b_row_of_2_2
        walk_at "run"
        refine ⟨mty_ref hg4 rfl, ?_⟩
        refine fld_ref wo4 rfl (len_ref ws4 ?_)
        rw [refsD_len]
        walk_at "run"
        refine ⟨⟨by decide, by decide, by omega, by omega⟩, ?_⟩
        refine lc_at (I := fun i acc s' => s'[s4.length]? = some (.lst acc) ∧ acc = vD (pv S n v m) i ∧ Kp (fun p => p = s4.length) s4 s') (fun i acc s h => h.1) ⟨get_new, rfl, Kp.push⟩ ?_ ?_
        · rintro i it acc s5 hit ⟨hg5, rfl, k5⟩
          obtain ⟨hi, rfl⟩ := rngN_of hit
          refine ⟨trivial, ?_⟩
          unfold i_row_of_1 l_row_of_1
          simp only [wipeS]
          walk_at "run"
          walk_at "run"
          refine ix_dic (dic_ref (k5.get _ _ (by have := lt_of_get hk4; omega) hk4)) rfl (hall i hi) ?_
          refine ⟨hg5, by rw [rowD_len]; omega, get_set hg5, rowD_snoc (g := fun i => some (pv S n v m i)), k5.trans (Kp.set rfl)⟩
        · rintro acc s5 ⟨hg5, rfl, k5⟩
          rw [rngN_len] at hg5
          refine ⟨trivial, tup_ref hg5 ?_⟩
          have hg6 := k5.get _ _ (by have := lt_of_get hg4; omega) hg4
          refine app_ref hg6 (by rw [List.length_map, List.length_range]; omega) ?_
          have k05 : Kp (fun p => p = D0) s s5 := (k04.mono (r' := fun p => p = D0 ∨ p = s4.length) fun _ _ z => .inl z).trans (k5.mono fun _ _ z => .inr z) |>.mono fun p hp z => z.resolve_right (by have := k04.len; omega)
          refine hN.nx _ _ ⟨hm, ⟨_, _, _, _, _, _, _, _, _, rfl⟩, ?_, get_ne (k5.get _ _ (by have := lt_of_get hD4; omega) hD4) (by omega), ?_⟩
          · rw [get_set hg6, List.range_succ, List.map_append]
            rfl
          · exact ((k05.mono (r' := fun p => p = D0 ∨ p = s.length) fun _ _ z => .inl z).trans (Kp.set (.inr rfl))).mono fun p hp z => z.resolve_right (by omega)
  · rintro σ s1 ⟨hmk, ⟨y2, y3, y4, y9, y10, y12, y13, y14, y15, rfl⟩, hg, hD1, k1⟩
    refine ⟨(KW k1).2.2.2, ?_⟩
    rw [rowD_len] at hg
    unfold b_row_of_1_4
    walk_at "run"
    refine tup_ref hg ?_
    exact h s1 k1
end
end K33

set_option exponentiation.threshold 2000
namespace K33
open PySem PX Wy
section
variable {j : Nat} {E : XQ}
theorem scaled_ok {s : Sto} {L n D0 fr : Nat} {S F : Mt} {fa : List Ft} {p : Nat → Int} {M : Int} {x2 x3 x4 x6 x7 x8 x9 x10 x11 x12 x13 x14 x15 : Option D} {N : En} (w : WAt s L n S F fa) (g : Good n fa S F) (sol : Sol p fa) (hn : n < 1000) (hL : L + 8 * n ≤ s.length + 2)
    (hM0 : 0 ≤ M) (hM1 : M < 2 ^ 900) (hS : ∀ i j a, i < n → j < n → S i j = some a → a ≤ M ∧ -M ≤ a) (hp : ∀ i, i < n → p i ≤ M ∧ -M ≤ p i)
    (hD : s[D0]? = some (.dic (bkv (tiedL S n)))) (hr : s[fr]? = some (.lst (uD (uo S n) (ko S n)))) (hDL : D0 ≠ L)
    (h : ∀ s' v, LowV S n v → (∀ i, i < ko S n → InB (2 ^ 950) (v i)) → Kp (fun p => p = D0) s s' → N.rt (.tup (rowP S n v)) s') :
    xSs (Lv TT (j + 1)) b_row_of_1_2 [some (.ref L), some (.ref D0), x2, x3, x4, some (.ref fr), x6, x7, x8, x9, x10, x11, x12, x13, x14, x15] s N := by
  unfold b_row_of_1_2
  walk_at "run"
  have e24 := size24
  have np := w.np
  have hk0 := (uo_zero (S := S) np).1
  have hkn := ko_le (S := S) (n := n)
  have g0 := g.clo
  refine len_ref hr ?_
  rw [uD_len]
  walk_at "run"
  refine ⟨mul_fit (fit_nat (by omega)) (fit_nat (n := ko S n + 1) (by omega)), ?_⟩
  obtain ⟨φ, f1, f2⟩ := pot g0 (uo_fre S) (p := p) (fun i j a hi hj e => (g.way i j a hi hj e).sol sol) hS hp hM0
  have hfit : ∀ i j a, i < n → j < n → S i j = some a → Fit a := fun i j a hi hj e => by
    have := hS i j a hi hj e
    exact ⟨by omega, by omega⟩
  refine weights_ok w hn hr (fun i hi => (uo_mem hi).1) (by omega) hfit fun s1 rw_ h1 h2 k1 => ?_
  walk_at "run"
  refine lowest_ok (by omega) h1 h2 (fun i hi => (f1 i hi).1) (fun i i' c hi hi' e => ?_) fun s2 q v hv1 hv2 k2 hq hql => ?_
  · unfold wM at e
    split at e
    · cases e
    · rename_i hne
      cases hS' : S (uo S n i) (uo S n i') with
      | none => rw [hS'] at e; cases e
      | some a =>
        rw [hS'] at e
        cases e
        exact f2 i i' a hi hi' (fun z => hne (by rw [z])) hS'
  have lv : LowV S n v := fun i i' a hi hi' hne e => hv2 i i' _ hi hi' (by
    unfold wM
    rw [if_neg (fun z => hne (uo_inj hi hi' z)), e]
    rfl)
  have hvb : ∀ i, i < ko S n → InB (2 ^ 950) (v i) := fun i hi => by
    have a1 := hv1 i hi
    have a2 := (f1 i hi).2
    have a3 : (ko S n : Int) * (5 * M + 1) ≤ 1000 * (5 * M + 1) := Int.mul_le_mul_of_nonneg_right (by omega) (by omega)
    exact ⟨by omega, by omega⟩
  have hvf : ∀ i, i < ko S n → Fit (v i) := fun i hi => by
    have a1 := hvb i hi
    exact ⟨by have := a1.1; omega, by have := a1.2; omega⟩
  refine it_enum hq ?_
  refine lc_at (I := fun i acc s' => s'[s2.length]? = some (.lst acc) ∧ acc = vD (sc (ko S n) v) i ∧ Kp (fun p => p = s2.length) s2 s') (fun i acc s h => h.1) ⟨get_new, rfl, Kp.push⟩ ?_ ?_
  · rintro i it acc s3 hit ⟨hg3, rfl, k3⟩
    obtain ⟨y, hy, rfl⟩ := enum_of hit
    obtain ⟨hi, rfl⟩ := rowD_of hy
    refine ⟨⟨_, k3.get _ _ (by have := lt_of_get hq; omega) hq, rfl⟩, ?_⟩
    unfold i_row_of_3 l_row_of_3
    simp only [wipeS, oD]
    walk_at "run"
    refine ⟨mul_fit (fit_nat (n := ko S n + 1) (by omega)) (hvf i hi), ?_⟩
    refine ⟨hg3, by rw [rowD_len]; omega, get_set hg3, rowD_snoc (g := fun i => some (sc (ko S n) v i)), k3.trans (Kp.set rfl)⟩
  · rintro acc s3 ⟨hg3, rfl, k3⟩
    rw [enumL_len, rowD_len] at hg3
    refine ⟨⟨_, k3.get _ _ (by have := lt_of_get hq; omega) hq, rfl⟩, ?_⟩
    have k12 := k1.trans k2
    have k03 : Kp (fun _ => False) s s3 := (k12.mono (r' := fun p => p = s2.length) fun _ _ z => z.elim).trans k3 |>.mono fun p hp z => by have := k12.len; omega
    exact points_ok (w.kp k03 fun _ _ _ => id) g hn (k03.get _ _ id hD) (k03.get _ _ id hr) hg3 hDL fun s4 k4 => h s4 v lv hvb ((k03.mono fun _ _ z => z.elim).trans (k4.mono fun _ _ z => z))
theorem row_of_ok {s : Sto} {L n : Nat} {S F : Mt} {fa : List Ft} {p : Nat → Int} {M : Int} (w : WAt s L n S F fa) (g : Good n fa S F) (sol : Sol p fa) (hn : n < 1000) (hL : L + 8 * n ≤ s.length + 2)
    (hM0 : 0 ≤ M) (hM1 : M < 2 ^ 900) (hS : ∀ i j a, i < n → j < n → S i j = some a → a ≤ M ∧ -M ≤ a) (hp : ∀ i, i < n → p i ≤ M ∧ -M ≤ p i) {Q : QE}
    (h : ∀ s' v, LowV S n v → (∀ i, i < ko S n → InB (2 ^ 950) (v i)) → Kp (fun _ => False) s s' → Q (.tup (rowP S n v)) s') : Lv TT (j + 2) i_row_of [.ref L] s Q E := by
  refine lv_in (fn := d_row_of.fn) rfl rfl ?_
  dsimp only [d_row_of, b_row_of_1]
  walk_at "run"
  have e24 := size24
  have np := w.np
  refine tied_ok w hn hL fun s1 k1 => ?_
  walk_at "run"
  have tl := tiedL_len (S := S) (k := n)
  have w1 := w.kp k1 fun _ _ _ => id
  have l1 := k1.len
  refine dc_at (I := fun i s' => s'[s1.length]? = some (.dic (bkv ((tiedL S n).take i))) ∧ Kp (fun p => p = s1.length) s1 s') ⟨get_new, Kp.push⟩ ?_ ?_
  · rintro i it s2 hit ⟨hg, k2⟩
    rw [List.getElem?_map] at hit
    cases hf : (tiedL S n)[i]? with
    | none => rw [hf] at hit; cases hit
    | some f =>
    rw [hf] at hit
    cases hit
    have hnew := tiedL_new hf
    obtain ⟨x, r, c⟩ := f
    refine ⟨trivial, ?_⟩
    unfold i_row_of_5 lk_row_of_5 lv_row_of_5 eD
    simp only [wipeS]
    walk_at "run"
    simp only [if_true]
    walk_at "run"
    refine ⟨by decide, _, hg, trivial, by unfold bkv; rw [List.length_map]; have := List.length_take_le i (tiedL S n); have := List.length_take (i := i) (l := tiedL S n); omega, ?_, k2.trans (Kp.set rfl)⟩
    rw [get_set hg, dPut_new, List.take_add_one, hf]
    · unfold bkv
      rw [List.map_append]
      rfl
    · intro q hq e
      unfold bkv at hq
      obtain ⟨f', hf', rfl⟩ := List.mem_map.mp hq
      dsimp only at e
      have := D.int.inj e
      exact hnew (List.mem_map.mpr ⟨f', hf', by dsimp only; omega⟩)
  · rintro s2 ⟨hg, k2⟩
    rw [List.length_map, List.take_length] at hg
    refine ⟨trivial, ?_⟩
    have k02 : Kp (fun p => False) s s2 := (k1.mono (r' := fun p => p = s1.length) fun _ _ z => z.elim).trans k2 |>.mono fun p hp z => by omega
    have w2 := w.kp k02 fun _ _ _ => id
    unfold b_row_of_1_1
    walk_at "run"
    refine fld_ref w2.ob rfl (len_ref w2.s1 ?_)
    rw [refsD_len]
    walk_at "run"
    refine ⟨⟨by decide, by decide, by omega, by omega⟩, ?_⟩
    refine lc_at (I := fun i acc s' => s'[s2.length]? = some (.lst acc) ∧ acc = (freeL S i).map (fun x : Nat => D.int x) ∧ i ≤ n ∧ Kp (fun p => p = s2.length) s2 s') (fun i acc s h => h.1) ⟨get_new, rfl, Nat.zero_le _, Kp.push⟩ ?_ ?_
    · rintro i it acc s3 hit ⟨hg3, rfl, _, k3⟩
      obtain ⟨hi, rfl⟩ := rngN_of hit
      refine ⟨trivial, ?_⟩
      unfold i_row_of_4 l_row_of_4
      simp only [wipeS]
      walk_at "run"
      have hgd := k3.get _ _ (by have := lt_of_get hg; omega) hg
      rw [nin_dic (dic_ref hgd) rfl, dGet_bkv, if_pos hi]
      cases hb : rootB S i with
      | some r =>
        simp only [Option.map_some, Option.isSome_some]
        walk_at "run"
        rw [if_neg (by decide)]
        refine ⟨hg3, ?_, hi, k3⟩
        rw [freeL_succ, hb]
        simp
      | none =>
        simp only [Option.map_none, Option.isSome_none]
        walk_at "run"
        refine ⟨hg3, ?_, get_set hg3, ?_, hi, k3.trans (Kp.set rfl)⟩
        · rw [List.length_map]
          have := ko_le (S := S) (n := i)
          unfold ko at this
          omega
        · rw [freeL_succ, hb, List.map_append]
          rfl
    · rintro acc s3 ⟨hg3, rfl, _, k3⟩
      rw [rngN_len, freeL_uD] at hg3
      refine ⟨trivial, ?_⟩
      have k03 : Kp (fun p => False) s s3 := (k02.mono (r' := fun p => p = s2.length) fun _ _ z => z.elim).trans k3 |>.mono fun p hp z => by have := k02.len; omega
      have l3 := k03.len
      have hDL := lt_of_get w.ob
      exact scaled_ok (w.kp k03 fun _ _ _ => id) g sol hn (by omega) hM0 hM1 hS hp (k3.get _ _ (by have := lt_of_get hg; omega) hg) hg3 (by omega) fun s4 v lv vb k4 => h s4 v lv vb ((k03.mono (r' := fun p => p = s1.length) fun _ _ z => z.elim).trans k4 |>.mono fun p hp z => by omega)
/-- all sums of ways are small -/
theorem sums_small {n : Nat} {S F : Mt} {fa : List Ft} {M : Int} (g : Good n fa S F) (hM : ∀ f ∈ fa, f.2.2 ≤ M ∧ -M ≤ f.2.2) (hM0 : 0 ≤ M) {i j : Nat} {a : Int} (hi : i < n) (hj : j < n) (e : S i j = some a) : a ≤ n * M ∧ -(n * M) ≤ a := by
  obtain ⟨L, l0, hL⟩ := g.rank
  have hl := rank_lt g l0 hL hj hi e
  have : ∀ N i j a, L i j = N → i < n → j < n → S i j = some a → a ≤ N * M ∧ -(N * M) ≤ a := by
    intro N
    induction N with
    | zero =>
      intro i j a h0 hi hj hs
      by_cases e : i = j
      · subst e
        rw [g.diag i hi] at hs
        cases hs
        simp
      · obtain ⟨k, y, m, b, _, _, _, _, h5⟩ := hL i j a hi hj e hs
        omega
    | succ N ih =>
      intro i j a h0 hi hj hs
      by_cases e : i = j
      · subst e
        rw [l0 i hi] at h0
        omega
      · obtain ⟨k, y, m, b, h1, h2, h3, h4, h5⟩ := hL i j a hi hj e hs
        have hm := List.mem_of_getElem? h2
        have hy := (g.ed _ hm).2
        have := ih y j b (by omega) hy hj h3
        have := hM _ hm
        have e2 : ((N + 1 : Nat) : Int) * M = N * M + M := by rw [Int.natCast_add, Int.add_mul]; omega
        rw [e2]
        dsimp only at this
        omega
  have h1 := this _ i j a rfl hi hj e
  have h2 : (L i j : Int) * M ≤ n * M := Int.mul_le_mul_of_nonneg_right (by omega) hM0
  omega
end
end K33

namespace K33
open PySem PX Wy
section
variable {j : Nat} {E : XQ}
def rowI (g : Nat → Option Int) (k : Nat) : List Int := (List.range k).filterMap g
theorem rowI_succ {g : Nat → Option Int} {k : Nat} : rowI g (k + 1) = rowI g k ++ (match g k with
  | some v => [v]
  | none => []) := by
  unfold rowI
  rw [List.range_succ, List.filterMap_append]
  cases h : g k <;> simp [h]
theorem rowI_mem {g : Nat → Option Int} {k : Nat} {v : Int} : v ∈ rowI g k ↔ ∃ i, i < k ∧ g i = some v := by
  unfold rowI
  rw [List.mem_filterMap]
  exact ⟨fun ⟨i, h1, h2⟩ => ⟨i, List.mem_range.mp h1, h2⟩, fun ⟨i, h1, h2⟩ => ⟨i, List.mem_range.mpr h1, h2⟩⟩
theorem rowI_len {g : Nat → Option Int} {k : Nat} : (rowI g k).length ≤ k := Nat.le_trans (List.length_filterMap_le _ _) (by simp)
theorem sol_ok {s : Sto} {L n : Nat} {S F : Mt} {fa : List Ft} (w : WAt s L n S F fa) (g : Good n fa S F) (hn : n < 1000) (hL : L + 8 * n ≤ s.length + 2) {Q : QE}
    (h : ∀ (lo : Nat → Int) s', Sol lo fa → Kp (fun _ => False) s s' → Q (.tup ((List.range n).map fun i => .int (lo i - lo 0))) s') : Lv TT (j + 1) i_any_solution [.ref L] s Q E := by
  refine lv_in (fn := d_any_solution.fn) rfl rfl ?_
  dsimp only [d_any_solution, b_any_solution_1]
  walk_at "run"
  have np := w.np
  refine fld_ref w.ob rfl (it_ref w.s1 ?_)
  refine lc_at (I := fun i acc s' => s'[s.length]? = some (.lst acc) ∧ (∃ ms : List Int, acc = ms.map .int ∧ ms.length = i ∧ ∀ k m, ms[k]? = some m → LowAt S n k m) ∧ Kp (fun p => s.length ≤ p) s s') (fun i acc s h => h.1) ⟨get_new, ⟨[], rfl, rfl, fun k m h => by simp at h⟩, Kp.push⟩ ?_ ?_
  · rintro i x acc s1 hx ⟨hg, ⟨ms, rfl, hl, hm⟩, kp⟩
    obtain ⟨hi, rfl⟩ := refsD_of hx
    have w1 := w.kp kp (fun p _ _ z => by omega)
    refine ⟨w1.s1, ?_⟩
    unfold i_any_solution_2 l_any_solution_2
    walk_at "run"
    simp only [if_true, wipeS]
    walk_at "run"
    refine it_ref (w1.sr i hi) ?_
    refine lc_at (I := fun k acc s' => s'[s1.length]? = some (.lst acc) ∧ acc = (rowI (S i) k).map .int ∧ k ≤ n ∧ Kp (fun p => p = s1.length) s1 s') (fun i acc s h => h.1) ⟨get_new, rfl, Nat.zero_le _, Kp.push⟩ ?_ ?_
    · rintro k x acc s2 hx ⟨hg2, rfl, hkn, k2⟩
      obtain ⟨hk, rfl⟩ := rowD_of hx
      refine ⟨k2.get _ _ (by have := lt_of_get (w1.sr i hi); omega) (w1.sr i hi), ?_⟩
      unfold i_any_solution_3 l_any_solution_3
      simp only [wipeS]
      walk_at "run"
      cases hS : S i k with
      | none =>
        simp only [oD]
        walk_at "run"
        rw [if_neg (by decide)]
        refine ⟨hg2, ?_, hk, k2⟩
        rw [rowI_succ, hS, List.append_nil]
      | some v =>
        simp only [oD]
        walk_at "run"
        refine ⟨hg2, by rw [List.length_map]; have := rowI_len (g := S i) (k := k); show _ < 2 ^ 24; omega, get_set hg2, ?_, hk, k2.trans (Kp.set rfl)⟩
        rw [rowI_succ, hS, List.map_append]
        rfl
    · rintro acc s2 ⟨hg2, rfl, hkn, k2⟩
      rw [rowD_len] at hg2
      refine ⟨k2.get _ _ (by have := lt_of_get (w1.sr i hi); omega) (w1.sr i hi), ?_⟩
      have h0 : (0 : Int) ∈ rowI (S i) n := rowI_mem.mpr ⟨i, hi, g.diag i hi⟩
      refine min1_ref hg2 (List.length_pos_of_mem h0) fun m hm1 hm2 => ?_
      have hg3 := k2.get _ _ (by have := lt_of_get hg; omega) hg
      refine ⟨hg3, by rw [List.length_map]; show _ < 2 ^ 24; omega, get_set hg3, ⟨ms ++ [m], by rw [List.map_append]; rfl, by simp [hl], fun k m' hk => ?_⟩, (kp.trans (k2.mono fun p _ h => by have := kp.len; omega)).trans (Kp.set (Nat.le_refl _))⟩
      by_cases hk' : k < ms.length
      · rw [List.getElem?_append_left hk'] at hk
        exact hm k m' hk
      · have hk2 : k = ms.length := by
          have := (List.getElem?_eq_some_iff.mp hk).1
          rw [List.length_append, List.length_singleton] at this
          omega
        subst hk2
        rw [List.getElem?_append_right (Nat.le_refl _), Nat.sub_self] at hk
        cases hk
        rw [hl]
        refine ⟨?_, fun c a hc ha => hm2 a (rowI_mem.mpr ⟨c, hc, ha⟩)⟩
        obtain ⟨c, hc, hc2⟩ := rowI_mem.mp hm1
        exact ⟨c, hc, hc2⟩
  · rintro acc s1 ⟨hg, ⟨ms, rfl, hl, hm⟩, kp⟩
    rw [refsD_len] at hl
    have w1 := w.kp kp (fun p _ _ z => by omega)
    refine ⟨w1.s1, ?_⟩
    unfold b_any_solution_1_1
    walk_at "run"
    refine it_ref hg ?_
    have hlo : ∀ k, k < n → ms[k]? = some (ms.getD k 0) := fun k hk => by
      rw [List.getD_eq_getElem?_getD, List.getElem?_eq_getElem (by omega)]
      rfl
    refine lc_map (all := ms.map .int) (o := .lst s.length) (f := fun i x => .int (ms.getD i 0 - ms.getD 0 0)) (by rw [List.length_map]; show _ < 2 ^ 24; omega) (fun s' k => k.get _ _ (by have := lt_of_get hg; omega) hg) ?_ ?_
    · intro i x s2 Q' hx k2 hq
      rw [List.getElem?_map] at hx
      have hi : i < n := by
        cases e : ms[i]? with
        | none => rw [e] at hx; cases hx
        | some m =>
          have := (List.getElem?_eq_some_iff.mp e).1
          omega
      rw [hlo i hi] at hx
      cases hx
      unfold l_any_solution_1
      simp only [wipeS]
      walk_at "run"
      have hg2 := k2.get _ _ (by have := lt_of_get hg; omega) hg
      refine ix_ref hg2 (v := .int (ms.getD 0 0)) ?_ ?_
      · rw [show ((0 : Int)) = ((0 : Nat) : Int) from rfl, atI_k, List.getElem?_map, hlo 0 np]
        rfl
      · walk_at "run"
        exact hq s2 (Kp.refl _ _)
    · intro s2 k2 hg2
      refine tup_ref hg2 ?_
      have e : List.mapIdx (fun i (x : D) => D.int (ms.getD i 0 - ms.getD 0 0)) (ms.map D.int) = (List.range n).map fun i => .int (ms.getD i 0 - ms.getD 0 0) := by
        apply List.ext_getElem?
        intro i
        rw [List.getElem?_mapIdx, List.getElem?_map, List.getElem?_map]
        by_cases hi : i < n
        · rw [hlo i hi, List.getElem?_range hi]
          rfl
        · rw [List.getElem?_eq_none (by omega), List.getElem?_eq_none (by simpa using hi)]
          rfl
      rw [e]
      refine h (fun i => ms.getD i 0) s2 (low_sol g (fun i hi => ?_) (fun i c a hi hc ha => ?_)) ((kp.mono fun p h1 h2 => by omega).trans (k2.mono fun p h1 h2 => by have := kp.len; omega))
      · exact (hm i _ (hlo i hi)).1
      · exact (hm i _ (hlo i hi)).2 c a hc ha
end
end K33

namespace K33
open PySem PX Wy
section
variable {j : Nat} {E : XQ}
def solD (n : Nat) (lo : Nat → Int) : D := .tup ((List.range n).map fun i => .int (lo i - lo 0))
def ksD (ks : List Nat) : D := .tup (ks.map fun k : Nat => .int k)
def Told (fa : List Ft) (n x y : Nat) (k : Int) (low : Option Int) (told : D) : Prop :=
  (∃ a ks, low = some a ∧ a ≤ k ∧ Pth fa x ks y a ∧ told = .tup [.str [121, 101, 115], ksD ks]) ∨
  ((∀ a, low = some a → k < a) ∧ ∃ lo, Sol lo fa ∧ k + 1 ≤ lo x - lo y ∧ told = .tup [.str [110, 111], solD n lo])
theorem follows_ok {s : Sto} {n x y : Nat} {d : D} {k : Int} {fa : List Ft} {p : Nat → Int} {W : Mt} (hn : n < 1000) (hf : fa.length < 900) (hd : FaV s d fa) (ed : ∀ f ∈ fa, f.1 < n ∧ f.2.1 < n) (sol : Sol p fa) (hx : x < n) (hy : y < n) (fw : Fw n n fa W) {Q : QE}
    (h : ∀ told s', Told fa n x y k (W x y) told → Kp (fun _ => False) s s' → Q told s') : Lv TT (j + 4) i_follows [.int n, d, .int x, .int y, .int k] s Q E := by
  refine lv_in (fn := d_follows.fn) rfl rfl ?_
  dsimp only [d_follows, b_follows_1]
  walk_at "run"
  refine ways_ok hn (by omega) (by omega) hd ed sol fun s1 S F w g hl kp => ?_
  have kp0 : Kp (fun _ => False) s s1 := kp.mono fun p h1 h2 => by omega
  have same := Wy.same g fw hx hy
  unfold b_follows_1_1
  walk_at "run"
  refine fld_ref w.ob rfl (ix2 w.s1 (w.sr x hx) hx hy ?_)
  have no : (∀ a, S x y = some a → k < a) → ∀ v, xSs (Lv TT (j + 3)) b_follows_1_2 [some (.int n), some d, some (.int x), some (.int y), some (.int k), some (.ref s.length), v] s1 { nx := fun σ s' => Q .non s', rt := Q, bk := fun σ s => False, ct := fun σ s => False, ex := fun c fs σ s' => E c fs s' } := fun hno v => by
    unfold b_follows_1_2
    walk_at "run"
    refine mc_ref w.ob rfl (by decide) (add_ok w g hn (by omega) hy hx (fun b hb => by have := hno b hb; omega) (by omega) fun v' s2 S' F' w2 g2 k2 => ?_)
    unfold b_follows_1_3
    walk_at "run"
    refine sol_ok w2 g2 hn (by have := k2.len; omega) fun lo s3 hs k3 => ?_
    walk_at "run"
    refine ⟨by decide, h _ s3 (.inr ⟨by rw [← same]; exact hno, lo, fun f hf => hs f (List.mem_append_left _ hf), ?_, rfl⟩) (((kp.trans (k2.mono fun p _ h => h.1)).mono fun p h1 h2 => by omega).trans k3)⟩
    · have := hs (y, x, -k - 1) (by simp)
      dsimp only at this
      omega
  cases hS : S x y with
  | none =>
    simp only [oD]
    walk_at "run"
    exact no (fun a z => by rw [hS] at z; cases z) _
  | some a =>
    simp only [oD]
    walk_at "run"
    refine br_dec (fun hle => ?_) (fun hle => ?_)
    · unfold b_follows_2
      walk_at "run"
      refine mc_ref w.ob rfl (by decide) (path_ok w (fun _ _ h => h) g hn hx hy hS (by omega) fun ks s2 _ k2 hp => ?_)
      walk_at "run"
      exact ⟨by decide, h _ s2 (.inl ⟨a, ks, by rw [← same]; exact hS, hle, hp, rfl⟩) (kp0.trans k2)⟩
    · exact no (fun b z => by rw [hS] at z; cases z; omega) _
end
end K33

namespace K33
open PySem PX Wy
section
variable {j : Nat} {E : XQ}
theorem isint_ok {s : Sto} {i : Int} {Q : QE} (h : Q (.bl true) s) : Lv TT (j + 1) i_law_is_int [.int i] s Q E := by
  refine lv_in (fn := d_law_is_int.fn) rfl rfl ?_
  dsimp only [d_law_is_int, b_law_is_int_1]
  walk_at "run"
  exact h
theorem way_ok {s : Sto} {r x y : Nat} {ks : List Nat} {a : Int} {fa : List Ft} (hr : s[r]? = some (.lst (fa.map eD))) (hp : Pth fa x ks y a) {Q : QE} (h : Q (.int a) s) : Lv TT (j + 2) i_law_way [.ref r, ksD ks, .int x, .int y] s Q E := by
  refine lv_in (fn := d_law_way.fn) rfl rfl ?_
  dsimp only [d_law_way, b_law_way_1]
  unfold ksD
  walk_at "run"
  unfold b_law_way_1_1
  walk_at "run"
  refine for_at (I := fun k σ s' => s' = s ∧ ∃ (x' : Nat) (c b : Int) (v : Option D), σ = [some (.ref r), some (.tup (ks.map fun k : Nat => .int k)), some (.int x), some (.int y), some (.int x'), some (.int c), v] ∧ Pth fa x' (ks.drop k) y b ∧ c + b = a) ⟨rfl, x, 0, a, none, rfl, hp, by omega⟩ ?_ ?_
  · rintro i it σ s1 N' hit ⟨rfl, x', c, b, v, rfl, hp, hc⟩ hN
    rw [List.getElem?_map] at hit
    cases hk : ks[i]? with
    | none => rw [hk] at hit; cases hit
    | some k =>
    rw [hk] at hit
    cases hit
    have hlt := (List.getElem?_eq_some_iff.mp hk).1
    rw [List.drop_eq_getElem_cons hlt, (List.getElem?_eq_some_iff.mp hk).2] at hp
    obtain ⟨y', m, b', h1, h2, h3⟩ := hp
    have hkl := (List.getElem?_eq_some_iff.mp h1).1
    refine ⟨trivial, ?_⟩
    unfold b_law_way_3
    walk_at "run"
    refine isint_ok ?_
    walk_at "run"
    refine br_yes (by omega) (len_ref hr ?_)
    rw [List.length_map]
    walk_at "run"
    rw [decide_eq_true (show ((k : Int) < fa.length) by omega)]
    walk_at "run"
    refine ix_ref hr (fact_at h1) ?_
    unfold eD
    rw [x0]
    walk_at "run"
    rw [decide_eq_true (show ((x' : Int) = x') from rfl)]
    walk_at "run"
    unfold b_law_way_3_1
    walk_at "run"
    refine ix_ref hr (fact_at h1) ?_
    unfold eD
    rw [x1]
    refine ix_ref hr (fact_at h1) ?_
    unfold eD
    rw [x2]
    walk_at "run"
    exact hN.nx _ _ ⟨rfl, y', c + m, b', _, rfl, h2, by omega⟩
  · rintro σ s1 ⟨rfl, x', c, b, v, rfl, hp, hc⟩
    rw [List.length_map, List.drop_length] at hp
    obtain ⟨rfl, rfl⟩ := hp
    refine ⟨trivial, ?_⟩
    unfold b_law_way_1_2
    walk_at "run"
    rw [decide_eq_true (show ((x' : Int) = x') from rfl)]
    walk_at "run"
    unfold b_law_way_1_3
    walk_at "run"
    have : c = a := by omega
    rw [this]
    exact h
theorem solD_at {n : Nat} {lo : Nat → Int} {i : Nat} (hi : i < n) : L2.atI ((List.range n).map fun i => D.int (lo i - lo 0)) (i : Int) = some (.int (lo i - lo 0)) := by
  rw [atI_k, List.getElem?_map, List.getElem?_range hi]
  rfl
theorem solves_ok {s : Sto} {r n : Nat} {lo : Nat → Int} {fa : List Ft} (hr : s[r]? = some (.lst (fa.map eD))) (hn0 : 0 < n) (ed : ∀ f ∈ fa, f.1 < n ∧ f.2.1 < n) (sol : Sol lo fa) {Q : QE} (h : ∀ s', Kp (fun _ => False) s s' → Q (.bl true) s') : Lv TT (j + 2) i_law_solves [.int n, .ref r, solD n lo] s Q E := by
  refine lv_in (fn := d_law_solves.fn) rfl rfl ?_
  dsimp only [d_law_solves, b_law_solves_1]
  unfold solD
  walk_at "run"
  rw [List.length_map, List.length_range, decide_eq_true (show ((n : Int) = n) from rfl)]
  walk_at "run"
  refine lc_none (fun s' k => trivial) ?_ ?_
  · intro i x s1 K' hx k1 hK
    rw [List.getElem?_map] at hx
    cases e : (List.range n)[i]? with
    | none => rw [e] at hx; cases hx
    | some c =>
    rw [e] at hx
    cases hx
    unfold i_law_solves_2
    simp only [wipeS]
    walk_at "run"
    refine isint_ok ?_
    walk_at "run"
    exact hK s1 (Kp.refl _ _)
  · intro s1 k1 hg1
    refine ⟨by decide, ?_⟩
    rw [ne_nil hg1]
    walk_at "run"
    unfold b_law_solves_1_1
    walk_at "run"
    have h0 : L2.atI ((List.range n).map fun i => D.int (lo i - lo 0)) 0 = some (.int (lo 0 - lo 0)) := solD_at (i := 0) hn0
    refine ix_tup h0 ?_
    walk_at "run"
    rw [decide_eq_true (show lo 0 - lo 0 = 0 by omega)]
    walk_at "run"
    have hrl := lt_of_get hr
    have hr1 : (s1 ++ [Ob.lst []])[r]? = some (.lst (fa.map eD)) := get_old (k1.get _ _ (by omega) hr)
    have hk2 : Kp (fun _ => False) s (s1 ++ [Ob.lst []]) := (k1.mono fun p h1 h2 => by omega).trans Kp.push
    generalize s1 ++ [Ob.lst []] = s2 at hr1 hk2
    refine it_ref hr1 ?_
    refine lc_none (o := .lst r) (fun s' k => k.get _ _ (by have := lt_of_get hr1; omega) hr1) ?_ ?_
    · intro i x s3 K' hx k3 hK
      rw [List.getElem?_map] at hx
      cases e : fa[i]? with
      | none => rw [e] at hx; cases hx
      | some f =>
      rw [e] at hx
      cases hx
      obtain ⟨x, y, m⟩ := f
      have hm := List.mem_of_getElem? e
      obtain ⟨hx, hy⟩ := ed _ hm
      have := sol _ hm
      dsimp only at this hx hy
      unfold i_law_solves_1 eD
      simp only [wipeS]
      walk_at "run"
      rw [x0]
      refine ix_tup (solD_at hx) ?_
      rw [x1]
      refine ix_tup (solD_at hy) ?_
      walk_at "run"
      rw [x2]
      walk_at "run"
      exact br_no (by omega) (hK s3 (Kp.refl _ _))
    · intro s3 k3 hg3
      refine ⟨by decide, ?_⟩
      rw [eq_nil hg3]
      walk_at "run"
      exact h _ ((hk2.trans (k3.mono fun p h1 h2 => by omega)).trans Kp.push)
end
end K33

set_option exponentiation.threshold 2000
namespace K33
open PySem PX Wy
/-- the table of all least sums -/
def tabD (S : Mt) (n : Nat) : D := .tup [.str [119, 97, 121, 115], .tup ((List.range n).map fun i => .tup (rowD (S i) n))]
section
variable {j : Nat} {E : XQ}
theorem least_ok {s : Sto} {n : Nat} {d : D} {fa : List Ft} {p : Nat → Int} (hn : n < 1000) (hn0 : 0 < n) (hf : fa.length < 1000) (hd : FaV s d fa) (ed : ∀ f ∈ fa, f.1 < n ∧ f.2.1 < n) (sol : Sol p fa) {Q : QE}
    (h : ∀ s' S F, Good n fa S F → Kp (fun _ => False) s s' → Q (tabD S n) s') : Lv TT (j + 4) i_least [.int n, d] s Q E := by
  refine lv_in (fn := d_least.fn) rfl rfl ?_
  dsimp only [d_least, b_least_1]
  walk_at "run"
  have e24 := size24
  refine ways_ok hn hn0 hf hd ed sol fun s1 S F w g hl k1 => ?_
  unfold b_least_1_1
  walk_at "run"
  refine fld_ref w.ob rfl ?_
  walk_at "run"
  unfold b_least_1_2
  walk_at "run"
  refine fld_ref w.ob rfl (it_ref w.s1 ?_)
  have k01 : Kp (fun _ => False) s s1 := k1.mono fun p hp z => by omega
  have hsl := k1.len
  refine lc_at (I := fun i acc s' => s'[s1.length]? = some (.lst acc) ∧ acc = ((List.range i).map fun i => D.tup (rowD (S i) n)) ∧ i ≤ n ∧ Kp (fun p => p = s1.length) s1 s') (fun i acc s h => h.1) ⟨get_new, rfl, Nat.zero_le _, Kp.push⟩ ?_ ?_
  · rintro i it acc s2 hit ⟨hg, rfl, _, k2⟩
    obtain ⟨hi, rfl⟩ := refsD_of hit
    have w2 := w.kp k2 (fun p h1 h2 z => by omega)
    refine ⟨w2.s1, ?_⟩
    unfold i_least_1 l_least_1
    simp only [wipeS]
    walk_at "run"
    refine tup_ref (w2.sr i hi) ?_
    refine ⟨hg, by rw [List.length_map, List.length_range]; omega, get_set hg, ?_, hi, k2.trans (Kp.set rfl)⟩
    rw [List.range_succ, List.map_append]
    rfl
  · rintro acc s2 ⟨hg, rfl, _, k2⟩
    rw [refsD_len] at hg
    have w2 := w.kp k2 (fun p h1 h2 z => by omega)
    refine ⟨w2.s1, tup_ref hg ?_⟩
    exact ⟨by decide, h s2 S F g (((k01.mono (r' := fun p => p = s1.length) fun _ _ z => z.elim).trans k2).mono fun p hp z => by omega)⟩
theorem ties_ok {s : Sto} {n : Nat} {d : D} {fa : List Ft} {p : Nat → Int} (hn : n < 1000) (hn0 : 0 < n) (hf : fa.length < 1000) (hd : FaV s d fa) (ed : ∀ f ∈ fa, f.1 < n ∧ f.2.1 < n) (sol : Sol p fa) {Q : QE}
    (h : ∀ s' S F, Good n fa S F → Kp (fun _ => False) s s' → Q (.tup ((tiedL S n).map eD)) s') : Lv TT (j + 4) i_ties [.int n, d] s Q E := by
  refine lv_in (fn := d_ties.fn) rfl rfl ?_
  dsimp only [d_ties, b_ties_1]
  walk_at "run"
  refine ways_ok hn hn0 hf hd ed sol fun s1 S F w g hl k1 => ?_
  refine Lv_le (k := j + 1) (by omega) (tied_ok w hn (by omega) fun s2 k2 => ?_)
  exact h s2 S F g ((k1.trans (k2.mono fun _ _ z => z.elim)).mono fun p hp z => by omega)
end
end K33

set_option exponentiation.threshold 2000
namespace K33
open PySem PX Wy
theorem minEx {f : Nat → Option Int} : ∀ {n : Nat}, (∃ j, j < n ∧ f j ≠ none) → ∃ m : Int, (∃ j, j < n ∧ f j = some m) ∧ ∀ j a, j < n → f j = some a → m ≤ a := by
  intro n
  induction n with
  | zero => rintro ⟨j, h, _⟩; omega
  | succ n ih =>
    rintro ⟨j, hj, hne⟩
    by_cases h : ∃ j, j < n ∧ f j ≠ none
    · obtain ⟨m, ⟨q, q1, q2⟩, h2⟩ := ih h
      cases hn : f n with
      | none =>
        refine ⟨m, ⟨q, by omega, q2⟩, fun i a hi e => ?_⟩
        by_cases z : i = n
        · subst z; rw [hn] at e; cases e
        · exact h2 i a (by omega) e
      | some b =>
        by_cases c : m ≤ b
        · refine ⟨m, ⟨q, by omega, q2⟩, fun i a hi e => ?_⟩
          by_cases z : i = n
          · subst z; rw [hn] at e; cases e; exact c
          · exact h2 i a (by omega) e
        · refine ⟨b, ⟨n, by omega, hn⟩, fun i a hi e => ?_⟩
          by_cases z : i = n
          · subst z; rw [hn] at e; cases e; exact Int.le_refl _
          · have := h2 i a (by omega) e; omega
    · have hjn : j = n := by
        by_cases z : j = n
        · exact z
        · exact absurd ⟨j, by omega, hne⟩ h
      subst hjn
      cases hn : f j with
      | none => exact absurd hn hne
      | some b =>
        refine ⟨b, ⟨j, by omega, hn⟩, fun i a hi e => ?_⟩
        by_cases z : i = j
        · subst z; rw [hn] at e; cases e; exact Int.le_refl _
        · exact absurd ⟨i, by omega, by rw [e]; simp⟩ h
/-- a cycle among the facts: its first number, the rest of its way -/
def Cyc (fa : List Ft) (k : Nat) (ks : List Nat) : Prop := ∃ x y m b, fa[k]? = some (x, y, m) ∧ Pth fa y ks x b ∧ b + m < 0
theorem Pth.more {fa fb : List Ft} (h : ∀ (k : Nat) (f : Ft), fa[k]? = some f → fb[k]? = some f) : ∀ {ks : List Nat} {x y : Nat} {a : Int}, Pth fa x ks y a → Pth fb x ks y a
  | [], _, _, _, p => p
  | k :: ks, x, y, a, p => by
    unfold Pth at p ⊢
    obtain ⟨y', m, b, e, q, r⟩ := p
    exact ⟨y', m, b, h _ _ e, Pth.more h q, r⟩
structure CAt (s : Sto) (L : Nat) (k : Nat) (ks : List Nat) (fa : List Ft) : Prop where
  ob : s[L]? = some (.ins 0 [(0, .ref (L + 2)), (1, .ref (L + 4)), (2, .ref (L + 5)), (3, .tup (.int k :: ks.map fun k : Nat => .int k))])
  fc : s[L + 5]? = some (.lst (fa.map eD))
section
variable {j : Nat} {E : XQ}
/-- the difference that closes a cycle -/
theorem addc_ok {s : Sto} {L n x y : Nat} {m b : Int} {S F : Mt} {fa : List Ft} (w : WAt s L n S F fa) (g : Good n fa S F) (hn : n < 1000) (hf : fa.length < 1000) (hx : x < n) (hy : y < n)
    (hS : S y x = some b) (hb : b + m < 0) (hL : L + 8 * n ≤ s.length + 2) {Q : QE}
    (h : ∀ v s' ks, CAt s' L fa.length ks (fa ++ [(x, y, m)]) → Cyc (fa ++ [(x, y, m)]) fa.length ks → Kp (fun p => L ≤ p ∧ p + 2 < L + 8 * n) s s' → Q v s') : Lv TT (j + 2) 1000006 [.ref L, .int x, .int y, .int m] s Q E := by
  refine lv_in (fn := d_Ways_add.fn) rfl rfl ?_
  dsimp only [d_Ways_add, b_Ways_add_1]
  walk_at "run"
  have np := w.np
  refine fld_ref w.ob rfl (len_ref w.fc (fld_ref w.ob rfl ⟨mty_ref w.fc rfl, by decide, app_ref w.fc (by rw [List.length_map]; show _ < 2 ^ 24; omega) ?_⟩))
  have w1 : WAt (s.set (L + 5) (.lst (fa.map eD ++ [.tup [.int x, .int y, .int m]]))) L n S F (fa ++ [(x, y, m)]) := by
    have a := fun i => rs_ne (L := L) (i := i)
    have b := fun i => rf_ne (L := L) (i := i)
    exact ⟨get_ne w.ob (by omega), get_ne w.s1 (by omega), fun i hi => get_ne (w.sr i hi) (a i).2.2.2, get_ne w.f1 (by omega), fun i hi => get_ne (w.fr i hi) (b i).2.2.2, by rw [get_set w.fc, List.map_append]; rfl, w.np⟩
  have k1 : Kp (fun p => L ≤ p ∧ p + 2 < L + 8 * n) s (s.set (L + 5) (.lst (fa.map eD ++ [.tup [.int x, .int y, .int m]]))) := Kp.set (by omega)
  have l1 : (s.set (L + 5) (.lst (fa.map eD ++ [.tup [.int x, .int y, .int m]]))).length = s.length := by simp
  generalize s.set (L + 5) (.lst (fa.map eD ++ [.tup [.int x, .int y, .int m]])) = s1 at w1 k1 l1
  refine fld_ref w1.ob rfl ?_
  unfold b_Ways_add_1_1
  walk_at "run"
  refine fld_ref w1.ob rfl (ix2 w1.s1 (w1.sr y hy) hy hx ?_)
  rw [List.length_map, hS]
  simp only [oD]
  walk_at "run"
  refine br_yes (by omega) ?_
  unfold b_Ways_add_3
  walk_at "run"
  have e24 := size24
  have ext : ∀ (k : Nat) (f : Ft), fa[k]? = some f → (fa ++ [(x, y, m)])[k]? = some f := fun k f h => get_snoc h
  refine ⟨by decide, mc_ref w1.ob rfl (by decide) (path_ok w1 ext g hn hy hx hS (by omega) fun ks s2 hkl k2 hp => ?_)⟩
  have w2 := w1.kp k2 fun _ _ _ => id
  walk_at "run"
  refine ⟨by rw [List.length_map]; omega, fset_ref w2.ob (show (4 : Nat) < 1000 by decide) ?_⟩
  unfold b_Ways_add_3_1
  walk_at "run"
  refine h _ _ ks ⟨by rw [get_set w2.ob]; rfl, get_ne w2.fc (by omega)⟩ ⟨x, y, m, b, by rw [List.getElem?_append_right (Nat.le_refl _), Nat.sub_self]; rfl, Pth.more ext hp, hb⟩ ?_
  exact (k1.trans k2.none).trans (Kp.set ⟨Nat.le_refl _, by omega⟩)
/-- a difference behind a cycle -/
theorem addd_ok {s : Sto} {L n x y k : Nat} {m : Int} {ks : List Nat} {fa : List Ft} (w : CAt s L k ks fa) (hf : fa.length < 1000) (hn0 : 0 < n) {Q : QE}
    (h : ∀ v s', CAt s' L k ks (fa ++ [(x, y, m)]) → Kp (fun p => L ≤ p ∧ p + 2 < L + 8 * n) s s' → Q v s') : Lv TT (j + 2) 1000006 [.ref L, .int x, .int y, .int m] s Q E := by
  refine lv_in (fn := d_Ways_add.fn) rfl rfl ?_
  dsimp only [d_Ways_add, b_Ways_add_1]
  walk_at "run"
  refine fld_ref w.ob rfl (len_ref w.fc (fld_ref w.ob rfl ⟨mty_ref w.fc rfl, by decide, app_ref w.fc (by rw [List.length_map]; show _ < 2 ^ 24; omega) ?_⟩))
  refine fld_ref (get_ne w.ob (by omega)) rfl ?_
  walk_at "run"
  unfold b_Ways_add_4
  walk_at "run"
  exact h _ _ ⟨get_ne w.ob (by omega), by rw [get_set w.fc, List.map_append]; rfl⟩ (Kp.set (by omega))
theorem waysc_ok {s : Sto} {n : Nat} {d : D} {fa : List Ft} (hn : n < 1000) (hn0 : 0 < n) (hf : fa.length < 1000) (hd : FaV s d fa) (ed : ∀ f ∈ fa, f.1 < n ∧ f.2.1 < n) (no : ∀ p, ¬ Sol p fa) {Q : QE}
    (h : ∀ s' k ks, CAt s' s.length k ks fa → Cyc fa k ks → Kp (fun p => s.length ≤ p) s s' → Q (.ref s.length) s') : Lv TT (j + 3) i_ways_of [.int n, d] s Q E := by
  refine lv_in (fn := d_ways_of.fn) rfl rfl ?_
  dsimp only [d_ways_of, b_ways_of_1]
  walk_at "run"
  refine new_ok (T := TT) (c := 0) (i := 1000004) (ar := 0) rfl rfl (init_ok fun s1 w1 l1 k1 => ⟨rfl, ?_⟩)
  unfold b_ways_of_1_1
  walk_at "run"
  refine ⟨⟨by decide, by decide, by omega, by omega⟩, ?_⟩
  have rl : (rngL 0 ((n : Int) - 1)).length = n - 1 := by
    unfold rngL
    rw [List.length_map, List.length_range]
    omega
  refine for_at (I := fun k σ s' => WAt s' s.length (k + 1) M0 (fun _ _ => none) [] ∧ s'.length + 2 = s.length + 8 * (k + 1) ∧ (∃ y3, σ = [some (.int n), some d, some (.ref s.length), y3, none, none, none]) ∧ Kp (fun p => s.length ≤ p) s s') ⟨w1, by omega, ⟨_, rfl⟩, k1.mono fun _ _ z => z.elim⟩ ?_ ?_
  · rintro k x σ s2 N' hx ⟨w2, l2, ⟨y3, rfl⟩, k2⟩ hN
    have hk : k < n - 1 := by
      have := (List.getElem?_eq_some_iff.mp hx).1
      rwa [rl] at this
    refine ⟨trivial, ?_⟩
    unfold b_ways_of_3
    walk_at "run"
    refine mc_ref w2.ob rfl (by decide) (atom_ok (by omega) w2 l2 fun s3 w3 l3 k3 => ?_)
    exact hN.nx _ _ ⟨w3, l3, ⟨_, rfl⟩, k2.trans k3⟩
  rintro σ s2 ⟨w2, l2, ⟨y3, rfl⟩, k2⟩
  rw [rl] at w2 l2
  have e1 : n - 1 + 1 = n := by omega
  rw [e1] at w2 l2
  refine ⟨trivial, ?_⟩
  unfold b_ways_of_1_2
  walk_at "run"
  refine it_fa hd k2 fun o ho => ?_
  refine for_at (I := fun k σ s' => ((∃ S F, WAt s' s.length n S F (fa.take k) ∧ Good n (fa.take k) S F) ∨ ∃ q ks, CAt s' s.length q ks (fa.take k) ∧ Cyc (fa.take k) q ks) ∧ (∃ y4 y5 y6, σ = [some (.int n), some d, some (.ref s.length), y3, y4, y5, y6]) ∧ Kp (fun p => s.length ≤ p ∧ p + 2 < s.length + 8 * n) s2 s') ⟨.inl ⟨_, _, w2, good_start n⟩, ⟨_, _, _, rfl⟩, Kp.refl _ _⟩ ?_ ?_
  · rintro k it σ s3 N' hit ⟨hst, ⟨y4, y5, y6, rfl⟩, k3⟩ hN
    rw [List.getElem?_map] at hit
    cases hp : fa[k]? with
    | none => rw [hp] at hit; cases hit
    | some f =>
    rw [hp] at hit
    cases hit
    obtain ⟨x, y, m⟩ := f
    obtain ⟨hx, hy⟩ := ed _ (List.mem_of_getElem? hp)
    have tk : fa.take (k + 1) = fa.take k ++ [(x, y, m)] := by rw [List.take_add_one, hp]; rfl
    have tl : (fa.take k).length < 1000 := by rw [List.length_take]; omega
    refine ⟨ho _ (k2.trans (k3.mono fun p _ h => h.1)), ?_⟩
    unfold eD b_ways_of_2
    walk_at "run"
    have l3 := k3.len
    rcases hst with ⟨S, F, w3, g3⟩ | ⟨q, ks, c3, cy⟩
    · by_cases hneg : ∃ b, S y x = some b ∧ b + m < 0
      · obtain ⟨b, hb1, hb2⟩ := hneg
        refine mc_ref w3.ob rfl (by decide) (addc_ok w3 g3 hn tl hx hy hb1 hb2 (by omega) fun v s4 ks c4 cy k4 => ?_)
        rw [← tk] at c4 cy
        exact hN.nx _ _ ⟨.inr ⟨_, ks, c4, cy⟩, ⟨_, _, _, rfl⟩, k3.trans k4⟩
      · refine mc_ref w3.ob rfl (by decide) (add_ok w3 g3 hn tl hx hy (fun b hb => Classical.byContradiction fun z => hneg ⟨b, hb, by omega⟩) (by omega) fun v s4 S' F' w4 g4 k4 => ?_)
        rw [← tk] at w4 g4
        exact hN.nx _ _ ⟨.inl ⟨S', F', w4, g4⟩, ⟨_, _, _, rfl⟩, k3.trans k4⟩
    · refine mc_ref c3.ob rfl (by decide) (addd_ok (n := n) (x := x) (y := y) (m := m) c3 tl hn0 fun v s4 c4 k4 => ?_)
      rw [← tk] at c4
      refine hN.nx _ _ ⟨.inr ⟨q, ks, c4, ?_⟩, ⟨_, _, _, rfl⟩, k3.trans k4⟩
      obtain ⟨x', y', m', b', h1, h2, h3⟩ := cy
      rw [tk]
      exact ⟨x', y', m', b', get_snoc h1, Pth.more (fun k f h => get_snoc h) h2, h3⟩
  rintro σ s3 ⟨hst, ⟨y4, y5, y6, rfl⟩, k3⟩
  refine ⟨ho _ (k2.trans (k3.mono fun p _ h => h.1)), ?_⟩
  rw [List.length_map, List.take_length] at hst
  unfold b_ways_of_1_3
  walk_at "run"
  rcases hst with ⟨S, F, w3, g3⟩ | ⟨q, ks, c3, cy⟩
  · obtain ⟨lo, h1, h2⟩ : ∃ lo : Nat → Int, (∀ i, i < n → ∃ j, j < n ∧ S i j = some (lo i)) ∧ ∀ i j a, i < n → j < n → S i j = some a → lo i ≤ a := by
      have ex : ∀ i, i < n → ∃ m : Int, (∃ j, j < n ∧ S i j = some m) ∧ ∀ j a, j < n → S i j = some a → m ≤ a := fun i hi => by
        exact minEx ⟨i, hi, by rw [g3.diag i hi]; simp⟩
      refine ⟨fun i => if hi : i < n then Classical.choose (ex i hi) else 0, fun i hi => ?_, fun i j a hi hj e => ?_⟩
      · dsimp only
        rw [dif_pos hi]
        exact (Classical.choose_spec (ex i hi)).1
      · dsimp only
        rw [dif_pos hi]
        exact (Classical.choose_spec (ex i hi)).2 j a hj e
    exact absurd (low_sol g3 h1 h2) (no lo)
  · exact h s3 q ks c3 cy (k2.trans (k3.mono fun p _ h => h.1))
end
end K33

set_option exponentiation.threshold 2000
namespace K33
open PySem PX Wy
def cycD (k : Nat) (ks : List Nat) : D := .tup [.str [99, 121, 99, 108, 101], .tup (.int k :: ks.map fun k : Nat => .int k)]
section
variable {j : Nat} {E : XQ}
theorem leastc_ok {s : Sto} {n : Nat} {d : D} {fa : List Ft} (hn : n < 1000) (hn0 : 0 < n) (hf : fa.length < 1000) (hd : FaV s d fa) (ed : ∀ f ∈ fa, f.1 < n ∧ f.2.1 < n) (no : ∀ p, ¬ Sol p fa) {Q : QE}
    (h : ∀ s' k ks, Cyc fa k ks → Kp (fun _ => False) s s' → Q (cycD k ks) s') : Lv TT (j + 4) i_least [.int n, d] s Q E := by
  refine lv_in (fn := d_least.fn) rfl rfl ?_
  dsimp only [d_least, b_least_1]
  walk_at "run"
  refine waysc_ok hn hn0 hf hd ed no fun s1 k ks c cy k1 => ?_
  unfold b_least_1_1
  walk_at "run"
  refine fld_ref c.ob rfl ?_
  walk_at "run"
  unfold b_least_2
  walk_at "run"
  refine fld_ref c.ob rfl ?_
  exact ⟨by decide, h s1 k ks cy (k1.mono fun p hp z => by omega)⟩
theorem iscycle_ok {s : Sto} {r k : Nat} {ks : List Nat} {fa : List Ft} (hr : s[r]? = some (.lst (fa.map eD))) (cy : Cyc fa k ks) {Q : QE} (h : Q (.bl true) s) : Lv TT (j + 3) i_law_is_cycle [cycD k ks, .ref r] s Q E := by
  refine lv_in (fn := d_law_is_cycle.fn) rfl rfl ?_
  dsimp only [d_law_is_cycle, b_law_is_cycle_1]
  obtain ⟨x, y, m, b, e, hp, hb⟩ := cy
  have hk := (List.getElem?_eq_some_iff.mp e).1
  unfold cycD
  walk_at "run"
  refine br_nyes (by decide) ?_
  rw [PX.x0]
  walk_at "run"
  refine br_nyes rfl ?_
  rw [PX.x1]
  walk_at "run"
  unfold b_law_is_cycle_1_1
  walk_at "run"
  rw [PX.x1]
  walk_at "run"
  refine br_no (by omega) ?_
  rw [PX.x1]
  refine ix_tup atI_z ?_
  refine isint_ok ?_
  walk_at "run"
  rw [PX.x1]
  refine ix_tup atI_z ?_
  walk_at "run"
  refine br_yes (by omega) ?_
  refine len_ref hr ?_
  rw [List.length_map]
  walk_at "run"
  refine br_nyes (by omega) ?_
  unfold b_law_is_cycle_1_2
  walk_at "run"
  rw [PX.x1]
  walk_at "run"
  have hfk : L2.atI (fa.map eD) (k : Int) = some (eD (x, y, m)) := by rw [atI_k, List.getElem?_map, e]; rfl
  have one : ∀ {Q : QE}, Q (.int x) s → xIx (.ref r) (.int (k : Int)) s (fun x1 s1 => xIx x1 (.int 0) s1 Q) := fun h => ix_ref hr hfk (by unfold eD; rw [PX.x0]; exact h)
  rw [PX.x1]
  refine ix_tup atI_z ?_
  refine one ?_
  rw [PX.x1]
  refine ix_tup atI_z ?_
  refine one ?_
  refine way_ok (ks := k :: ks) (a := m + b) hr ⟨y, m, b, e, hp, rfl⟩ ?_
  unfold b_law_is_cycle_1_3
  walk_at "run"
  rw [decide_eq_true (show m + b < 0 by omega)]
  exact h
end
end K33

set_option exponentiation.threshold 2000
namespace K33
open PySem PX Wy
theorem fit_in {b x : Int} (h : InB b x) (hb : b < 2 ^ 999) : Fit x := ⟨by have := h.1; omega, by have := h.2; omega⟩
theorem rngA_of {a b k : Nat} {x : D} (h : (rngL (a : Int) (b : Int))[k]? = some x) : a + k < b ∧ x = .int ((a + k : Nat) : Int) := by
  have h1 := (List.getElem?_eq_some_iff.mp h).1
  unfold rngL at h h1
  rw [List.length_map, List.length_range] at h1
  rw [List.getElem?_map, List.getElem?_range (by omega)] at h
  cases h
  exact ⟨by omega, by simp⟩
theorem rngA_len {a b : Nat} : (rngL (a : Int) (b : Int)).length = b - a := by
  unfold rngL
  rw [List.length_map, List.length_range]
  omega
def tD (t : Nat × Int) : D := .tup [.int t.1, .int t.2]
def FD (num : Int) (ts : List (Nat × Int)) : D := .tup [.int num, .tup (ts.map tD)]
def FrmOk (n : Nat) (num : Int) (ts : List (Nat × Int)) : Prop := InB (10 ^ 60) num ∧ ∀ t ∈ ts, t.1 < n ∧ InB (10 ^ 60) t.2
theorem vD_at {v : Nat → Int} {k i : Nat} (h : i < k) : L2.atI (vD v k) (i : Int) = some (.int (v i)) := rowD_at (g := fun i => some (v i)) h
def VS (W : Mt) (n : Nat) (v : Nat → Int) (m : Nat) (ts : List (Nat × Int)) : Int := (ts.map fun t => t.2 * pv W n v m t.1).sum
theorem VS_take {W : Mt} {n : Nat} {v : Nat → Int} {m i : Nat} {ts : List (Nat × Int)} {t : Nat × Int} (h : ts[i]? = some t) : VS W n v m (ts.take (i + 1)) = VS W n v m (ts.take i) + t.2 * pv W n v m t.1 := by
  unfold VS
  rw [List.take_add_one, h, List.map_append, List.sum_append]
  simp
theorem pv_repr {n : Nat} {S : Mt} (g : Clo n S) {x : Nat} (hx : x < n) : ∃ (i : Nat) (c : Int), i < ko S n ∧ Wy.repr S x = uo S n i ∧ S x (uo S n i) = some c ∧ ∀ v m, pv S n v m x = pv S n v m (uo S n i) + c := by
  unfold Wy.repr
  cases h : rootB S x with
  | none =>
    obtain ⟨i, hi, e⟩ := uo_of hx h
    exact ⟨i, 0, hi, e.symm, by rw [e]; exact g.diag x hx, fun v m => by rw [e]; omega⟩
  | some r =>
    obtain ⟨h1, h2, h3⟩ := root_root g hx h
    obtain ⟨i, hi, e⟩ := uo_of (S := S) (n := n) (show r < n by omega) h3
    obtain ⟨c, c1, c2⟩ := tied_iff.mp h2
    refine ⟨i, c, hi, e.symm, by rw [e]; exact c1, fun v m => ?_⟩
    rw [e]
    unfold pv
    rw [h, h3]
    dsimp only
    rw [c1]
    rfl
theorem ediv_bnd {a b : Int} {M : Int} (hb : 0 < b) (h : InB M a) : InB M (a / b) := by
  have hM : 0 ≤ M := by have := h.1; have := h.2; omega
  by_cases z : 0 ≤ a
  · have h1 := Int.ediv_nonneg z (show 0 ≤ b by omega)
    have h2 := Int.ediv_le_self b z
    exact ⟨by omega, by have := h.2; omega⟩
  · have h1 : a / b ≤ 0 / b := Int.ediv_le_ediv hb (by omega)
    rw [Int.zero_ediv] at h1
    have h2 : a ≤ a / b := by
      rw [Int.le_ediv_iff_mul_le hb]
      have : a * b ≤ a * 1 := Int.mul_le_mul_of_nonpos_left (by omega) (by omega)
      omega
    exact ⟨by have := h.1; omega, by omega⟩
theorem pv_fit {n : Nat} {S : Mt} {v : Nat → Int} (g : Clo n S) (hn : n < 1000) (vb : ∀ i, i < ko S n → InB (2 ^ 950) (v i)) (hW : ∀ i j a, i < n → j < n → S i j = some a → InB (10 ^ 66) a) {x m : Nat} (hx : x < n) : Fit (pv S n v m x) := by
  obtain ⟨i, c, hi, c1, c2, c3⟩ := pv_rep (v := v) g hx
  rw [c3]
  have hc := hW _ _ _ hx (uo_mem hi).1 c1
  have hk : 0 < ko S n := by omega
  have hkn := ko_le (S := S) (n := n)
  have b : ∀ q, q < ko S n → ∃ d e : Int, fm (ko S n) v m q = e + d ∧ 0 ≤ d ∧ d ≤ 1 ∧ InB (2 ^ 962) e := fun q hq => by
    refine ⟨_, _, fm_eq hk, by split <;> omega, by split <;> omega, ediv_bnd (pr_pos hk) ?_⟩
    have hv := vb q hq
    unfold sc
    have a1 : ((ko S n : Int) + 1) * v q ≤ ((ko S n : Int) + 1) * 2 ^ 950 := Int.mul_le_mul_of_nonneg_left hv.2 (by omega)
    have a2 : ((ko S n : Int) + 1) * (-(2 ^ 950)) ≤ ((ko S n : Int) + 1) * v q := Int.mul_le_mul_of_nonneg_left hv.1 (by omega)
    have a3 : ((ko S n : Int) + 1) * 2 ^ 950 ≤ 1001 * 2 ^ 950 := Int.mul_le_mul_of_nonneg_right (by omega) (by decide +kernel)
    rw [Int.mul_neg] at a2
    exact ⟨by omega, by omega⟩
  obtain ⟨d1, e1, f1, g1, g2, g3⟩ := b i hi
  obtain ⟨d2, e2, f2, h1, h2, h3⟩ := b 0 hk
  rw [f1, f2]
  have := g3.1
  have := g3.2
  have := h3.1
  have := h3.2
  have := hc.1
  have := hc.2
  exact ⟨by omega, by omega⟩
theorem good_ex {n : Nat} {p : Nat → Int} : ∀ (fa : List Ft), (∀ f ∈ fa, f.1 < n ∧ f.2.1 < n) → Sol p fa → ∃ S F, Good n fa S F := by
  intro fa
  induction h : fa.length generalizing fa with
  | zero =>
    intro _ _
    have : fa = [] := List.length_eq_zero_iff.mp h
    subst this
    exact ⟨_, _, good_start n⟩
  | succ k ih =>
    intro ed sol
    rcases List.eq_nil_or_concat fa with e | ⟨fb, f, e⟩
    · subst e; cases h
    · rw [List.concat_eq_append] at e
      subst e
      obtain ⟨S, F, g⟩ := ih fb (by simpa using h) (fun f hf => ed f (by simp [hf])) (fun f hf => sol f (by simp [hf]))
      obtain ⟨x, y, m⟩ := f
      have hf := ed (x, y, m) (by simp)
      exact ⟨_, _, good_new g hf.1 hf.2 (good_back g hf.1 hf.2 sol)⟩
theorem good_same {n : Nat} {fa : List Ft} {S F S' F' : Mt} (g : Good n fa S F) (g' : Good n fa S' F') {i j : Nat} (hi : i < n) (hj : j < n) : S i j = S' i j := by
  cases h : S' i j with
  | none =>
    refine g.eq_none hi hj fun b w => ?_
    obtain ⟨c, e, _⟩ := g'.least hi hj w
    rw [h] at e
    cases e
  | some a =>
    refine g.eq_some hi hj (g'.way i j a hi hj h) fun b w => ?_
    obtain ⟨c, e, hc⟩ := g'.least hi hj w
    rw [h] at e
    cases e
    exact hc
theorem good_fw {n k : Nat} {fa : List Ft} {S F : Mt} (g : Good n fa S F) : Wy.Fw k n fa S := ⟨g.diag, g.way, g.edge, fun i j m a b hi hj hm _ => g.tri i m j a b hi hm hj⟩
/-- what is asked of facts and a point of them -/
structure FOk (n : Nat) (fa : List Ft) (p : Nat → Int) : Prop where
  hn0 : 0 < n
  hn : n < 1000
  hf : fa.length < 900
  ed : ∀ f ∈ fa, f.1 < n ∧ f.2.1 < n
  sol : Sol p fa
  fb : ∀ f ∈ fa, InB (10 ^ 62) f.2.2
  pb : ∀ i, i < n → InB (10 ^ 62) (p i)
theorem FOk.hS {n : Nat} {fa : List Ft} {p : Nat → Int} (o : FOk n fa p) {S F : Mt} (g : Good n fa S F) : ∀ i j a, i < n → j < n → S i j = some a → InB (10 ^ 66) a := fun i j a hi hj e => by
  have := sums_small g (M := 10 ^ 62) (fun f hf => by have := o.fb f hf; exact ⟨this.2, this.1⟩) (by decide) hi hj e
  have e2 : (n : Int) * 10 ^ 62 ≤ 1000 * 10 ^ 62 := Int.mul_le_mul_of_nonneg_right (by have := o.hn; omega) (by decide)
  exact ⟨by omega, by omega⟩
def TellsD (W : Mt) (n : Nat) (v : Nat → Int) (num : Int) (ts : List (Nat × Int)) (told : D) : Prop :=
  (told = .non ∧ ∀ m, m < ko W n → num + VS W n v m ts = 0) ∨ ∃ m, m < ko W n ∧ told = ptD W n v m ∧ num + VS W n v m ts ≠ 0
section
variable {j : Nat} {E : XQ}
theorem fv_ok {s : Sto} {n m : Nat} {W : Mt} {v : Nat → Int} {num : Int} {ts : List (Nat × Int)} (fo : FrmOk n num ts) (pf : ∀ x, x < n → Fit (pv W n v m x)) {Q : QE} (h : Q (.int (num + VS W n v m ts)) s) : Lv TT (j + 1) i_form_value [FD num ts, ptD W n v m] s Q E := by
  refine lv_in (fn := d_form_value.fn) rfl rfl ?_
  dsimp only [d_form_value, b_form_value_1]
  unfold FD ptD
  walk_at "run"
  rw [PX.x0]
  walk_at "run"
  rw [PX.x1]
  walk_at "run"
  refine for_at (I := fun i σ s' => s' = s ∧ ∃ v3 v4, σ = [some (.tup [.int num, .tup (ts.map tD)]), some (.tup (vD (pv W n v m) n)), some (.int (num + VS W n v m (ts.take i))), v3, v4]) ⟨rfl, _, _, by rw [show num + VS W n v m (ts.take 0) = num from Int.add_zero _]⟩ ?_ ?_
  · rintro i it σ s1 N hit ⟨rfl, v3, v4, rfl⟩ hN
    rw [List.getElem?_map] at hit
    cases ht : ts[i]? with
    | none => rw [ht] at hit; cases hit
    | some t =>
    rw [ht] at hit
    cases hit
    obtain ⟨f1, f2⟩ := fo.2 t (List.mem_of_getElem? ht)
    refine ⟨trivial, ?_⟩
    unfold b_form_value_2 tD
    walk_at "run"
    refine ix_tup (vD_at f1) ?_
    walk_at "run"
    refine ⟨mul_fit (fit_in f2 (by omega)) (pf _ f1), ?_⟩
    refine hN.nx _ _ ⟨rfl, some (.int t.1), some (.int t.2), ?_⟩
    rw [VS_take ht, ← Int.add_assoc]
    rfl
  · rintro σ s1 ⟨rfl, v3, v4, rfl⟩
    rw [List.length_map, List.take_length]
    refine ⟨trivial, ?_⟩
    unfold b_form_value_1_1
    walk_at "run"
    exact h
theorem rowg_ok {s : Sto} {n : Nat} {d : D} {fa : List Ft} {p : Nat → Int} (o : FOk n fa p) (hd : FaV s d fa) {Q : QE}
    (h : ∀ s' S F v, Good n fa S F → LowV S n v → Kp (fun _ => False) s s' → Q (.tup (rowP S n v)) s') : Lv TT (j + 4) i_row [.int n, d] s Q E := by
  refine lv_in (fn := d_row.fn) rfl rfl ?_
  dsimp only [d_row, b_row_1]
  walk_at "run"
  have hn := o.hn
  have hn0 := o.hn0
  have hf := o.hf
  refine ways_ok hn hn0 (by omega) hd o.ed o.sol fun s1 S F w g hl k1 => ?_
  refine Lv_le (k := j + 2) (by omega) ?_
  refine row_of_ok (M := 10 ^ 66) w g o.sol hn (by omega) (by decide) (by decide +kernel) (fun i j a hi hj e => ?_) (fun i hi => ?_) fun s2 v lv vb k2 => ?_
  · have := o.hS g i j a hi hj e
    exact ⟨this.2, this.1⟩
  · have := o.pb i hi
    exact ⟨by have := this.2; omega, by have := this.1; omega⟩
  · exact h s2 S F v g lv ((k1.trans (k2.mono fun _ _ z => z.elim)).mono fun p hp z => by omega)
theorem apart_ok {s : Sto} {n : Nat} {d : D} {fa : List Ft} {p : Nat → Int} {num : Int} {ts : List (Nat × Int)} (o : FOk n fa p) (hd : FaV s d fa) (fo : FrmOk n num ts) {Q : QE}
    (h : ∀ s' S F v told, Good n fa S F → LowV S n v → TellsD S n v num ts told → Kp (fun _ => False) s s' → Q told s') : Lv TT (j + 4) i_apart [.int n, d, FD num ts] s Q E := by
  refine lv_in (fn := d_apart.fn) rfl rfl ?_
  dsimp only [d_apart, b_apart_1]
  walk_at "run"
  have hn := o.hn
  have hn0 := o.hn0
  have hf := o.hf
  refine ways_ok hn hn0 (by omega) hd o.ed o.sol fun s1 S F w g hl k1 => ?_
  refine lv_in (fn := d_apart_in.fn) rfl rfl ?_
  dsimp only [d_apart_in, b_apart_in_1]
  walk_at "run"
  have hW := o.hS g
  refine row_of_ok (M := 10 ^ 66) w g o.sol hn (by omega) (by decide) (by decide +kernel) (fun i j a hi hj e => ?_) (fun i hi => ?_) fun s2 v lv vb k2 => ?_
  · have := hW i j a hi hj e
    exact ⟨this.2, this.1⟩
  · have := o.pb i hi
    exact ⟨by have := this.2; omega, by have := this.1; omega⟩
  · have k02 : Kp (fun _ => False) s s2 := (k1.trans (k2.mono fun _ _ z => z.elim)).mono fun p hp z => by omega
    walk_at "run"
    refine for_at (I := fun i σ s' => s' = s2 ∧ (∃ x v2, σ = [some (.ref x), some (FD num ts), v2]) ∧ ∀ m, m < i → num + VS S n v m ts = 0) ⟨rfl, ⟨_, _, rfl⟩, fun m hm => by omega⟩ ?_ ?_
    · rintro i it σ s3 N hit ⟨rfl, ⟨x, v2, rfl⟩, hz⟩ hN
      unfold rowP at hit
      rw [List.getElem?_map] at hit
      have hi : i < ko S n := by
        by_cases c : i < ko S n
        · exact c
        · rw [List.getElem?_eq_none (by rw [List.length_range]; omega)] at hit
          cases hit
      rw [List.getElem?_range hi] at hit
      cases hit
      refine ⟨trivial, ?_⟩
      unfold b_apart_in_2
      walk_at "run"
      refine fv_ok fo (fun x hx => pv_fit g.clo hn vb hW hx) ?_
      walk_at "run"
      refine br_ndec (fun hne => ?_) (fun he => hN.nx _ _ ⟨rfl, ⟨_, _, rfl⟩, fun m hm => ?_⟩)
      · unfold b_apart_in_3
        walk_at "run"
        exact hN.rt _ _ (h _ S F v _ g lv (.inr ⟨i, hi, rfl, hne⟩) k02)
      · by_cases e : m = i
        · subst e; exact he
        · exact hz m (by omega)
    · rintro σ s3 ⟨rfl, ⟨x, v2, rfl⟩, hz⟩
      have rl : (rowP S n v).length = ko S n := by simp [rowP]
      rw [rl] at hz
      refine ⟨trivial, ?_⟩
      unfold b_apart_in_1_1
      walk_at "run"
      exact h _ S F v _ g lv (.inl ⟨rfl, hz⟩) k02
end
end K33

set_option exponentiation.threshold 2000
namespace K33
open PySem PX Wy
theorem hDraw : TT i_law_draw = some drawFn := rfl
theorem sl_from {s : Sto} {n : Nat} {xs : List D} {i : Int} {p : Nat} {Q : QE} (hs : s[n]? = some (.lst xs)) (h0 : 0 ≤ i) (h : Q (.ref s.length) (s ++ [.lst (xs.drop i.toNat)])) : xSl (.ref n) (.int i) (.kd p) s Q := by
  simp only [xSl, partD, hs, cut_from h0]
  exact h
theorem sl_to {s : Sto} {n : Nat} {xs : List D} {i : Int} {p : Nat} {Q : QE} (hs : s[n]? = some (.lst xs)) (h0 : 0 ≤ i) (h : Q (.ref s.length) (s ++ [.lst (xs.take i.toNat)])) : xSl (.ref n) (.kd p) (.int i) s Q := by
  simp only [xSl, partD, hs, cut_to h0]
  exact h
theorem uD_at {u : Nat → Nat} {k i : Nat} (h : i < k) : L2.atI (uD u k) (i : Int) = some (.int (u i)) := by
  unfold uD
  rw [atI_k, List.getElem?_map, List.getElem?_range h]
  rfl
theorem vD_len {v : Nat → Int} {k : Nat} : (vD v k).length = k := by simp [vD, rowD]
theorem vD_list (us : List Int) : us.map D.int = vD (fun i => us.getD i 0) us.length := by
  apply List.ext_getElem?
  intro i
  rw [List.getElem?_map]
  by_cases h : i < us.length
  · have := rowD_get (g := fun i => some (us.getD i 0)) (n := us.length) h
    unfold vD
    rw [this, List.getElem?_eq_getElem h, List.getD_eq_getElem?_getD, List.getElem?_eq_getElem h]
    rfl
  · rw [List.getElem?_eq_none (by omega), List.getElem?_eq_none (by rw [vD_len]; omega)]
    rfl
section
variable {j : Nat} {E : XQ}
theorem around_ok {b r n : Nat} {s : Sto} {Q : QE} (hs : Src b s r) (hb : b < 2 ^ 58) (hn0 : 0 < n) (hn : n < 1000)
    (h : ∀ s' q pl ix, Pl n pl ix → Onto n pl ix → Kp (fun p => p = r) s s' → Src (b + 10) s' r → s'[q]? = some (.lst (uD pl n)) → s.length ≤ q → Q (.ref q) s') : Lv TT (j + 2) i_law_around [.ref r, .int n] s Q E := by
  refine lv_in (fn := d_law_around.fn) rfl rfl ?_
  dsimp only [d_law_around, b_law_around_1]
  walk_at "run"
  have hr0 := hs.lt
  have e24 := size24
  refine ⟨by decide, it_ref get_new ?_⟩
  refine for_at (I := fun i σ s' => ∃ (st : Nat) (v3 : Option D), (st = 1 ∨ ((st = 7 ∨ st = 5 ∨ st = 3 ∨ st = 2) ∧ n % st ≠ 0)) ∧ σ = [some (.ref r), some (.int n), some (.int st), v3, none, none] ∧ Kp (fun p => p = r) (s ++ [Ob.lst [D.int 7, D.int 5, D.int 3, D.int 2]]) s' ∧ Src (b + i) s' r) ⟨1, none, .inl rfl, rfl, Kp.refl _ _, hs.push⟩ ?_ ?_
  · rintro i it σ s1 N' hit ⟨st, v3, hst, rfl, k1, hs1⟩ hN
    have hi := (List.getElem?_eq_some_iff.mp hit).1
    simp only [List.length_cons, List.length_nil] at hi
    have : ∃ o : Nat, it = .int o ∧ (o = 7 ∨ o = 5 ∨ o = 3 ∨ o = 2) := by
      have := List.mem_of_getElem? hit
      simp only [List.mem_cons, List.not_mem_nil, or_false] at this
      rcases this with rfl | rfl | rfl | rfl
      · exact ⟨7, rfl, .inl rfl⟩
      · exact ⟨5, rfl, .inr (.inl rfl)⟩
      · exact ⟨3, rfl, .inr (.inr (.inl rfl))⟩
      · exact ⟨2, rfl, .inr (.inr (.inr rfl))⟩
    obtain ⟨o, rfl, ho⟩ := this
    refine ⟨k1.get _ _ (by omega) get_new, ?_⟩
    unfold b_law_around_2
    walk_at "run"
    refine ⟨by omega, br_ndec (fun hm => ?_) (fun hm => ?_)⟩
    · refine draw_kp hDraw hs1 (by omega) (dv 3) fun z s2 z0 z1 k2 l2 hs2 => ?_
      walk_at "run"
      refine br_dec (fun hz => ?_) (fun hz => ?_)
      · unfold b_law_around_3
        walk_at "run"
        exact hN.nx _ _ ⟨o, _, .inr ⟨ho, fun z => hm (by omega)⟩, rfl, k1.trans k2, hs2⟩
      · exact hN.nx _ _ ⟨st, _, hst, rfl, k1.trans k2, hs2⟩
    · exact br_nyes hm (hN.nx _ _ ⟨st, _, hst, rfl, k1, hs1.mono (by omega)⟩)
  · rintro σ s1 ⟨st, v3, hst, rfl, k1, hs1⟩
    simp only [List.length_cons, List.length_nil] at hs1
    refine ⟨k1.get _ _ (by omega) get_new, ?_⟩
    unfold b_law_around_1_1
    walk_at "run"
    refine draw_kp hDraw hs1 (by omega) (div_nat hn0 (by omega)) fun a s2 a0 a1 k2 l2 hs2 => ?_
    obtain ⟨a, rfl⟩ := Int.eq_ofNat_of_zero_le a0
    unfold b_law_around_1_2
    walk_at "run"
    refine ⟨⟨by decide, by decide, by omega, by omega⟩, ?_⟩
    have hst8 : st < 8 := by omega
    have h02 : Kp (fun p => p = r) s s2 := Kp.push.trans (k1.trans k2)
    refine lc_map (f := fun i _ => .int (((a + st * i) % n : Nat) : Int)) (by rw [rngN_len]; omega) (fun _ _ => trivial) ?_ ?_
    · intro i x s3 Q' hx k3 hq
      obtain ⟨hi, rfl⟩ := rngN_of hx
      unfold l_law_around_1
      simp only [wipeS]
      walk_at "run"
      refine ⟨mul_small (by omega) (by omega) (by omega) (by omega), by omega, ?_⟩
      rw [show (((a : Int) + st * i) % n) = (((a + st * i) % n : Nat) : Int) by norm_cast]
      exact hq s3 (Kp.refl _ _)
    · intro s3 k3 hg
      obtain ⟨ix, P, O⟩ := inj_pl (n := n) (pl := fun i => (a + st * i) % n) (fun k _ => Nat.mod_lt _ hn0) (fun i j hi hj e => step_inj hst hi hj e)
      have hl := h02.len
      refine h s3 s2.length _ ix P O ((h02.mono (r' := fun p => p = r ∨ p = s2.length) fun _ _ z => .inl z).trans (k3.mono fun _ _ z => .inr z) |>.mono fun p hp z => z.resolve_right (by omega)) ((hs2.kp k3 (by have := hs2.lt; omega)).mono (by omega)) ?_ hl
      rw [hg]
      congr 2
      apply List.ext_getElem?
      intro i
      rw [List.getElem?_mapIdx]
      unfold uD
      rw [List.getElem?_map]
      by_cases c : i < n
      · rw [List.getElem?_range c, List.getElem?_eq_getElem (by rw [rngN_len]; exact c)]
        rfl
      · rw [List.getElem?_eq_none (by rw [rngN_len]; omega), List.getElem?_eq_none (by rw [List.length_range]; omega)]
        rfl
theorem lengths_ok {b r many : Nat} {s : Sto} {Q : QE} (hs : Src b s r) (hb : b < 2 ^ 58) (hn : many < 1000)
    (h : ∀ s' q (us : List Int), us.length = many → (∀ t ∈ us, InB (10 ^ 57) t) → Kp (fun p => p = r) s s' → Src (b + 1001) s' r → s'[q]? = some (.lst (us.map .int)) → s.length ≤ q → Q (.ref q) s') : Lv TT (j + 2) i_law_lengths [.ref r, .int many] s Q E := by
  refine lv_in (fn := d_law_lengths.fn) rfl rfl ?_
  dsimp only [d_law_lengths, b_law_lengths_1]
  walk_at "run"
  have hr0 := hs.lt
  have e24 := size24
  refine ⟨⟨by decide, by decide, by decide⟩, ⟨by decide, by decide, by decide⟩, by decide, ?_⟩
  refine pick_ok hDraw hs (by omega) rfl (by simp) (by simp) fun x s1 hx k1 l1 hs1 => ?_
  have : ∃ u : Int, x = .int u ∧ 0 < u ∧ u ≤ 10 ^ 57 := by
    simp only [List.mem_cons, List.not_mem_nil, or_false] at hx
    rcases hx with rfl | rfl | rfl | rfl <;> exact ⟨_, rfl, by decide, by decide⟩
  obtain ⟨u, rfl, u0, u1⟩ := this
  unfold b_law_lengths_1_1
  walk_at "run"
  have hr1 := hs1.lt
  refine ⟨⟨by decide, by decide, by omega, by omega⟩, ?_⟩
  refine lc_at (I := fun i acc s' => s'[s1.length]? = some (.lst acc) ∧ (∃ us : List Int, acc = us.map .int ∧ us.length = i ∧ ∀ x ∈ us, InB (10 ^ 57) x) ∧ Src (b + 1 + i) s' r ∧ Kp (fun p => p = r ∨ p = s1.length) s1 s') (fun i acc s h => h.1) ⟨get_new, ⟨[], rfl, rfl, fun x h => absurd h List.not_mem_nil⟩, hs1.push, Kp.push⟩ ?_ ?_
  · rintro i it acc s3 hit ⟨hg3, ⟨us, rfl, hp1, hp2⟩, hs3, k3⟩
    obtain ⟨hi, rfl⟩ := rngN_of hit
    refine ⟨trivial, ?_⟩
    unfold i_law_lengths_1 l_law_lengths_1
    simp only [wipeS]
    walk_at "run"
    refine ⟨mul_small (by decide) (by decide) (by omega) (by omega), ?_⟩
    refine draw_kp hDraw hs3 (by omega) (div_small (by omega) (by omega)) fun w s4 w0 w1 k4 l4 hs4 => ?_
    walk_at "run"
    have hg4 := k4.get _ _ (by omega) hg3
    refine ⟨hg4, by rw [List.length_map]; omega, get_set hg4, ⟨us ++ [w - u], by rw [List.map_append]; rfl, by simp [hp1], fun x hx => ?_⟩, (hs4.kp (R := fun p => p = s1.length) (Kp.set rfl) (by omega)).mono (by omega), (k3.trans (k4.mono fun _ _ z => .inl z)).trans (Kp.set (.inr rfl))⟩
    rcases List.mem_append.mp hx with hx | hx
    · exact hp2 x hx
    · simp only [List.mem_cons, List.not_mem_nil, or_false] at hx
      subst hx
      exact ⟨by omega, by omega⟩
  · rintro acc s3 ⟨hg3, ⟨us, rfl, hp1, hp2⟩, hs3, k3⟩
    rw [rngN_len] at hp1 hs3
    refine ⟨trivial, ?_⟩
    refine h s3 s1.length us hp1 hp2 ?_ (hs3.mono (by omega)) hg3 (by omega)
    exact ((k1.mono (r' := fun p => p = r ∨ p = s1.length) fun _ _ z => .inl z).trans k3).mono fun p hp z => z.resolve_right (by omega)
/-- what the law's chain keeps -/
structure ChK (n : Nat) (pl : Nat → Nat) (su : Nat → Int) (fa : List Ft) : Prop where
  up : ∀ f ∈ fa, UpF n pl su f ∧ InB (10 ^ 61) f.2.2
  ch : ∀ k, k + 1 < n → (pl k, pl (k + 1), su (k + 1) - su k) ∈ fa
  len : fa.length ≤ n + 20
  pos : 0 < fa.length
theorem chain_ok {b r q u n : Nat} {pl : Nat → Nat} {su : Nat → Int} {s : Sto} {Q : QE} (hs : Src b s r) (hb : b < 2 ^ 58) (hn0 : 1 < n) (hn : n < 800) (hq : s[q]? = some (.lst (uD pl n))) (hu : s[u]? = some (.lst (vD su n))) (hqr : q ≠ r) (hur : u ≠ r) (sb : ∀ i, i < n → InB (10 ^ 60) (su i))
    (h : ∀ s' t fa, ChK n pl su fa → Kp (fun p => p = r) s s' → Src (b + 100) s' r → s'[t]? = some (.lst (fa.map eD)) → s.length ≤ t → Q (.ref t) s') : Lv TT (j + 2) i_law_chain [.ref r, .ref q, .ref u] s Q E := by
  refine lv_in (fn := d_law_chain.fn) rfl rfl ?_
  dsimp only [d_law_chain, b_law_chain_1]
  walk_at "run"
  have hr0 := hs.lt
  have e24 := size24
  have hql := lt_of_get hq
  have hul := lt_of_get hu
  refine len_ref hq ?_
  rw [uD_len]
  walk_at "run"
  have hN : (n : Int) - 1 = ((n - 1 : Nat) : Int) := by omega
  rw [hN]
  refine ⟨⟨by decide, by decide, by omega, by omega⟩, ?_⟩
  refine lc_map (f := fun i _ => eD (pl i, pl (i + 1), su (i + 1) - su i)) (by rw [rngN_len]; omega) (fun _ _ => trivial) ?_ ?_
  · intro i x s1 Q' hx k1 hQ
    obtain ⟨hi, rfl⟩ := rngN_of hx
    have q1 := k1.get _ _ (by omega) hq
    have u1 := k1.get _ _ (by omega) hu
    unfold l_law_chain_1
    simp only [wipeS]
    walk_at "run"
    rw [show (i : Int) + 1 = ((i + 1 : Nat) : Int) by omega]
    refine ix_ref q1 (uD_at (by omega)) (ix_ref q1 (uD_at (by omega)) (ix_ref u1 (vD_at (by omega)) (ix_ref u1 (vD_at (by omega)) ?_)))
    walk_at "run"
    exact ⟨by decide, hQ s1 (Kp.refl _ _)⟩
  intro s1 k1 hg1
  have e1 : List.mapIdx (fun i (_ : D) => eD (pl i, pl (i + 1), su (i + 1) - su i)) (rngL 0 ((n - 1 : Nat) : Int)) = ((List.range (n - 1)).map fun i => (pl i, pl (i + 1), su (i + 1) - su i)).map eD := by
    apply List.ext_getElem?
    intro i
    rw [List.getElem?_mapIdx, List.getElem?_map, List.getElem?_map]
    by_cases c : i < n - 1
    · rw [List.getElem?_range c, List.getElem?_eq_getElem (by rw [rngN_len]; exact c)]
      rfl
    · rw [List.getElem?_eq_none (by rw [rngN_len]; omega), List.getElem?_eq_none (by rw [List.length_range]; omega)]
      rfl
  rw [e1] at hg1
  have hs1 : Src b s1 r := hs.kp k1 (by omega)
  have l1 := k1.len
  unfold b_law_chain_1_1
  walk_at "run"
  refine draw_kp hDraw hs1 (by omega) (dv 12) fun z s2 z0 z1 k2 l2 hs2 => ?_
  obtain ⟨z, rfl⟩ := Int.eq_ofNat_of_zero_le z0
  refine ⟨⟨by decide, by decide, by omega, by omega⟩, ?_⟩
  have hg2 := k2.get _ _ (by omega) hg1
  have q2 := k2.get _ _ (by omega) (k1.get _ _ (by omega) hq)
  have u2 := k2.get _ _ (by omega) (k1.get _ _ (by omega) hu)
  refine for_at (I := fun i σ s' => ∃ (fa : List Ft) (v5 v6 v7 : Option D), (∀ f ∈ fa, UpF n pl su f ∧ InB (10 ^ 61) f.2.2) ∧ (∀ k, k + 1 < n → (pl k, pl (k + 1), su (k + 1) - su k) ∈ fa) ∧ fa.length ≤ n + i ∧ 0 < fa.length ∧ σ = [some (.ref r), some (.ref q), some (.ref u), some (.int n), some (.ref s.length), v5, v6, v7, none] ∧ s'[s.length]? = some (.lst (fa.map eD)) ∧ Kp (fun p => p = r ∨ p = s.length) s2 s' ∧ Src (b + 1 + 3 * i) s' r) ?_ ?_ ?_
  · refine ⟨_, _, _, _, fun f hf => ?_, fun k hk => ?_, ?_, ?_, rfl, hg2, Kp.refl _ _, hs2⟩
    · obtain ⟨k, hk, rfl⟩ := List.mem_map.mp hf
      have hk := List.mem_range.mp hk
      have b1 := sb k (by omega)
      have b2 := sb (k + 1) (by omega)
      exact ⟨⟨k, k + 1, by omega, by omega, rfl, rfl, Int.le_refl _⟩, by have := b1.1; have := b2.1; have := b1.2; have := b2.2; exact ⟨by dsimp only; omega, by dsimp only; omega⟩⟩
    · exact List.mem_map.mpr ⟨k, List.mem_range.mpr (by omega), rfl⟩
    · rw [List.length_map, List.length_range]; omega
    · rw [List.length_map, List.length_range]; omega
  · rintro i it σ s3 N' hit ⟨fa, v5, v6, v7, f1, f2, f3, f4, rfl, hg3, k3, hs3⟩ hN
    obtain ⟨hi, rfl⟩ := rngN_of hit
    refine ⟨trivial, ?_⟩
    unfold b_law_chain_2
    walk_at "run"
    refine draw_kp hDraw hs3 (by omega) (div_nat (by omega) (by omega)) fun a s4 a0 a1 k4 l4 hs4 => ?_
    obtain ⟨a, rfl⟩ := Int.eq_ofNat_of_zero_le a0
    unfold b_law_chain_2_1
    walk_at "run"
    refine draw_kp hDraw hs4 (by omega) (div_nat (by omega) (by omega)) fun c s5 c0 c1 k5 l5 hs5 => ?_
    obtain ⟨c, rfl⟩ := Int.eq_ofNat_of_zero_le c0
    unfold b_law_chain_2_2
    walk_at "run"
    have k35 := k4.trans k5
    refine br_dec (fun hac => ?_) (fun hac => ?_)
    · unfold b_law_chain_3
      walk_at "run"
      have hg5 := k35.get _ _ (by omega) hg3
      have q5 := k35.get _ _ (by omega) (k3.get _ _ (by omega) q2)
      have u5 := k35.get _ _ (by omega) (k3.get _ _ (by omega) u2)
      refine ⟨mty_ref hg5 rfl, ?_⟩
      refine ix_ref q5 (uD_at (by omega)) (ix_ref q5 (uD_at (by omega)) (ix_ref u5 (vD_at (by omega)) (ix_ref u5 (vD_at (by omega)) ?_)))
      walk_at "run"
      refine draw_kp hDraw hs5 (by omega) (dv 1000) fun d s6 d0 d1 k6 l6 hs6 => ?_
      walk_at "run"
      have hg6 := k6.get _ _ (by omega) hg5
      refine ⟨by decide, app_ref hg6 (by rw [List.length_map]; omega) ?_⟩
      have b1 := sb a (by omega)
      have b2 := sb c (by omega)
      refine hN.nx _ _ ⟨fa ++ [(pl a, pl c, su c - su a + 1 + d)], _, _, _, fun f hf => ?_, fun k hk => List.mem_append_left _ (f2 k hk), by rw [List.length_append, List.length_singleton]; omega, by rw [List.length_append]; omega, rfl, ?_, ?_, ?_⟩
      · rcases List.mem_append.mp hf with hf | hf
        · exact f1 f hf
        · simp only [List.mem_cons, List.not_mem_nil, or_false] at hf
          subst hf
          have := b1.1
          have := b2.1
          have := b1.2
          have := b2.2
          exact ⟨⟨a, c, by omega, by omega, rfl, rfl, by dsimp only; omega⟩, by dsimp only; omega, by dsimp only; omega⟩
      · rw [get_set hg6, List.map_append]
        rfl
      · exact (k3.trans ((k35.trans k6).mono fun _ _ z => .inl z)).trans (Kp.set (.inr rfl))
      · exact (hs6.kp (R := fun p => p = s.length) (Kp.set rfl) (by omega)).mono (by omega)
    · exact hN.nx _ _ ⟨fa, _, _, _, f1, f2, by omega, f4, rfl, k35.get _ _ (by omega) hg3, k3.trans (k35.mono fun _ _ z => .inl z), hs5.mono (by omega)⟩
  · rintro σ s3 ⟨fa, v5, v6, v7, f1, f2, f3, f4, rfl, hg3, k3, hs3⟩
    rw [rngN_len] at f3 hs3
    refine ⟨trivial, ?_⟩
    unfold b_law_chain_1_2
    walk_at "run"
    refine len_ref hg3 ?_
    rw [List.length_map]
    refine draw_kp hDraw hs3 (by omega) (div_nat (by omega) (by omega)) fun c s4 c0 c1 k4 l4 hs4 => ?_
    obtain ⟨c, rfl⟩ := Int.eq_ofNat_of_zero_le c0
    unfold b_law_chain_1_3
    walk_at "run"
    have hg4 := k4.get _ _ (by omega) hg3
    refine ⟨rfl, rfl, sl_from hg4 (by omega) ?_⟩
    refine ⟨rfl, rfl, sl_to (get_old hg4) (by omega) ?_⟩
    refine add_refs (get_old get_new) get_new (by simp only [List.length_drop, List.length_take, List.length_map]; omega) ?_
    rw [Int.toNat_natCast]
    have e2 : (fa.map eD).drop c ++ (fa.map eD).take c = (fa.drop c ++ fa.take c).map eD := by rw [List.map_append, List.map_drop, List.map_take]
    have mm : ∀ f, f ∈ fa.drop c ++ fa.take c ↔ f ∈ fa := fun f => by
      rw [List.mem_append, Or.comm, ← List.mem_append, List.take_append_drop]
    have l3 := k3.len
    refine h _ _ (fa.drop c ++ fa.take c) ⟨fun f hf => f1 f ((mm f).mp hf), fun k hk => (mm _).mpr (f2 k hk), by simp only [List.length_append, List.length_drop, List.length_take]; omega, by simp only [List.length_append, List.length_drop, List.length_take]; omega⟩ ?_ ((hs4.push.push.push).mono (by omega)) (by rw [get_new, e2]) (by simp only [List.length_append]; omega)
    have k0 : Kp (fun p => p = r ∨ p = s.length) s s4 := (k1.mono (r' := fun p => p = r ∨ p = s.length) fun _ _ z => .inr z).trans ((k2.mono fun _ _ z => .inl z).trans (k3.trans (k4.mono fun _ _ z => .inl z)))
    exact (k0.mono (r' := fun p => p = r) fun p hp z => z.resolve_right (by omega)).trans (Kp.push.trans (Kp.push.trans Kp.push))
end
end K33

set_option exponentiation.threshold 2000
namespace K33
open PySem PX Wy
theorem eq_non_int {s : Sto} {i : Int} : cmpD s .Eq .non (.int i) = some false := rfl
theorem ne_non_int {s : Sto} {i : Int} : cmpD s .NotEq .non (.int i) = some true := rfl
section
variable {j : Nat} {E : XQ}
theorem low_ok {s : Sto} {n u a c : Nat} {su : Nat → Int} {cl : Option Int} {Q : QE} (hu : s[u]? = some (.lst (vD su n))) (ha : a < n) (hc : c < n) (h : Q (oD (lowV su cl a c)) s) : Lv TT (j + 1) i_law_low [.ref u, oD cl, .int a, .int c] s Q E := by
  refine lv_in (fn := d_law_low.fn) rfl rfl ?_
  dsimp only [d_law_low, b_law_low_1]
  walk_at "run"
  unfold lowV at h
  refine br_dec (fun hac => ?_) (fun hac => ?_)
  · rw [if_pos (by omega)] at h
    unfold b_law_low_3
    walk_at "run"
    exact ix_ref hu (vD_at hc) (ix_ref hu (vD_at ha) h)
  · rw [if_neg (by omega)] at h
    unfold b_law_low_1_1
    cases cl with
    | none =>
      simp only [oD]
      walk_at "run"
      unfold b_law_low_2
      walk_at "run"
      exact h
    | some k =>
      simp only [oD]
      walk_at "run"
      unfold b_law_low_1_2
      walk_at "run"
      exact ix_ref hu (vD_at hc) (ix_ref hu (vD_at ha) h)
theorem entry_ok {s : Sto} {o : Option Int} {Q : QE} (h : Q (.bl true) s) : Lv TT (j + 2) i_law_entry [oD o, oD o] s Q E := by
  refine lv_in (fn := d_law_entry.fn) rfl rfl ?_
  dsimp only [d_law_entry, b_law_entry_1]
  cases o with
  | none =>
    simp only [oD]
    walk_at "run"
    unfold b_law_entry_2
    walk_at "run"
    exact h
  | some k =>
    simp only [oD]
    walk_at "run"
    unfold b_law_entry_1_1
    walk_at "run"
    refine isint_ok ?_
    walk_at "run"
    rw [decide_eq_true (show k = k from rfl)]
    exact h
theorem table_ok {s : Sto} {n : Nat} {S : Mt} {Q : QE} (h : ∀ s', Kp (fun _ => False) s s' → Q (.bl true) s') : Lv TT (j + 1) i_law_is_table [tabD S n, .int n] s Q E := by
  refine lv_in (fn := d_law_is_table.fn) rfl rfl ?_
  dsimp only [d_law_is_table, b_law_is_table_1]
  unfold tabD
  walk_at "run"
  refine br_nyes (by decide) ?_
  rw [PX.x0]
  walk_at "run"
  refine br_nyes rfl ?_
  rw [PX.x1]
  walk_at "run"
  unfold b_law_is_table_1_1
  walk_at "run"
  rw [PX.x1]
  walk_at "run"
  rw [List.length_map, List.length_range]
  refine br_yes rfl ?_
  rw [PX.x1]
  walk_at "run"
  refine lc_none (fun s' k => trivial) ?_ ?_
  · intro i x s1 K' hx k1 hK
    rw [List.getElem?_map] at hx
    cases e : (List.range n)[i]? with
    | none => rw [e] at hx; cases hx
    | some c =>
    rw [e] at hx
    cases hx
    unfold i_law_is_table_1
    simp only [wipeS]
    walk_at "run"
    rw [rowD_len, decide_eq_true (show ((n : Int) = n) from rfl)]
    walk_at "run"
    exact hK s1 (Kp.refl _ _)
  · intro s1 k1 hg1
    refine ⟨by decide, ?_⟩
    rw [eq_nil hg1]
    walk_at "run"
    exact h _ ((k1.mono fun p hp z => by omega).trans Kp.push)
theorem followed_ok {s : Sto} {n r x y : Nat} {k : Int} {fa : List Ft} {p : Nat → Int} {S F : Mt} (o : FOk n fa p) (hr : s[r]? = some (.lst (fa.map eD))) (g : Good n fa S F) (hx : x < n) (hy : y < n) {Q : QE}
    (h : ∀ s', Kp (fun _ => False) s s' → Q (.bl true) s') : Lv TT (j + 5) i_law_followed [.int n, .ref r, .int x, .int y, oD (S x y), .int k] s Q E := by
  refine lv_in (fn := d_law_followed.fn) rfl rfl ?_
  dsimp only [d_law_followed, b_law_followed_1]
  walk_at "run"
  refine tup_ref hr ?_
  refine follows_ok o.hn o.hf (.inl rfl) o.ed o.sol hx hy (good_fw g) fun told s1 ht k1 => ?_
  have hr1 := k1.get _ _ id hr
  unfold b_law_followed_1_1
  rcases ht with ⟨a, ks, e, ha, hp, rfl⟩ | ⟨hno, lo, sol, hlo, rfl⟩
  · rw [e]
    simp only [oD]
    walk_at "run"
    refine br_nyes (by decide) ?_
    rw [PX.x0]
    walk_at "run"
    unfold b_law_followed_1_2
    walk_at "run"
    refine br_yes ha ?_
    unfold b_law_followed_2
    walk_at "run"
    rw [PX.x1]
    refine Lv_le (k := j + 2) (by omega) (way_ok hr1 hp ?_)
    unfold b_law_followed_2_1
    walk_at "run"
    rw [PX.x0]
    walk_at "run"
    rw [decide_eq_true rfl]
    walk_at "run"
    rw [decide_eq_true ha]
    exact h s1 k1
  · have rest : ∀ v, xSs (Lv TT (j + 4)) b_law_followed_1_3 [some (.int n), some (.ref r), some (.int x), some (.int y), some (oD (S x y)), some (.int k), some (.tup [.str [110, 111], solD n lo]), v] s1 { nx := fun σ s' => Q .non s', rt := Q, bk := fun σ s => False, ct := fun σ s => False, ex := fun c fs σ s' => E c fs s' } := fun v => by
      unfold b_law_followed_1_3
      walk_at "run"
      rw [PX.x0]
      walk_at "run"
      rw [decide_eq_true rfl]
      walk_at "run"
      rw [PX.x1]
      refine Lv_le (k := j + 2) (by omega) (solves_ok hr1 o.hn0 o.ed sol fun s2 k2 => ?_)
      walk_at "run"
      rw [PX.x1]
      unfold solD
      refine ix_tup (solD_at hx) ?_
      rw [PX.x1]
      refine ix_tup (solD_at hy) ?_
      walk_at "run"
      rw [decide_eq_true (show k + 1 ≤ lo x - lo 0 - (lo y - lo 0) by omega)]
      exact h s2 (k1.trans k2)
    walk_at "run"
    refine br_nyes (by decide) ?_
    rw [PX.x0]
    walk_at "run"
    unfold b_law_followed_1_2
    cases e : S x y with
    | none =>
      rw [e] at rest
      simp only [oD] at rest ⊢
      walk_at "run"
      exact rest _
    | some a =>
      rw [e] at rest
      have := hno a e
      simp only [oD] at rest ⊢
      walk_at "run"
      exact br_no (by omega) (rest _)
/-- the form x - y + number, over the atoms but 0 -/
theorem form_ok {s : Sto} {n x y : Nat} {num : Int} (hx : x < n) (hy : y < n) (hne : x ≠ y) (hnum : InB (10 ^ 60) num) {Q : QE}
    (h : ∀ s' ts, FrmOk n num ts → (∀ f : Nat → Int, f 0 = 0 → (ts.map fun t => t.2 * f t.1).sum = f x - f y) → Kp (fun _ => False) s s' → Q (FD num ts) s') : Lv TT (j + 1) i_law_form [.int x, .int y, .int num] s Q E := by
  refine lv_in (fn := d_law_form.fn) rfl rfl ?_
  dsimp only [d_law_form, b_law_form_1]
  have e24 := size24
  have one : InB (10 ^ 60) 1 ∧ InB (10 ^ 60) (-1) := ⟨⟨by decide, by decide⟩, ⟨by decide, by decide⟩⟩
  have rest : ∀ t1 t2 : Nat × Int, t1.1 < t2.1 → FrmOk n num [t1, t2] → (∀ f : Nat → Int, f 0 = 0 → t1.2 * f t1.1 + t2.2 * f t2.1 = f x - f y) → xSs (Lv TT j) b_law_form_1_1 [some (.int x), some (.int y), some (.int num), some (.ref s.length), none] (s ++ [.lst [tD t1, tD t2]]) { nx := fun σ s' => Q .non s', rt := Q, bk := fun σ s => False, ct := fun σ s => False, ex := fun c fs σ s' => E c fs s' } := fun t1 t2 hlt fo hf => by
    unfold b_law_form_1_1
    walk_at "run"
    refine it_ref get_new ?_
    have g0 : (s ++ [Ob.lst [tD t1, tD t2]])[s.length]? = some (.lst [tD t1, tD t2]) := get_new
    have l0 : (s ++ [Ob.lst [tD t1, tD t2]]).length = s.length + 1 := by simp
    have k0 : Kp (fun _ => False) s (s ++ [Ob.lst [tD t1, tD t2]]) := Kp.push
    generalize s ++ [Ob.lst [tD t1, tD t2]] = s1 at g0 l0 k0 ⊢
    refine lc_at (I := fun i acc s' => s'[s1.length]? = some (.lst acc) ∧ acc = (([t1, t2].take i).filter fun t => decide (0 < t.1)).map tD ∧ Kp (fun p => p = s1.length) s1 s') (fun i acc s h => h.1) ⟨get_new, rfl, Kp.push⟩ ?_ ?_
    · rintro i it acc s2 hit ⟨hg2, rfl, k2⟩
      refine ⟨k2.get _ _ (by omega) g0, ?_⟩
      have : ∃ t, [t1, t2][i]? = some t ∧ it = tD t := by
        have : [tD t1, tD t2] = [t1, t2].map tD := rfl
        rw [this, List.getElem?_map] at hit
        cases e : [t1, t2][i]? with
        | none => rw [e] at hit; cases hit
        | some t => rw [e] at hit; exact ⟨t, rfl, (Option.some.inj hit).symm⟩
      obtain ⟨t, ht, rfl⟩ := this
      have hil := (List.getElem?_eq_some_iff.mp ht).1
      simp only [List.length_cons, List.length_nil] at hil
      unfold i_law_form_1 l_law_form_1 tD
      simp only [wipeS]
      walk_at "run"
      rw [PX.x0]
      walk_at "run"
      refine br_dec (fun hp => ?_) (fun hp => ?_)
      · refine ⟨hg2, ?_, get_set hg2, ?_, k2.trans (Kp.set rfl)⟩
        · rw [List.length_map]
          have h1 := List.length_filter_le (fun t : Nat × Int => decide (0 < t.1)) ([t1, t2].take i)
          have h2 := List.length_take_le i [t1, t2]
          omega
        · rw [List.take_add_one, ht, List.filter_append, List.map_append]
          have : decide (0 < t.1) = true := decide_eq_true (by omega)
          simp only [Option.toList_some, List.filter_cons, this, if_true, List.filter_nil]
          rfl
      · rw [if_neg (by decide)]
        refine ⟨hg2, ?_, k2⟩
        rw [List.take_add_one, ht, List.filter_append, List.map_append]
        have : decide (0 < t.1) = false := decide_eq_false (by omega)
        simp only [Option.toList_some, List.filter_cons, this, Bool.false_eq_true, if_false, List.filter_nil, List.map_nil, List.append_nil]
    · rintro acc s2 ⟨hg2, rfl, k2⟩
      refine ⟨k2.get _ _ (by omega) g0, tup_ref hg2 ⟨by decide, ?_⟩⟩
      have et : [t1, t2].take [tD t1, tD t2].length = [t1, t2] := rfl
      rw [et]
      refine h s2 ([t1, t2].filter fun t => decide (0 < t.1)) ⟨fo.1, fun t ht => fo.2 t (List.mem_filter.mp ht).1⟩ (fun f f0 => ?_) ((k0.mono (r' := fun p => p = s1.length) fun _ _ z => z.elim).trans k2 |>.mono fun p hp z => by omega)
      have h2 : decide (0 < t2.1) = true := decide_eq_true (by omega)
      rw [← hf f f0]
      by_cases c : 0 < t1.1
      · simp only [List.filter_cons, decide_eq_true c, h2, if_true, List.filter_nil, List.map_cons, List.map_nil, List.sum_cons, List.sum_nil, Int.add_zero]
      · have z : t1.1 = 0 := by omega
        have e : ([t1, t2].filter fun t => decide (0 < t.1)) = [t2] := by
          simp only [List.filter_cons, decide_eq_false c, h2, if_true, Bool.false_eq_true, if_false, List.filter_nil]
        rw [e, z, f0, Int.mul_zero, Int.zero_add]
        simp only [List.map_cons, List.map_nil, List.sum_cons, List.sum_nil, Int.add_zero]
  walk_at "run"
  refine br_dec (fun hxy => ?_) (fun hxy => ?_)
  · unfold b_law_form_2
    walk_at "run"
    refine ⟨by decide, by decide, by decide, ?_⟩
    exact rest (x, 1) (y, -1) (by dsimp only; omega) ⟨hnum, fun t ht => by
      simp only [List.mem_cons, List.not_mem_nil, or_false] at ht
      rcases ht with rfl | rfl
      · exact ⟨hx, one.1⟩
      · exact ⟨hy, one.2⟩⟩ (fun f f0 => by dsimp only; omega)
  · unfold b_law_form_3
    walk_at "run"
    refine ⟨by decide, by decide, by decide, ?_⟩
    exact rest (y, -1) (x, 1) (by dsimp only; omega) ⟨hnum, fun t ht => by
      simp only [List.mem_cons, List.not_mem_nil, or_false] at ht
      rcases ht with rfl | rfl
      · exact ⟨hy, one.2⟩
      · exact ⟨hx, one.1⟩⟩ (fun f f0 => by dsimp only; omega)
theorem pt_sol {n : Nat} {fa : List Ft} {p : Nat → Int} (o : FOk n fa p) {S F : Mt} (g : Good n fa S F) {v : Nat → Int} (lv : LowV S n v) (m : Nat) : Sol (pv S n v m) fa := fun f hf => by
  obtain ⟨c, c1, c2⟩ := g.edge f hf
  have := pv_sol g.clo lv m (o.ed f hf).1 (o.ed f hf).2 c1
  omega
theorem pt_eq {n : Nat} {S : Mt} {v : Nat → Int} {m : Nat} (hn0 : 0 < n) : ptD S n v m = solD n (pv S n v m) := by
  unfold ptD solD vD rowD
  congr 1
  refine List.map_congr_left fun i _ => ?_
  rw [pv_zero hn0]
  simp only [oD, Int.sub_zero]
theorem parted_ok {s : Sto} {n r x y : Nat} {num : Int} {b : Bool} {fa : List Ft} {p : Nat → Int} {S F : Mt} (o : FOk n fa p) (hr : s[r]? = some (.lst (fa.map eD))) (g : Good n fa S F) (hx : x < n) (hy : y < n) (hne : x ≠ y) (hnum : InB (10 ^ 60) num)
    (ht : b = true → S x y = some (-num) ∧ S y x = some num) (hf : b = false → tiedB S x y = false) {Q : QE}
    (h : ∀ s', Kp (fun _ => False) s s' → Q (.bl true) s') : Lv TT (j + 5) i_law_parted [.int n, .ref r, .int x, .int y, .int num, .bl b] s Q E := by
  refine lv_in (fn := d_law_parted.fn) rfl rfl ?_
  dsimp only [d_law_parted, b_law_parted_1]
  walk_at "run"
  refine lst_ref hr ?_
  have k0 : Kp (fun _ => False) s (s ++ [Ob.lst (fa.map eD)]) := Kp.push
  have g0 : (s ++ [Ob.lst (fa.map eD)])[s.length]? = some (.lst (fa.map eD)) := get_new
  refine Lv_le (k := j + 1) (by omega) (form_ok hx hy hne hnum fun s1 ts fo hts k1 => ?_)
  have g1 := k1.get _ _ id g0
  refine apart_ok o (.inr ⟨_, rfl, g1⟩) fo fun s2 S' F' v told g' lv td k2 => ?_
  have k02 := k0.trans (k1.trans k2)
  have hr2 := k02.get _ _ id hr
  have sm := fun i j (hi : i < n) (hj : j < n) => good_same g g' hi hj
  have vs : ∀ m, VS S' n v m ts = pv S' n v m x - pv S' n v m y := fun m => hts (pv S' n v m) (pv_zero o.hn0 m)
  unfold b_law_parted_1_1
  cases b with
  | true =>
    walk_at "run"
    unfold b_law_parted_2
    walk_at "run"
    rcases td with ⟨rfl, _⟩ | ⟨m, hm, rfl, hz⟩
    · walk_at "run"
      exact h s2 k02
    · obtain ⟨t1, t2⟩ := ht rfl
      rw [sm _ _ hx hy] at t1
      rw [sm _ _ hy hx] at t2
      have := pv_sol g'.clo lv m hx hy t1
      have := pv_sol g'.clo lv m hy hx t2
      have := vs m
      omega
  | false =>
    have hnt := hf rfl
    walk_at "run"
    rcases td with ⟨rfl, hz⟩ | ⟨m, hm, rfl, hz⟩
    · refine absurd (fun m hm => ?_) (pv_part (v := v) (C := -num) g'.clo hx hy (by unfold tiedB at hnt ⊢; rw [← sm _ _ hx hy, ← sm _ _ hy hx]; exact hnt))
      have := hz m hm
      have := vs m
      omega
    · unfold b_law_parted_1_2
      walk_at "run"
      rw [pt_eq o.hn0]
      refine Lv_le (k := j + 2) (by omega) (solves_ok hr2 o.hn0 o.ed (pt_sol o g' lv m) fun s3 k3 => ?_)
      walk_at "run"
      unfold solD
      refine ix_tup (solD_at hx) (ix_tup (solD_at hy) ?_)
      walk_at "run"
      have := vs m
      rw [decide_eq_false (show ¬ (pv S' n v m x - pv S' n v m 0 - (pv S' n v m y - pv S' n v m 0) + num = 0) by omega)]
      exact h s3 (k02.trans k3)
end
end K33

set_option exponentiation.threshold 2000
namespace K33
open PySem PX Wy
theorem resWs_eD {r : Nat → Option D} : ∀ fa : List Ft, resWs r (fa.map eD) = some (fa.map eD)
  | [] => rfl
  | f :: fa => by
    simp only [List.map_cons, resWs, resWs_eD fa, eD, resW]
    rfl
theorem nobs_eD {k : Nat} : ∀ fa : List Ft, nobs (k + 1) (fa.map eD) = true
  | [] => rfl
  | f :: fa => by
    simp only [List.map_cons, nobs, nobs_eD fa, eD, nob, Bool.and_self, Bool.and_true]
theorem eq_facts {s : Sto} {m n : Nat} {fa : List Ft} (hm : s[m]? = some (.lst (fa.map eD))) (hn : s[n]? = some (.lst (fa.map eD))) : cmpD s .NotEq (.ref m) (.ref n) = some false := by
  have e : ∀ q, s[q]? = some (.lst (fa.map eD)) → res s 3 (.ref q) = some (.fl (fa.map eD)) := fun q hq => by
    simp only [res, resW, hq, resWs_eD, Option.map_some]
  show (eqD s (.ref m) (.ref n)).map _ = _
  have : eqD s (.ref m) (.ref n) = some true := by
    simp only [eqD, eqDeep, e m hm, e n hn, nob, nobs_eD, Bool.and_self, if_true, decide_true]
  rw [this]
  rfl
theorem resWs_pt {r : Nat → Option D} : ∀ ps : List (List Int), resWs r (ps.map fun p => .tup (p.map .int)) = some (ps.map fun p => .tup (p.map .int))
  | [] => rfl
  | p :: ps => by
    have : resWs r (p.map D.int) = some (p.map D.int) := resWs_pl (pl_ints p)
    simp only [List.map_cons, resWs, resWs_pt ps, resW, this, Option.map_some]
theorem nobs_pt {k : Nat} : ∀ ps : List (List Int), nobs (k + 1) (ps.map fun p => .tup (p.map .int)) = true
  | [] => rfl
  | p :: ps => by
    have : nobs k (p.map D.int) = true := nobs_pl (pl_ints p)
    simp only [List.map_cons, nobs, nobs_pt ps, nob, this, Bool.and_self]
theorem pts_nil {s : Sto} {a : Nat} {ps : List (List Int)} (ha : s[a]? = some (.lst (ps.map fun p => .tup (p.map .int)))) (hne : ps ≠ []) : cmpD (s ++ [Ob.lst []]) .Eq (.ref a) (.ref s.length) = some false := by
  have h1 : res (s ++ [Ob.lst []]) 3 (.ref a) = some (.fl (ps.map fun p => .tup (p.map .int))) := by
    simp only [res, resW, get_old (r := [Ob.lst []]) ha, resWs_pt, Option.map_some]
  have h2 : res (s ++ [Ob.lst []]) 3 (.ref s.length) = some (.fl []) := by
    simp only [res, resW, get_new, resWs, Option.map_some]
  show eqD (s ++ [Ob.lst []]) (.ref a) (.ref s.length) = some false
  simp only [eqD, eqDeep, h1, h2, nob, nobs_pt, nobs, Bool.and_self, if_true]
  congr 1
  rw [decide_eq_false_iff_not]
  intro z
  exact hne (List.map_eq_nil_iff.mp (D.fl.inj z))
theorem eq_cl {s : Sto} {cl : Option Int} : cmpD s .Eq (oD cl) (.int 0) = some (decide (cl = some 0)) := by
  cases cl with
  | none => rfl
  | some c =>
    show some (decide (c = 0)) = _
    congr 1
    exact decide_eq_decide.mpr ⟨fun h => by rw [h], fun h => Option.some.inj h⟩
theorem ne_cl {s : Sto} {cl : Option Int} : cmpD s .NotEq (oD cl) (.int 0) = some (!decide (cl = some 0)) := by
  show (eqD s (oD cl) (.int 0)).map _ = _
  rw [show eqD s (oD cl) (.int 0) = some (decide (cl = some 0)) from eq_cl]
  rfl
theorem intsOf_uD {u : Nat → Nat} {k : Nat} : intsOf (uD u k) = some ((List.range k).map fun i => (u i : Int)) := by
  have : ∀ l : List Nat, intsOf (l.map fun i => D.int (u i)) = some (l.map fun i => (u i : Int)) := fun l => by
    induction l with
    | nil => rfl
    | cons a r ih => simp only [List.map_cons, intsOf, ih]; rfl
  exact this _
theorem idx_ref {s : Sto} {q n x : Nat} {pl ix : Nat → Nat} (P : Pl n pl ix) (O : Onto n pl ix) (hn : n < 1000) (hq : s[q]? = some (.lst (uD pl n))) (hx : x < n) {Q : QE} (h : Q (.int (ix x)) s) : xMeth .index (.ref q) [.int x] s Q := by
  have e24 := size24
  simp only [xMeth, hq, intsOf_uD]
  have hm : (x : Int) ∈ (List.range n).map fun i => (pl i : Int) := List.mem_map.mpr ⟨ix x, List.mem_range.mpr (O x hx).1, by rw [(O x hx).2]⟩
  have hl := List.idxOf_lt_length_of_mem hm
  have hg := List.getElem_idxOf hl
  rw [List.getElem_map, List.getElem_range] at hg
  rw [List.length_map, List.length_range] at hl
  have e : List.idxOf (x : Int) ((List.range n).map fun i => (pl i : Int)) = ix x := by
    have h2 := P.ix _ hl
    have h3 : pl (List.idxOf (x : Int) ((List.range n).map fun i => (pl i : Int))) = x := by omega
    rw [h3] at h2
    exact h2.symm
  refine ⟨⟨hm, by rw [List.length_map, List.length_range]; omega⟩, ?_⟩
  rw [e]
  exact h
theorem ne_same {s : Sto} {xs : List D} (hp : ∀ x ∈ xs, pl x = true) : cmpD s .NotEq (.tup xs) (.tup xs) = some false := by
  show (eqD s (.tup xs) (.tup xs)).map _ = _
  rw [eq_tups hp hp, decide_eq_true rfl]
  rfl
section
variable {j : Nat} {E : XQ}
theorem ties_right_ok {s : Sto} {n q u : Nat} {pl ix : Nat → Nat} {su : Nat → Int} {cl : Option Int} {tl : List Ft} (P : Pl n pl ix) (O : Onto n pl ix) (hn : n < 1000) (hn0 : 0 < n) (hq : s[q]? = some (.lst (uD pl n))) (hu : s[u]? = some (.lst (vD su n)))
    (ht : tl = if cl = some 0 then (List.range (n - 1)).map fun k => (k + 1, 0, su (ix 0) - su (ix (k + 1))) else []) {Q : QE} (h : ∀ s', Kp (fun _ => False) s s' → Q (.bl true) s') : Lv TT (j + 2) i_law_ties_right [.tup (tl.map eD), .ref q, .ref u, oD cl] s Q E := by
  refine lv_in (fn := d_law_ties_right.fn) rfl rfl ?_
  dsimp only [d_law_ties_right, b_law_ties_right_1]
  walk_at "run"
  have e24 := size24
  rw [eq_cl]
  have hql := lt_of_get hq
  have hul := lt_of_get hu
  have k0 : Kp (fun _ => False) s (s ++ [Ob.lst []]) := Kp.push
  have g0 : (s ++ [Ob.lst []])[s.length]? = some (.lst []) := get_new
  have l0 : (s ++ [Ob.lst []]).length = s.length + 1 := by simp
  generalize s ++ [Ob.lst []] = s0 at k0 g0 l0 ⊢
  have rest : ∀ d s1 v5 v6, s1[d]? = some (.lst (tl.map eD)) → Kp (fun _ => False) s s1 → xSs (Lv TT (j + 1)) b_law_ties_right_1_1 [some (.tup (tl.map eD)), some (.ref q), some (.ref u), some (oD cl), some (.ref d), v5, v6, none, none] s1 { nx := fun σ s' => Q .non s', rt := Q, bk := fun σ s => False, ct := fun σ s => False, ex := fun c fs σ s' => E c fs s' } := fun d s1 v5 v6 hd k1 => by
    unfold b_law_ties_right_1_1
    walk_at "run"
    refine len_ref hd ?_
    walk_at "run"
    refine br_nyes rfl ?_
    unfold b_law_ties_right_1_2
    walk_at "run"
    refine len_ref hd ?_
    walk_at "run"
    have tll : tl.length ≤ n := by
      rw [ht]
      split <;> simp
    rw [List.length_map]
    refine ⟨⟨by decide, by decide, by omega, by omega⟩, ?_⟩
    refine for_at (I := fun i σ s' => (∃ v7 v8, σ = [some (.tup (tl.map eD)), some (.ref q), some (.ref u), some (oD cl), some (.ref d), v5, v6, v7, v8]) ∧ Kp (fun _ => False) s1 s') ⟨⟨_, _, rfl⟩, Kp.refl _ _⟩ ?_ ?_
    · rintro i it σ s2 N' hit ⟨⟨v7, v8, rfl⟩, k2⟩ hN
      obtain ⟨hi, rfl⟩ := rngN_of hit
      refine ⟨trivial, ?_⟩
      have ge : L2.atI (tl.map eD) (i : Int) = some (eD tl[i]) := by rw [atI_k, List.getElem?_map, List.getElem?_eq_getElem hi]; rfl
      unfold b_law_ties_right_2
      walk_at "run"
      refine ix_tup ge ?_
      unfold eD
      walk_at "run"
      refine ix_tup ge ?_
      unfold eD
      walk_at "run"
      refine br_nyes (by decide) ?_
      refine ix_tup ge ?_
      unfold eD
      walk_at "run"
      refine lc_none (fun s' k => trivial) ?_ ?_
      · intro c x s3 K' hx k3 hK
        have hm := List.mem_of_getElem? hx
        have : ∃ z : Int, x = .int z := by
          simp only [List.mem_cons, List.not_mem_nil, or_false] at hm
          rcases hm with rfl | rfl | rfl <;> exact ⟨_, rfl⟩
        obtain ⟨z, rfl⟩ := this
        unfold i_law_ties_right_1
        simp only [wipeS]
        walk_at "run"
        refine isint_ok ?_
        walk_at "run"
        exact hK s3 (Kp.refl _ _)
      · intro s3 k3 hg3
        refine ⟨by decide, ?_⟩
        rw [ne_nil hg3]
        walk_at "run"
        unfold b_law_ties_right_2_1
        walk_at "run"
        refine ix_tup ge ?_
        have hd3 : (s3 ++ [Ob.lst []])[d]? = some (.lst (tl.map eD)) := get_old (k3.get _ _ (by have := lt_of_get (k2.get _ _ id hd); omega) (k2.get _ _ id hd))
        refine ix_ref hd3 ge ?_
        have : cmpD (s3 ++ [Ob.lst []]) .NotEq (eD tl[i]) (eD tl[i]) = some false := by
          unfold eD
          exact ne_same fun x hx => by
            simp only [List.mem_cons, List.not_mem_nil, or_false] at hx
            rcases hx with rfl | rfl | rfl <;> rfl
        rw [this]
        walk_at "run"
        exact hN.nx _ _ ⟨⟨_, _, rfl⟩, k2.trans ((k3.mono fun p hp z => by omega).trans Kp.push)⟩
    · rintro σ s2 ⟨⟨v7, v8, rfl⟩, k2⟩
      refine ⟨trivial, ?_⟩
      unfold b_law_ties_right_1_3
      walk_at "run"
      exact h s2 (k1.trans k2)
  refine ⟨by decide, ?_⟩
  walk_at "run"
  refine br_dec (fun hc => ?_) (fun hc => ?_)
  · rw [if_pos hc] at ht
    unfold b_law_ties_right_6
    walk_at "run"
    have q0 := k0.get _ _ id hq
    have u0 := k0.get _ _ id hu
    refine ⟨mty_ref q0 rfl, idx_ref P O hn q0 hn0 ?_⟩
    refine len_ref q0 ?_
    rw [uD_len]
    walk_at "run"
    refine ⟨⟨by decide, by decide, by omega, by omega⟩, ?_⟩
    refine lc_map (f := fun i _ => eD (i + 1, 0, su (ix 0) - su (ix (i + 1)))) (by rw [show (1 : Int) = ((1 : Nat) : Int) from rfl, rngA_len]; omega) (fun _ _ => trivial) ?_ ?_
    · intro i x s1 Q' hx k1 hQ
      rw [show (1 : Int) = ((1 : Nat) : Int) from rfl] at hx
      obtain ⟨hi, rfl⟩ := rngA_of hx
      have q1 := k1.get _ _ (by omega) q0
      have u1 := k1.get _ _ (by omega) u0
      unfold l_law_ties_right_2
      simp only [wipeS]
      walk_at "run"
      refine ix_ref u1 (vD_at (O 0 hn0).1) ?_
      refine ⟨mty_ref q1 rfl, idx_ref P O hn q1 hi (ix_ref u1 (vD_at (O _ hi).1) ?_)⟩
      walk_at "run"
      rw [Nat.add_comm 1 i]
      exact ⟨by decide, hQ s1 (Kp.refl _ _)⟩
    · intro s1 k1 hg1
      have e : List.mapIdx (fun i (_ : D) => eD (i + 1, 0, su (ix 0) - su (ix (i + 1)))) (rngL 1 (n : Int)) = tl.map eD := by
        rw [ht]
        apply List.ext_getElem?
        intro i
        rw [List.getElem?_mapIdx, List.getElem?_map, List.getElem?_map]
        have hl : (rngL 1 (n : Int)).length = n - 1 := by rw [show (1 : Int) = ((1 : Nat) : Int) from rfl, rngA_len]
        by_cases c : i < n - 1
        · rw [List.getElem?_range c, List.getElem?_eq_getElem (by rw [hl]; exact c)]
          rfl
        · rw [List.getElem?_eq_none (by omega), List.getElem?_eq_none (by rw [List.length_range]; omega)]
          rfl
      rw [e] at hg1
      exact rest _ s1 _ _ hg1 ((k0.mono (r' := fun p => p = s0.length) fun _ _ z => z.elim).trans k1 |>.mono fun p hp z => by omega)
  · rw [if_neg hc] at ht
    subst ht
    exact rest _ s0 _ _ g0 k0
end
end K33

set_option exponentiation.threshold 2000
namespace K33
open PySem PX Wy
section
variable {j : Nat} {E : XQ}
/-- a point as a list of ints -/
def ptL (S : Mt) (n : Nat) (v : Nat → Int) (m : Nat) : List Int := (List.range n).map (pv S n v m)
theorem ptD_L {S : Mt} {n : Nat} {v : Nat → Int} {m : Nat} : ptD S n v m = .tup ((ptL S n v m).map .int) := by
  unfold ptD vD rowD ptL
  rw [List.map_map]
  rfl
theorem row_right_ok {s : Sto} {n q u r : Nat} {pl ix : Nat → Nat} {su : Nat → Int} {cl : Option Int} {fa : List Ft} {p v : Nat → Int} {S F : Mt} (P : Pl n pl ix) (o : FOk n fa p) (hq : s[q]? = some (.lst (uD pl n))) (hu : s[u]? = some (.lst (vD su n))) (hr : s[r]? = some (.lst (fa.map eD))) (g : Good n fa S F) (lv : LowV S n v)
    (hp : cl ≠ some 0 → ∀ k, k + 1 < n → tiedB S (pl k) (pl (k + 1)) = false) {Q : QE} (h : ∀ s', Kp (fun _ => False) s s' → Q (.bl true) s') : Lv TT (j + 3) i_law_row_right [.tup (rowP S n v), .ref q, .ref r, .ref u, oD cl] s Q E := by
  refine lv_in (fn := d_law_row_right.fn) rfl rfl ?_
  dsimp only [d_law_row_right, b_law_row_right_1]
  walk_at "run"
  have e24 := size24
  have hn := o.hn
  have hn0 := o.hn0
  refine len_ref hq ?_
  rw [uD_len]
  walk_at "run"
  have rl : (rowP S n v).length = ko S n := by simp [rowP]
  have ko1 := (uo_zero (S := S) hn0).1
  have ko2 := ko_le (S := S) (n := n)
  refine br_yes (by omega) ?_
  rw [decide_eq_true (show (((rowP S n v).length : Nat) : Int) ≤ n by omega)]
  walk_at "run"
  unfold b_law_row_right_1_1
  walk_at "run"
  have row_of : ∀ {i : Nat} {x : D}, (rowP S n v)[i]? = some x → i < ko S n ∧ x = ptD S n v i := fun {i x} hx => by
    unfold rowP at hx
    rw [List.getElem?_map] at hx
    by_cases c : i < ko S n
    · rw [List.getElem?_range c] at hx
      exact ⟨c, (Option.some.inj hx).symm⟩
    · rw [List.getElem?_eq_none (by rw [List.length_range]; omega)] at hx
      cases hx
  have hrl := lt_of_get hr
  have hql := lt_of_get hq
  have hul := lt_of_get hu
  refine lc_none (fun s' k => trivial) ?_ ?_
  · intro i x s1 K' hx k1 hK
    obtain ⟨hi, rfl⟩ := row_of hx
    unfold i_law_row_right_2
    simp only [wipeS]
    walk_at "run"
    rw [pt_eq hn0]
    refine Lv_le (k := j + 2) (by omega) (solves_ok (k1.get _ _ (by omega) hr) hn0 o.ed (pt_sol o g lv i) fun s2 k2 => ?_)
    walk_at "run"
    exact hK s2 k2
  · intro s1 k1 hg1
    refine ⟨by decide, ?_⟩
    rw [ne_nil hg1]
    walk_at "run"
    have k01 : Kp (fun _ => False) s (s1 ++ [Ob.lst []]) := (k1.mono fun p hp z => by omega).trans Kp.push
    generalize s1 ++ [Ob.lst []] = s2 at k01 ⊢
    unfold b_law_row_right_1_2
    walk_at "run"
    rw [ne_cl]
    walk_at "run"
    have hN : ∃ N : Nat, ((n : Int) - 1) * (if (!decide (cl = some 0)) = true then 1 else 0) = (N : Int) ∧ N ≤ n - 1 ∧ (cl = some 0 → N = 0) := by
      by_cases c : cl = some 0
      · rw [decide_eq_true c]
        exact ⟨0, by simp, by omega, fun _ => rfl⟩
      · rw [decide_eq_false c]
        exact ⟨n - 1, by simp; omega, Nat.le_refl _, fun z => absurd z c⟩
    obtain ⟨N, hN1, hN2, hN3⟩ := hN
    have hm : mulOk ((n : Int) - 1) (if (!decide (cl = some 0)) = true then 1 else 0) := mul_small (by omega) (by omega) (by split <;> decide) (by split <;> decide)
    rw [hN1]
    refine ⟨hm, ⟨by decide, by decide, by omega, by omega⟩, ?_⟩
    refine for_at (I := fun i σ s' => (∃ v6 v7 v8, σ = [some (.tup (rowP S n v)), some (.ref q), some (.ref r), some (.ref u), some (oD cl), some (.int n), v6, v7, v8]) ∧ Kp (fun _ => False) s2 s') ⟨⟨_, _, _, rfl⟩, Kp.refl _ _⟩ ?_ ?_
    · rintro k it σ s3 N' hit ⟨⟨v6, v7, v8, rfl⟩, k3⟩ hNN
      obtain ⟨hk, rfl⟩ := rngN_of hit
      have hcl : cl ≠ some 0 := fun z => by have := hN3 z; omega
      refine ⟨trivial, ?_⟩
      have k03 := k01.trans k3
      have u3 := k03.get _ _ id hu
      have q3 := k03.get _ _ id hq
      unfold b_law_row_right_2
      walk_at "run"
      rw [show (k : Int) + 1 = ((k + 1 : Nat) : Int) by omega]
      refine ix_ref u3 (vD_at (by omega)) (ix_ref u3 (vD_at (by omega)) ?_)
      walk_at "run"
      have hq3 := lt_of_get q3
      refine lc_at (I := fun i acc s' => s'[s3.length]? = some (.lst acc) ∧ (∃ ps : List (List Int), acc = ps.map (fun p => .tup (p.map .int)) ∧ ps.length ≤ i ∧ (ps = [] → ∀ m, m < i → pv S n v m (pl k) - pv S n v m (pl (k + 1)) = su (k + 1) - su k)) ∧ Kp (fun p => p = s3.length) s3 s') (fun i acc s h => h.1) ⟨get_new, ⟨[], rfl, Nat.le_refl _, fun _ m hm => absurd hm (Nat.not_lt_zero _)⟩, Kp.push⟩ ?_ ?_
      · rintro i x acc s4 hx ⟨hg4, ⟨ps, rfl, hp1, hp2⟩, k4⟩
        obtain ⟨hi, rfl⟩ := row_of hx
        have q4 := k4.get _ _ (by omega) q3
        refine ⟨trivial, ?_⟩
        unfold i_law_row_right_1 l_law_row_right_1
        simp only [wipeS]
        rw [ptD_L]
        walk_at "run"
        rw [show (k : Int) + 1 = ((k + 1 : Nat) : Int) by omega]
        have pat : ∀ x, x < n → L2.atI ((ptL S n v i).map D.int) (x : Int) = some (.int (pv S n v i x)) := fun x hx => by
          unfold ptL
          rw [atI_k, List.getElem?_map, List.getElem?_map, List.getElem?_range hx]
          rfl
        refine ix_ref q4 (uD_at (by omega)) (ix_tup (pat _ (P.lt _ (by omega))) ?_)
        refine ix_ref q4 (uD_at (by omega)) (ix_tup (pat _ (P.lt _ (by omega))) ?_)
        walk_at "run"
        refine br_ndec (fun hd => ?_) (fun hd => ?_)
        · refine ⟨hg4, by rw [List.length_map]; omega, get_set hg4, ⟨ps ++ [ptL S n v i], by rw [List.map_append]; rfl, by rw [List.length_append, List.length_singleton]; omega, fun z => absurd z (by simp)⟩, k4.trans (Kp.set rfl)⟩
        · rw [if_neg (by decide)]
          refine ⟨hg4, ⟨ps, rfl, by omega, fun z m hm => ?_⟩, k4⟩
          by_cases c : m = i
          · subst c; exact hd
          · exact hp2 z m (by omega)
      · rintro acc s4 ⟨hg4, ⟨ps, rfl, hp1, hp2⟩, k4⟩
        rw [rl] at hp2
        refine ⟨trivial, by decide, ?_⟩
        have hne : ps ≠ [] := fun z => pv_part (v := v) g.clo (P.lt k (by omega)) (P.lt (k + 1) (by omega)) (hp hcl k (by omega)) (hp2 z)
        rw [pts_nil hg4 hne]
        walk_at "run"
        exact hNN.nx _ _ ⟨⟨_, _, _, rfl⟩, k3.trans ((k4.mono fun p hp z => by omega).trans Kp.push)⟩
    · rintro σ s3 ⟨⟨v6, v7, v8, rfl⟩, k3⟩
      refine ⟨trivial, ?_⟩
      unfold b_law_row_right_1_3
      walk_at "run"
      exact h s3 (k01.trans k3)
end
end K33

set_option exponentiation.threshold 2000
namespace K33
open PySem PX Wy
section
variable {j : Nat} {E : XQ}
theorem tab_at {S : Mt} {n x y : Nat} {s : Sto} {Q : QE} (hx : x < n) (hy : y < n) (h : Q (oD (S x y)) s) : xIx (tabD S n) (.int 1) s (fun t s1 => xIx t (.int (x : Int)) s1 fun t s2 => xIx t (.int (y : Int)) s2 Q) := by
  unfold tabD
  rw [PX.x1]
  refine ix_tup (v := .tup (rowD (S x) n)) (by rw [atI_k, List.getElem?_map, List.getElem?_range hx]; rfl) ?_
  exact ix_tup (rowD_at hy) h
theorem mod_off {n i d : Nat} (hi : i < n) (hd : d < n - 1) : (i + 1 + d) % n < n ∧ (i + 1 + d) % n ≠ i := by
  refine ⟨Nat.mod_lt _ (by omega), ?_⟩
  by_cases c : i + 1 + d < n
  · rw [Nat.mod_eq_of_lt c]; omega
  · rw [Nat.mod_eq_sub_mod (by omega), Nat.mod_eq_of_lt (by omega)]; omega
theorem asked_ok {b r q t u n : Nat} {pl ix : Nat → Nat} {su : Nat → Int} {cl : Option Int} {fa : List Ft} {s : Sto} (hs : Src b s r) (hb : b < 2 ^ 58) (P : Pl n pl ix) (O : Onto n pl ix) (hn1 : 1 < n) (hn : n < 800) (hq : s[q]? = some (.lst (uD pl n))) (hu : s[u]? = some (.lst (vD su n))) (ht : s[t]? = some (.lst (fa.map eD))) (hqr : q ≠ r) (hur : u ≠ r) (htr : t ≠ r)
    (h0 : su 0 = 0) (sb : ∀ i, i < n → InB (10 ^ 59) (su i)) (hc : ∀ c, cl = some c → 0 ≤ c ∧ c ≤ 5) (hF : ChF n pl su cl fa) (fl : fa.length < 900) (fb : ∀ f ∈ fa, InB (10 ^ 62) f.2.2) {Q : QE}
    (h : ∀ s', Kp (fun p => p = r) s s' → Src (b + 3) s' r → Q (.bl true) s') : Lv TT (j + 6) i_law_asked [.ref r, .ref q, .ref t, .ref u, oD cl] s Q E := by
  have hc0 : ∀ c, cl = some c → 0 ≤ c := fun c z => (hc c z).1
  have o : FOk n fa (fun x => -su (ix x)) := ⟨by omega, by omega, fl, fun f hf => by
    rcases hF.up f hf with ⟨i, j, h1, h2, e1, e2, _⟩ | ⟨c, _, rfl⟩
    · rw [e1, e2]; exact ⟨P.lt i (by omega), P.lt j h2⟩
    · exact ⟨P.lt _ (by omega), P.lt _ (by omega)⟩, ch_sol P (by omega) h0 hc0 hF, fb, fun i hi => by
    have := sb _ (O i hi).1
    exact ⟨by have := this.2; omega, by have := this.1; omega⟩⟩
  refine lv_in (fn := d_law_asked.fn) rfl rfl ?_
  dsimp only [d_law_asked, b_law_asked_1]
  walk_at "run"
  have e24 := size24
  refine len_ref hq ?_
  rw [uD_len]
  refine draw_kp hDraw hs (by omega) (div_nat (by omega) (by omega)) fun i s1 i0 i1 k1 l1 hs1 => ?_
  obtain ⟨i, rfl⟩ := Int.eq_ofNat_of_zero_le i0
  unfold b_law_asked_1_1
  walk_at "run"
  rw [show (n : Int) - 1 = ((n - 1 : Nat) : Int) by omega]
  refine draw_kp hDraw hs1 (by omega) (div_nat (by omega) (by omega)) fun d s2 d0 d1 k2 l2 hs2 => ?_
  obtain ⟨d, rfl⟩ := Int.eq_ofNat_of_zero_le d0
  walk_at "run"
  refine ⟨by omega, ?_⟩
  have hi : i < n := by omega
  obtain ⟨hc1, hc2⟩ := mod_off (d := d) hi (by omega)
  rw [show ((i : Int) + 1 + d) % n = (((i + 1 + d) % n : Nat) : Int) by norm_cast]
  generalize (i + 1 + d) % n = c at hc1 hc2 ⊢
  have k02 := k1.trans k2
  have ht2 := k02.get _ _ htr ht
  have hq2 := k02.get _ _ hqr hq
  have hu2 := k02.get _ _ hur hu
  unfold b_law_asked_1_2
  walk_at "run"
  refine lst_ref ht2 ?_
  refine Lv_le (k := j + 4) (by omega) (least_ok o.hn o.hn0 (by have := o.hf; omega) (.inr ⟨_, rfl, get_new⟩) o.ed o.sol fun s3 S F g k3 => ?_)
  have g3 := k3.get _ _ id get_new
  have k23 : Kp (fun _ => False) s2 s3 := Kp.push.trans k3
  have ht3 := k23.get _ _ id ht2
  have hq3 := k23.get _ _ id hq2
  have hu3 := k23.get _ _ id hu2
  have hS : ∀ x y, x < n → y < n → S (pl x) (pl y) = lowV su cl x y := fun x y hx hy => ch_S P (by omega) h0 hc0 hF g hx hy
  unfold b_law_asked_1_3
  walk_at "run"
  rw [eq_facts g3 ht3]
  walk_at "run"
  refine Lv_le (k := j + 1) (by omega) (table_ok fun s4 k4 => ?_)
  walk_at "run"
  unfold b_law_asked_1_4
  walk_at "run"
  refine ⟨⟨by decide, by decide, by omega, by omega⟩, ?_⟩
  refine for_at (I := fun i' σ s' => (∃ v10, σ = [some (.ref r), some (.ref q), some (.ref t), some (.ref u), some (oD cl), some (.int n), some (.int i), some (.int c), some (.ref s2.length), some (tabD S n), v10, none, none, none]) ∧ s' = s4) ⟨⟨_, rfl⟩, rfl⟩ ?_ ?_
  · rintro k it σ s5 N' hit ⟨⟨v10, rfl⟩, rfl⟩ hN
    obtain ⟨hk, rfl⟩ := rngN_of hit
    refine ⟨trivial, ?_⟩
    have hq4 := k4.get _ _ id hq3
    have hu4 := k4.get _ _ id hu3
    unfold b_law_asked_7
    walk_at "run"
    have two : ∀ {x y : Nat} {Q : QE}, x < n → y < n → Q (oD (lowV su cl x y)) s5 → xIx (tabD S n) (.int 1) s5 (fun t s1 => xIx (.ref q) (.int (x : Int)) s1 fun p s1 => xIx t p s1 fun t s2 => xIx (.ref q) (.int (y : Int)) s2 fun p s2 => xIx t p s2 Q) := fun {x y Q} hx hy hQ => by
      unfold tabD
      rw [PX.x1]
      refine ix_ref hq4 (uD_at hx) (ix_tup (v := .tup (rowD (S (pl x)) n)) (by rw [atI_k, List.getElem?_map, List.getElem?_range (P.lt x hx)]; rfl) (ix_ref hq4 (uD_at hy) (ix_tup (rowD_at (P.lt y hy)) ?_)))
      rw [hS x y hx hy]
      exact hQ
    refine two hi hk (low_ok hu4 hi hk (Lv_le (k := j + 2) (by omega) (entry_ok ?_)))
    walk_at "run"
    unfold b_law_asked_7_1
    walk_at "run"
    refine two hk hi (low_ok hu4 hk hi (Lv_le (k := j + 2) (by omega) (entry_ok ?_)))
    walk_at "run"
    exact hN.nx _ _ ⟨⟨_, rfl⟩, rfl⟩
  rintro σ s5 ⟨⟨v10, rfl⟩, rfl⟩
  refine ⟨trivial, ?_⟩
  have k24 := k23.trans k4
  have ht4 := k24.get _ _ id ht2
  have hq4 := k24.get _ _ id hq2
  have hu4 := k24.get _ _ id hu2
  have hs4 : Src (b + 1 + 1) s5 r := hs2.kp k24 id
  unfold b_law_asked_1_5
  walk_at "run"
  refine low_ok hu4 hi hc1 ?_
  unfold b_law_asked_1_6
  walk_at "run"
  refine draw_kp hDraw hs4 (by omega) (dv 2001) fun z s6 z0 z1 k6 l6 hs6 => ?_
  have ht6 := k6.get _ _ htr ht4
  have hq6 := k6.get _ _ hqr hq4
  have hu6 := k6.get _ _ hur hu4
  unfold b_law_asked_1_7
  walk_at "run"
  have k06 : Kp (fun p => p = r) s s6 := k02.trans ((k24.mono fun _ _ z => z.elim).trans k6)
  have rest : ∀ num : Int, InB (10 ^ 60) (0 - num) → (cl = some 0 → lowV su cl i c = some num) → xSs (Lv TT (j + 5)) b_law_asked_1_8 [some (.ref r), some (.ref q), some (.ref t), some (.ref u), some (oD cl), some (.int n), some (.int i), some (.int c), some (.ref s2.length), some (tabD S n), v10, some (oD (lowV su cl i c)), some (.int num), none] s6 { nx := fun σ s' => Q .non s', rt := Q, bk := fun σ s => False, ct := fun σ s => False, ex := fun c fs σ s' => E c fs s' } := fun num hnum hl => by
    unfold b_law_asked_1_8
    walk_at "run"
    refine ⟨by decide, it_ref get_new ?_⟩
    have g6 : (s6 ++ [Ob.lst [.int num, .int (num - 1)]])[s6.length]? = some (.lst [.int num, .int (num - 1)]) := get_new
    have k67 : Kp (fun _ => False) s6 (s6 ++ [Ob.lst [.int num, .int (num - 1)]]) := Kp.push
    generalize s6 ++ [Ob.lst [.int num, .int (num - 1)]] = s7 at g6 k67 ⊢
    refine for_at (I := fun i' σ s' => (∃ v13, σ = [some (.ref r), some (.ref q), some (.ref t), some (.ref u), some (oD cl), some (.int n), some (.int i), some (.int c), some (.ref s2.length), some (tabD S n), v10, some (oD (lowV su cl i c)), some (.int num), v13]) ∧ Kp (fun _ => False) s7 s') ⟨⟨_, rfl⟩, Kp.refl _ _⟩ ?_ ?_
    · rintro i' it σ s8 N' hit ⟨⟨v13, rfl⟩, k8⟩ hN
      refine ⟨k8.get _ _ id g6, ?_⟩
      have : ∃ k : Int, it = .int k := by
        have := List.mem_of_getElem? hit
        simp only [List.mem_cons, List.not_mem_nil, or_false] at this
        rcases this with rfl | rfl <;> exact ⟨_, rfl⟩
      obtain ⟨k, rfl⟩ := this
      have k68 := k67.trans k8
      have ht8 := k68.get _ _ id ht6
      have hq8 := k68.get _ _ id hq6
      unfold b_law_asked_4
      walk_at "run"
      refine ix_ref hq8 (uD_at hi) (ix_ref hq8 (uD_at hc1) ?_)
      rw [← hS i c hi hc1]
      refine followed_ok o ht8 g (P.lt i hi) (P.lt c hc1) fun s9 k9 => ?_
      walk_at "run"
      rw [hS i c hi hc1]
      exact hN.nx _ _ ⟨⟨_, rfl⟩, k8.trans k9⟩
    · rintro σ s8 ⟨⟨v13, rfl⟩, k8⟩
      refine ⟨k8.get _ _ id g6, ?_⟩
      have k68 := k67.trans k8
      have ht8 := k68.get _ _ id ht6
      have hq8 := k68.get _ _ id hq6
      have hu8 := k68.get _ _ id hu6
      unfold b_law_asked_1_9
      walk_at "run"
      refine lst_ref ht8 ?_
      refine Lv_le (k := j + 4) (by omega) (ties_ok o.hn o.hn0 (by have := o.hf; omega) (.inr ⟨_, rfl, get_new⟩) o.ed o.sol fun s9 S' F' g' k9 => ?_)
      have k89 : Kp (fun _ => False) s8 s9 := Kp.push.trans k9
      refine Lv_le (k := j + 2) (by omega) (ties_right_ok P O o.hn o.hn0 (k89.get _ _ id hq8) (k89.get _ _ id hu8) (tiedL_ch P O o.hn0 h0 hc0 hF g') fun s10 k10 => ?_)
      walk_at "run"
      have k810 := k89.trans k10
      have ht10 := k810.get _ _ id ht8
      have hq10 := k810.get _ _ id hq8
      have hu10 := k810.get _ _ id hu8
      unfold b_law_asked_1_10
      walk_at "run"
      refine tup_ref ht10 ?_
      refine Lv_le (k := j + 4) (by omega) (rowg_ok o (.inl rfl) fun s11 S'' F'' v g'' lv k11 => ?_)
      refine Lv_le (k := j + 3) (by omega) (row_right_ok P o (k11.get _ _ id hq10) (k11.get _ _ id hu10) (k11.get _ _ id ht10) g'' lv (fun hne k hk => ch_part P (by omega) h0 hc0 hne hF g'' (by omega) hk (by omega)) fun s12 k12 => ?_)
      walk_at "run"
      have k1012 := k11.trans k12
      have ht12 := k1012.get _ _ id ht10
      have hq12 := k1012.get _ _ id hq10
      unfold b_law_asked_1_11
      walk_at "run"
      refine ix_ref hq12 (uD_at hi) (ix_ref hq12 (uD_at hc1) ?_)
      rw [eq_cl]
      walk_at "run"
      refine parted_ok o ht12 g (P.lt i hi) (P.lt c hc1) (fun z => hc2 (P.inj hi hc1 z).symm) hnum (fun hb => ?_) (fun hb => ?_) fun s13 k13 => ?_
      · have hcl : cl = some 0 := of_decide_eq_true hb
        have e1 := hl hcl
        rw [hS i c hi hc1, hS c i hc1 hi, e1]
        refine ⟨by congr 1; omega, ?_⟩
        subst hcl
        unfold lowV at e1 ⊢
        dsimp only at e1 ⊢
        split at e1
        · have := Option.some.inj e1
          rw [if_neg (by omega)]
          congr 1
          omega
        · have := Option.some.inj e1
          rw [if_pos (by omega)]
          congr 1
          omega
      · exact ch_part P (by omega) h0 hc0 (of_decide_eq_false hb) hF g hi hc1 (fun z => hc2 z.symm)
      · refine h s13 (k06.trans ((k68.trans (k810.trans (k1012.trans k13))).mono fun _ _ z => z.elim)) (hs6.kp (k68.trans (k810.trans (k1012.trans k13))) id)
  have b1 := sb i hi
  have b2 := sb c hc1
  have := b1.1
  have := b1.2
  have := b2.1
  have := b2.2
  cases e : lowV su cl i c with
  | none =>
    rw [e] at rest
    simp only [oD] at rest ⊢
    walk_at "run"
    refine rest (z - 1000) ⟨by omega, by omega⟩ fun hcl => ?_
    subst hcl
    unfold lowV at e
    dsimp only at e
    split at e <;> cases e
  | some a =>
    rw [e] at rest
    simp only [oD] at rest ⊢
    walk_at "run"
    unfold b_law_asked_6
    walk_at "run"
    refine rest a ?_ fun _ => rfl
    unfold lowV at e
    split at e
    · have := Option.some.inj e
      exact ⟨by omega, by omega⟩
    · cases cl with
      | none => cases e
      | some k =>
        have := hc k rfl
        have := Option.some.inj e
        exact ⟨by omega, by omega⟩
end
end K33

set_option exponentiation.threshold 2000
namespace K33
open PySem PX Wy
theorem atI_last {α : Type} {xs : List α} {n : Nat} (hl : xs.length = n) (h0 : 0 < n) : L2.atI xs (-1) = xs[n - 1]? := by
  unfold L2.atI L2.ixN
  rw [if_neg (by decide), if_pos (by omega)]
  show xs[((xs.length : Int) + -1).toNat]? = _
  congr 1
  omega
theorem ins_ref {s : Sto} {n i : Nat} {xs : List D} {v : D} {Q : QE} (hs : s[n]? = some (.lst xs)) (hl : xs.length < sizeLine) (hi : i < 1000000) (h : Q .non (s.set n (.lst (xs.take i ++ [v] ++ xs.drop i)))) : xMeth .insert (.ref n) [.int i, v] s Q := by
  simp only [xMeth, hs]
  refine ⟨⟨hl, by omega, by omega⟩, ?_⟩
  rw [Int.toNat_natCast]
  exact h
/-- with the closing difference put in -/
def insF (fa : List Ft) (a : Nat) (f : Ft) : List Ft := fa.take a ++ [f] ++ fa.drop a
theorem insF_mem {fa : List Ft} {a : Nat} {f g : Ft} : g ∈ insF fa a f ↔ g = f ∨ g ∈ fa := by
  unfold insF
  rw [List.mem_append, List.mem_append, List.mem_singleton]
  have : g ∈ fa ↔ g ∈ fa.take a ∨ g ∈ fa.drop a := by rw [← List.mem_append, List.take_append_drop]
  rw [this]
  constructor
  · rintro ((h | h) | h)
    · exact .inr (.inl h)
    · exact .inl h
    · exact .inr (.inr h)
  · rintro (h | h | h)
    · exact .inl (.inr h)
    · exact .inl (.inl h)
    · exact .inr h
theorem insF_len {fa : List Ft} {a : Nat} {f : Ft} : (insF fa a f).length = fa.length + 1 := by
  unfold insF
  simp only [List.length_append, List.length_take, List.length_drop, List.length_singleton]
  omega
theorem insF_map {fa : List Ft} {a : Nat} {f : Ft} : (fa.map eD).take a ++ [eD f] ++ (fa.map eD).drop a = (insF fa a f).map eD := by
  unfold insF
  rw [List.map_append, List.map_append, List.map_take, List.map_drop]
  rfl
section
variable {j : Nat} {E : XQ}
theorem on_chain_ok {b r n : Nat} {s : Sto} (hs : Src b s r) (hb : b < 2 ^ 57) (hn8 : 1 < n) (hn : n ≤ 100) {Q : QE} (h : ∀ s', Q (.bl true) s') : Lv TT (j + 7) i_law_on_chain [.ref r, .int n] s Q E := by
  refine lv_in (fn := d_law_on_chain.fn) rfl rfl ?_
  dsimp only [d_law_on_chain, b_law_on_chain_1]
  walk_at "run"
  have e24 := size24
  have hr0 := hs.lt
  refine Lv_le (k := j + 2) (by omega) (around_ok hs (by omega) (by omega) (by omega) fun s1 q pl ix P O k1 hs1 hq hql => ?_)
  have hql1 := lt_of_get hq
  unfold b_law_on_chain_1_1
  walk_at "run"
  refine ⟨by decide, ?_⟩
  have g1 : (s1 ++ [Ob.lst [D.int 0]])[s1.length]? = some (.lst ([(0 : Int)].map D.int)) := get_new
  have q1 := get_old (r := [Ob.lst [D.int 0]]) hq
  have hs1' : Src (b + 10) (s1 ++ [Ob.lst [D.int 0]]) r := hs1.push
  have l1 : (s1 ++ [Ob.lst [D.int 0]]).length = s1.length + 1 := by simp
  have hk1 := k1.len
  generalize s1 ++ [Ob.lst [D.int 0]] = s2 at g1 q1 hs1' l1 ⊢
  rw [show (n : Int) - 1 = ((n - 1 : Nat) : Int) by omega]
  refine Lv_le (k := j + 2) (by omega) (lengths_ok hs1' (by omega) (by omega) fun s3 w us0 usl usb k3 hs3 hw hwl => ?_)
  refine it_ref hw ?_
  have hwl3 := lt_of_get hw
  have g3 := k3.get _ _ (by omega) g1
  have q3 := k3.get _ _ (by omega) q1
  refine for_at (I := fun i σ s' => ∃ (us : List Int) (v4 : Option D), us.length = i + 1 ∧ us[0]? = some 0 ∧ (∀ t ∈ us, InB ((i : Int) * 10 ^ 57) t) ∧ σ = [some (.ref r), some (.int n), some (.ref q), some (.ref s1.length), v4, none, none, none, none, none] ∧ s'[s1.length]? = some (.lst (us.map .int)) ∧ Kp (fun p => p = s1.length) s3 s') ⟨[0], _, rfl, rfl, fun t ht => by
    rw [List.mem_singleton.mp ht]; exact ⟨by decide, by decide⟩, rfl, g3, Kp.refl _ _⟩ ?_ ?_
  · rintro i it σ s4 N' hit ⟨us, v4, u1, u2, u3, rfl, g4, k4⟩ hN
    refine ⟨k4.get _ _ (by omega) hw, ?_⟩
    rw [List.getElem?_map] at hit
    cases e : us0[i]? with
    | none => rw [e] at hit; cases hit
    | some z =>
    rw [e] at hit
    cases hit
    have hi := (List.getElem?_eq_some_iff.mp e).1
    have zb := usb z (List.mem_of_getElem? e)
    unfold b_law_on_chain_6
    walk_at "run"
    have hl : (us.map D.int).length = i + 1 := by rw [List.length_map, u1]
    refine ⟨mty_ref g4 rfl, ?_⟩
    have lastg : us[i]? = some (us.getD i 0) := by rw [List.getD_eq_getElem?_getD, List.getElem?_eq_getElem (by omega)]; rfl
    refine ix_ref g4 (v := .int (us.getD i 0)) (by rw [atI_last hl (by omega), Nat.add_sub_cancel, List.getElem?_map, lastg]; rfl) ?_
    walk_at "run"
    refine app_ref g4 (by omega) ?_
    have lb := u3 _ (List.mem_of_getElem? lastg)
    have e2 : ((i + 1 : Nat) : Int) * 10 ^ 57 = (i : Int) * 10 ^ 57 + 10 ^ 57 := by rw [Int.natCast_add, Int.add_mul]; omega
    refine hN.nx _ _ ⟨us ++ [us.getD i 0 + z], _, by rw [List.length_append, List.length_singleton]; omega, by rw [List.getElem?_append_left (by omega)]; exact u2, fun t ht => ?_, rfl, by rw [get_set g4, List.map_append]; rfl, k4.trans (Kp.set rfl)⟩
    rw [e2]
    rcases List.mem_append.mp ht with ht | ht
    · exact (u3 t ht).mono (by omega)
    · rw [List.mem_singleton.mp ht]
      exact ⟨by have := lb.1; have := zb.1; omega, by have := lb.2; have := zb.2; omega⟩
  rintro σ s4 ⟨us, v4, u1, u2, u3, rfl, g4, k4⟩
  rw [List.length_map, usl] at u1 u3
  refine ⟨k4.get _ _ (by omega) hw, ?_⟩
  have un : us.length = n := by omega
  rw [vD_list, un] at g4
  have su0 : us.getD 0 0 = 0 := by rw [List.getD_eq_getElem?_getD, u2]; rfl
  have sub : ∀ i, i < n → InB (10 ^ 59) (us.getD i 0) := fun i hi => by
    have : us[i]? = some (us.getD i 0) := by rw [List.getD_eq_getElem?_getD, List.getElem?_eq_getElem (by omega)]; rfl
    refine (u3 _ (List.mem_of_getElem? this)).mono ?_
    have : ((n - 1 : Nat) : Int) * 10 ^ 57 ≤ 100 * 10 ^ 57 := Int.mul_le_mul_of_nonneg_right (by omega) (by decide)
    omega
  generalize hsu : (fun i => us.getD i 0) = su at g4
  have su0 : su 0 = 0 := by rw [← hsu]; exact su0
  have sub : ∀ i, i < n → InB (10 ^ 59) (su i) := fun i hi => by rw [← hsu]; exact sub i hi
  have q4 := k4.get _ _ (by omega) q3
  have hs4 : Src (b + 1100) s4 r := (hs3.kp k4 (by omega)).mono (by omega)
  have l34 := k4.len
  have l23 := k3.len
  unfold b_law_on_chain_1_2
  walk_at "run"
  refine Lv_le (k := j + 2) (by omega) (chain_ok hs4 (by omega) (by omega) (by omega) q4 g4 (by omega) (by omega) (fun i hi => (sub i hi).mono (by omega)) fun s5 t fa C k5 hs5 ht htl => ?_)
  have q5 := k5.get _ _ (by omega) q4
  have g5 := k5.get _ _ (by omega) g4
  have htl5 := lt_of_get ht
  have l45 := k5.len
  unfold b_law_on_chain_1_3
  walk_at "run"
  refine draw_kp hDraw hs5 (by omega) (dv 5) fun z s6 z0 z1 k6 l6 hs6 => ?_
  walk_at "run"
  have q6 := k6.get _ _ (by omega) q5
  have g6 := k6.get _ _ (by omega) g5
  have ht6 := k6.get _ _ (by omega) ht
  have htr : t ≠ r := by omega
  have hqr : q ≠ r := by omega
  have hur : s1.length ≠ r := by omega
  unfold b_law_on_chain_1_4
  walk_at "run"
  refine ⟨by decide, ?_⟩
  have cl6 : (s6 ++ [Ob.lst [D.non, D.int 0, D.int (1 + z)]])[s6.length]? = some (.lst ([none, some 0, some (1 + z)].map oD)) := get_new
  have k67 : Kp (fun _ => False) s6 (s6 ++ [Ob.lst [D.non, D.int 0, D.int (1 + z)]]) := Kp.push
  have l67 : (s6 ++ [Ob.lst [D.non, D.int 0, D.int (1 + z)]]).length = s6.length + 1 := by simp
  generalize s6 ++ [Ob.lst [D.non, D.int 0, D.int (1 + z)]] = s7 at cl6 k67 l67 ⊢
  have hs7 : Src (b + 1202) s7 r := (hs6.kp k67 id).mono (by omega)
  have q7 := k67.get _ _ id q6
  have g7 := k67.get _ _ id g6
  have t7 := k67.get _ _ id ht6
  have hu1 : s1.length < s7.length := lt_of_get g7
  have clok : ∀ c ∈ [none, some 0, some (1 + z)], ∀ k, c = some k → 0 ≤ k ∧ k ≤ 5 := fun c hc k e => by
    simp only [List.mem_cons, List.not_mem_nil, or_false] at hc
    rcases hc with rfl | rfl | rfl
    · cases e
    · cases e; omega
    · cases e; omega
  -- the closings
  have rest : ∀ (cr : Nat) (cs : List (Option Int)) (s8 : Sto), cs.length < 100 → (∀ c ∈ cs, ∀ k, c = some k → 0 ≤ k ∧ k ≤ 5) → s8[cr]? = some (.lst (cs.map oD)) → cr ≠ r → Src (b + 1203) s8 r → Kp (fun p => p = r) s7 s8 → xSs (Lv TT (j + 6)) b_law_on_chain_1_5 [some (.ref r), some (.int n), some (.ref q), some (.ref s1.length), v4, some (.ref t), some (.ref cr), none, none, none] s8 { nx := fun σ s' => Q .non s', rt := Q, bk := fun σ s => False, ct := fun σ s => False, ex := fun c fs σ s' => E c fs s' } := fun cr cs s8 csl csk hcr hcrr hs8 k78 => by
    have q8 := k78.get _ _ hqr q7
    have g8 := k78.get _ _ hur g7
    have t8 := k78.get _ _ htr t7
    unfold b_law_on_chain_1_5
    walk_at "run"
    refine len_ref t8 ?_
    rw [List.length_map]
    have cp := C.pos
    have clen := C.len
    refine draw_kp hDraw hs8 (by omega) (div_nat cp (by omega)) fun a s9 a0 a1 k9 l9 hs9 => ?_
    obtain ⟨a, rfl⟩ := Int.eq_ofNat_of_zero_le a0
    have q9 := k9.get _ _ hqr q8
    have g9 := k9.get _ _ hur g8
    have t9 := k9.get _ _ htr t8
    have c9 := k9.get _ _ hcrr hcr
    unfold b_law_on_chain_1_6
    walk_at "run"
    refine it_ref c9 ?_
    -- the closing fact is made
    have tup : ∀ {s' : Sto} {x : Int} {K : D → D → D → Sto → Prop}, s'[q]? = some (.lst (uD pl n)) → s'[s1.length]? = some (.lst (vD su n)) → K (.int (pl (n - 1))) (.int (pl 0)) (.int (x - su (n - 1))) s' → xIx (.ref q) (.int (-1)) s' (fun a s1' => xIx (.ref q) (.int 0) s1' fun b s2' => xIx (.ref s1.length) (.int (-1)) s2' fun c s3' => xBin .Sub (.int x) c s3' fun d s4' => K a b d s4') := fun {s' x K} h1 h2 h3 => by
      refine ix_ref h1 (v := .int (pl (n - 1))) (by rw [atI_last uD_len (by omega), ← atI_k]; exact uD_at (by omega)) ?_
      refine ix_ref h1 (uD_at (i := 0) (by omega)) ?_
      refine ix_ref h2 (v := .int (su (n - 1))) (by rw [atI_last vD_len (by omega), ← atI_k]; exact vD_at (by omega)) ?_
      exact h3
    have fbd : ∀ c : Int, -1 ≤ c → c ≤ 5 → ∀ f ∈ insF fa a (ClF n pl su c), InB (10 ^ 62) f.2.2 := fun c c0 c1 f hf => by
      rcases insF_mem.mp hf with rfl | hf
      · have := sub (n - 1) (by omega)
        unfold ClF
        exact ⟨by have := this.2; dsimp only; omega, by have := this.1; dsimp only; omega⟩
      · exact (C.up f hf).2.mono (by omega)
    refine for_at (I := fun i σ s' => (∃ v8 v9, σ = [some (.ref r), some (.int n), some (.ref q), some (.ref s1.length), v4, some (.ref t), some (.ref cr), some (.int a), v8, v9]) ∧ Kp (fun p => p = r) s9 s' ∧ Src (b + 1204 + 3 * i) s' r) ⟨⟨_, _, rfl⟩, Kp.refl _ _, hs9⟩ ?_ ?_
    · rintro i it σ s10 N' hit ⟨⟨v8, v9, rfl⟩, k10, hs10⟩ hN
      have hil := (List.getElem?_eq_some_iff.mp hit).1
      rw [List.length_map] at hil
      refine ⟨k10.get _ _ hcrr c9, ?_⟩
      rw [List.getElem?_map] at hit
      cases e : cs[i]? with
      | none => rw [e] at hit; cases hit
      | some cl =>
      rw [e] at hit
      cases hit
      have ck := csk cl (List.mem_of_getElem? e)
      have q10 := k10.get _ _ hqr q9
      have g10 := k10.get _ _ hur g9
      have t10 := k10.get _ _ htr t9
      unfold b_law_on_chain_2
      walk_at "run"
      refine lst_ref t10 ?_
      have f11 : (s10 ++ [Ob.lst (fa.map eD)])[s10.length]? = some (.lst (fa.map eD)) := get_new
      have k11 : Kp (fun _ => False) s10 (s10 ++ [Ob.lst (fa.map eD)]) := Kp.push
      have hr10 := hs10.lt
      have hq10 := lt_of_get q10
      have hu10 := lt_of_get g10
      generalize s10 ++ [Ob.lst (fa.map eD)] = s11 at f11 k11 ⊢
      have q11 := k11.get _ _ id q10
      have g11 := k11.get _ _ id g10
      have hs11 := hs10.kp k11 id
      walk_at "run"
      cases cl with
      | none =>
        simp only [oD]
        walk_at "run"
        unfold b_law_on_chain_2_1
        walk_at "run"
        refine asked_ok (cl := none) hs11 (by omega) P O (by omega) (by omega) q11 g11 f11 hqr hur (by omega) su0 sub ck ⟨fun f hf => .inl (C.up f hf).1, C.ch, fun c z => by cases z⟩ (by omega) (fun f hf => (C.up f hf).2.mono (by omega)) fun s12 k12 hs12 => ?_
        walk_at "run"
        exact hN.nx _ _ ⟨⟨_, _, rfl⟩, k10.trans ((k11.mono fun _ _ z => z.elim).trans k12), hs12.mono (by omega)⟩
      | some c =>
        simp only [oD]
        walk_at "run"
        unfold b_law_on_chain_4
        walk_at "run"
        refine ⟨mty_ref f11 rfl, tup q11 g11 ?_⟩
        refine ⟨by decide, ins_ref (v := eD (ClF n pl su c)) f11 (by rw [List.length_map]; omega) (by omega) ?_⟩
        rw [insF_map]
        have f12 := get_set (o' := Ob.lst ((insF fa a (ClF n pl su c)).map eD)) f11
        have k12 : Kp (fun p => p = s10.length) s11 (s11.set s10.length (.lst ((insF fa a (ClF n pl su c)).map eD))) := Kp.set rfl
        generalize s11.set s10.length (.lst ((insF fa a (ClF n pl su c)).map eD)) = s12 at f12 k12 ⊢
        have q12 := k12.get _ _ (by omega) q11
        have g12 := k12.get _ _ (by omega) g11
        have hs12 := hs11.kp k12 (by omega)
        unfold b_law_on_chain_2_1
        walk_at "run"
        have cc := ck c rfl
        refine asked_ok (cl := some c) hs12 (by omega) P O (by omega) (by omega) q12 g12 f12 hqr hur (by omega) su0 sub ck ⟨fun f hf => ?_, fun k hk => insF_mem.mpr (.inr (C.ch k hk)), fun c' z => by cases z; exact insF_mem.mpr (.inl rfl)⟩ (by rw [insF_len]; omega) (fbd c (by omega) (by omega)) fun s13 k13 hs13 => ?_
        · rcases insF_mem.mp hf with rfl | hf
          · exact .inr ⟨c, rfl, rfl⟩
          · exact .inl (C.up f hf).1
        · walk_at "run"
          exact hN.nx _ _ ⟨⟨_, _, rfl⟩, k10.trans ((((k11.mono (r' := fun p => p = s10.length) fun _ _ z => z.elim).trans k12).mono fun p hp z => by omega).trans k13), hs13.mono (by omega)⟩
    · rintro σ s10 ⟨⟨v8, v9, rfl⟩, k10, hs10⟩
      refine ⟨k10.get _ _ hcrr c9, ?_⟩
      have q10 := k10.get _ _ hqr q9
      have g10 := k10.get _ _ hur g9
      have t10 := k10.get _ _ htr t9
      unfold b_law_on_chain_1_7
      walk_at "run"
      refine lst_ref t10 ?_
      have f11 : (s10 ++ [Ob.lst (fa.map eD)])[s10.length]? = some (.lst (fa.map eD)) := get_new
      have k11 : Kp (fun _ => False) s10 (s10 ++ [Ob.lst (fa.map eD)]) := Kp.push
      generalize s10 ++ [Ob.lst (fa.map eD)] = s11 at f11 k11 ⊢
      have q11 := k11.get _ _ id q10
      have g11 := k11.get _ _ id g10
      walk_at "run"
      refine ⟨mty_ref f11 rfl, tup q11 g11 ?_⟩
      refine ⟨by decide, ins_ref (v := eD (ClF n pl su (-1))) f11 (by rw [List.length_map]; omega) (by omega) ?_⟩
      rw [insF_map]
      have f12 := get_set (o' := Ob.lst ((insF fa a (ClF n pl su (-1))).map eD)) f11
      generalize s11.set s10.length (.lst ((insF fa a (ClF n pl su (-1))).map eD)) = s12 at f12 ⊢
      refine tup_ref f12 ?_
      refine Lv_le (k := j + 4) (by omega) (leastc_ok (by omega) (by omega) (by rw [insF_len]; omega) (.inl rfl) (fun f hf => ?_) (neg_ring (by omega) su0 (fun k hk => insF_mem.mpr (.inr (C.ch k hk))) (insF_mem.mpr (.inl rfl))) fun s13 k ks cy k13 => ?_)
      · rcases insF_mem.mp hf with rfl | hf
        · exact ⟨P.lt _ (by omega), P.lt _ (by omega)⟩
        · obtain ⟨⟨i, j, h1, h2, e1, e2, _⟩, _⟩ := C.up f hf
          rw [e1, e2]
          exact ⟨P.lt i (by omega), P.lt j h2⟩
      · exact Lv_le (k := j + 3) (by omega) (iscycle_ok (k13.get _ _ id f12) cy (h s13))
  refine br_dec (fun h20 => ?_) (fun h20 => ?_)
  · unfold b_law_on_chain_5
    walk_at "run"
    refine draw_kp hDraw hs7 (by omega) (dv 3) fun y s8 y0 y1 k8 l8 hs8 => ?_
    have c8 := k8.get _ _ (by have := hs6.lt; omega) cl6
    refine ix_any c8 y0 (by simp only [List.length_map, List.length_cons, List.length_nil]; omega) fun d hd => ?_
    walk_at "run"
    refine ⟨by decide, ?_⟩
    obtain ⟨c, hc, rfl⟩ := List.mem_map.mp hd
    have := hs8.lt
    exact rest s8.length [c] _ (by simp) (fun c' hc' => by rw [List.mem_singleton.mp hc']; exact clok c hc) get_new (by omega) hs8.push (k8.trans Kp.push)
  · exact rest s6.length [none, some 0, some (1 + z)] s7 (by simp) clok cl6 (by have := hs6.lt; omega) (hs7.mono (by omega)) (Kp.refl _ _)
end
end K33

set_option exponentiation.threshold 2000
namespace K33
open PySem PX Wy
theorem gr_step {k : Nat} {be : Nat → Int} {m : Int} {fa l : List Ft} (h : GrF k be fa) (hk : 0 < k) (h1 : ∀ f ∈ l, f.2.1 = k ∧ f.1 < k ∧ m ≤ be f.1 + f.2.2) (h2 : ∃ f ∈ l, m = be f.1 + f.2.2) : GrF (k + 1) (fun i => if i = k then m else be i) (fa ++ l) where
  up := fun f hf => by
    rcases List.mem_append.mp hf with hf | hf
    · obtain ⟨a, b, c⟩ := h.up f hf
      rw [if_neg (by omega), if_neg (by omega)]
      exact ⟨a, by omega, c⟩
    · obtain ⟨a, b, c⟩ := h1 f hf
      rw [if_pos a, if_neg (by omega)]
      exact ⟨by omega, by omega, c⟩
  at_ := fun i hi hik => by
    by_cases e : i = k
    · subst e
      obtain ⟨⟨x, y, z⟩, hf, hm⟩ := h2
      obtain ⟨a, b, c⟩ := h1 _ hf
      dsimp only at a b hm
      subst a
      refine ⟨x, z, List.mem_append_right _ hf, ?_⟩
      rw [if_pos rfl, if_neg (by omega)]
      exact hm
    · obtain ⟨x, z, hf, hm⟩ := h.at_ i hi (by omega)
      have := h.up _ hf
      dsimp only at this
      refine ⟨x, z, List.mem_append_left _ hf, ?_⟩
      rw [if_neg e, if_neg (by omega)]
      exact hm
  b0 := by rw [if_neg (by omega)]; exact h.b0
theorem vD_snoc {v : Nat → Int} {k : Nat} {m : Int} : vD v k ++ [.int m] = vD (fun i => if i = k then m else v i) (k + 1) := by
  have h1 : vD (fun i => if i = k then m else v i) (k + 1) = vD (fun i => if i = k then m else v i) k ++ [.int m] := by
    unfold vD
    rw [← rowD_snoc]
    simp only [if_true, oD]
  have h2 : vD (fun i => if i = k then m else v i) k = vD v k := by
    unfold vD
    exact rowD_congr fun i hi => by simp only [if_neg (show ¬ i = k by omega)]
  rw [h1, h2]
/-- what the law's grid keeps -/
structure GrK (n : Nat) (be : Nat → Int) (fa : List Ft) : Prop where
  gr : GrF n be fa
  fb : ∀ f ∈ fa, InB (10 ^ 57) f.2.2
  len : fa.length ≤ 2 * n
  bb : ∀ i, i < n → InB ((n : Int) * 10 ^ 57) (be i)
section
variable {j : Nat} {E : XQ}
theorem grid_ok {b r rows wide : Nat} {s : Sto} (hs : Src b s r) (hb : b < 2 ^ 57) (hr1 : 1 < rows) (hr8 : rows < 8) (hw : wide = 4 ∨ wide = 8) {Q : QE}
    (h : ∀ s' g t u n be fa, 7 < n → n < 100 → GrK n be fa → s'[g]? = some (.lst [.ref t, .ref u]) → s'[t]? = some (.lst (fa.map eD)) → s'[u]? = some (.lst (vD be n)) → Q (.ref g) s') : Lv TT (j + 3) i_law_grid [.ref r, .int rows, .int wide] s Q E := by
  refine lv_in (fn := d_law_grid.fn) rfl rfl ?_
  dsimp only [d_law_grid, b_law_grid_1]
  walk_at "run"
  have e24 := size24
  have hr0 := hs.lt
  obtain ⟨n, hn, hn7, hn100⟩ : ∃ n : Nat, (rows : Int) * wide = (n : Int) ∧ 7 < n ∧ n < 60 := by
    rcases hw with rfl | rfl
    · exact ⟨rows * 4, by norm_cast, by omega, by omega⟩
    · exact ⟨rows * 8, by norm_cast, by omega, by omega⟩
  rw [hn]
  refine ⟨mul_small (by omega) (by omega) (by omega) (by omega), mul_small (by decide) (by decide) (by omega) (by omega), ?_⟩
  rw [show (2 : Int) * n = ((2 * n : Nat) : Int) by omega]
  refine Lv_le (k := j + 2) (by omega) (lengths_ok hs (by omega) (by omega) fun s1 q us usl usb k1 hs1 hq hql => ?_)
  have ql := lt_of_get hq
  unfold b_law_grid_1_1
  walk_at "run"
  refine ⟨by decide, by decide, ⟨by decide, by decide, by omega, by omega⟩, ?_⟩
  have f2 : ((s1 ++ [Ob.lst []]) ++ [Ob.lst [D.int 0]])[s1.length]? = some (.lst (([] : List Ft).map eD)) := get_old get_new
  have b2 : ((s1 ++ [Ob.lst []]) ++ [Ob.lst [D.int 0]])[s1.length + 1]? = some (.lst (vD (fun _ => 0) 1)) := by
    have : (s1 ++ [Ob.lst []]).length = s1.length + 1 := by simp
    rw [← this]
    exact get_new
  have k2 : Kp (fun _ => False) s1 ((s1 ++ [Ob.lst []]) ++ [Ob.lst [D.int 0]]) := Kp.push.trans Kp.push
  rw [show (s1 ++ [Ob.lst []]).length = s1.length + 1 by simp]
  generalize (s1 ++ [Ob.lst []]) ++ [Ob.lst [D.int 0]] = s2 at f2 b2 k2 ⊢
  have q2 := k2.get _ _ id hq
  have usat : ∀ {s' : Sto} {i : Nat} {Q : QE}, s'[q]? = some (.lst (us.map .int)) → i < 2 * n → (∀ z : Int, InB (10 ^ 57) z → us.getD i 0 = z → Q (.int z) s') → xIx (.ref q) (.int (i : Int)) s' Q := fun {s' i Q} h1 hi h2 => by
    have : us[i]? = some (us.getD i 0) := by rw [List.getD_eq_getElem?_getD, List.getElem?_eq_getElem (by omega)]; rfl
    exact ix_ref h1 (by rw [atI_k, List.getElem?_map, this]; rfl) (h2 _ (usb _ (List.mem_of_getElem? this)) rfl)
  have rl : (rngL 1 (n : Int)).length = n - 1 := by rw [show (1 : Int) = ((1 : Nat) : Int) from rfl, rngA_len]
  refine for_at (I := fun i σ s' => ∃ (be : Nat → Int) (fa : List Ft) (v7 v8 : Option D), GrK (i + 1) be fa ∧ σ = [some (.ref r), some (.int rows), some (.int wide), some (.int n), some (.ref q), some (.ref s1.length), some (.ref (s1.length + 1)), v7, v8] ∧ s'[s1.length]? = some (.lst (fa.map eD)) ∧ s'[s1.length + 1]? = some (.lst (vD be (i + 1))) ∧ Kp (fun p => p = s1.length ∨ p = s1.length + 1) s2 s') ⟨fun _ => 0, [], _, _, ⟨⟨fun f hf => absurd hf List.not_mem_nil, fun k h1 h2 => by omega, rfl⟩, fun f hf => absurd hf List.not_mem_nil, by simp, fun i hi => ⟨by omega, by omega⟩⟩, rfl, f2, b2, Kp.refl _ _⟩ ?_ ?_
  · rintro i it σ s3 N' hit ⟨be, fa, v7, v8, G, rfl, f3, b3, k3⟩ hN
    rw [show (1 : Int) = ((1 : Nat) : Int) from rfl] at hit
    obtain ⟨hi, rfl⟩ := rngA_of hit
    rw [Nat.add_comm 1 i]
    rw [Nat.add_comm 1 i] at hi
    generalize hk : i + 1 = k at hi G b3 ⊢
    have hk0 : 0 < k := by omega
    refine ⟨trivial, ?_⟩
    have q3 := k3.get _ _ (by omega) q2
    unfold b_law_grid_2
    walk_at "run"
    refine ⟨by decide, by omega, ?_⟩
    have f4 : (s3 ++ [Ob.lst []])[s1.length]? = some (.lst (fa.map eD)) := get_old f3
    have b4 : (s3 ++ [Ob.lst []])[s1.length + 1]? = some (.lst (vD be k)) := get_old b3
    have w4 : (s3 ++ [Ob.lst []])[s3.length]? = some (.lst (([] : List Int).map .int)) := get_new
    have k4 : Kp (fun p => p = s1.length ∨ p = s1.length + 1) s2 (s3 ++ [Ob.lst []]) := k3.trans Kp.push
    have l3 := lt_of_get b3
    have l23 := k3.len
    generalize hs4 : s3 ++ [Ob.lst []] = s4 at f4 b4 w4 k4 ⊢
    have q4 := k4.get _ _ (by omega) q2
    -- behind both ifs
    have fin : ∀ (l : List Ft) (s5 : Sto), l ≠ [] → l.length ≤ 2 → (∀ f ∈ l, f.2.1 = k ∧ f.1 < k ∧ InB (10 ^ 57) f.2.2) → s5[s1.length]? = some (.lst ((fa ++ l).map eD)) → s5[s1.length + 1]? = some (.lst (vD be k)) → s5[s3.length]? = some (.lst ((l.map fun f => be f.1 + f.2.2).map .int)) → Kp (fun p => p = s1.length ∨ p = s1.length + 1) s2 s5 → xSs (Lv TT (j + 2)) b_law_grid_2_2 [some (.ref r), some (.int rows), some (.int wide), some (.int n), some (.ref q), some (.ref s1.length), some (.ref (s1.length + 1)), some (.int k), some (.ref s3.length)] s5 N' := fun l s5 hl hl2 hf f5 b5 w5 k5 => by
      unfold b_law_grid_2_2
      walk_at "run"
      refine ⟨mty_ref b5 rfl, min1_ref w5 (by rw [List.length_map]; exact List.length_pos_iff.mpr hl) fun m hm1 hm2 => ?_⟩
      walk_at "run"
      obtain ⟨f, hf1, hf2⟩ := List.mem_map.mp hm1
      obtain ⟨c1, c2, c3⟩ := hf f hf1
      subst hk
      have bf := G.bb f.1 c2
      have e2 : ((i + 1 + 1 : Nat) : Int) * 10 ^ 57 = ((i + 1 : Nat) : Int) * 10 ^ 57 + 10 ^ 57 := by rw [Int.natCast_add (i + 1), Int.add_mul]; omega
      refine app_ref b5 (by rw [vD_len]; omega) (hN.nx _ _ ⟨fun i' => if i' = i + 1 then m else be i', fa ++ l, _, _, ⟨gr_step G.gr hk0 (fun f' hf' => ?_) ⟨f, hf1, hf2.symm⟩, fun f' hf' => ?_, ?_, fun i' hi' => ?_⟩, rfl, get_ne f5 (by omega), ?_, k5.trans (Kp.set (.inr rfl))⟩)
      · obtain ⟨a1, a2, a3⟩ := hf f' hf'
        exact ⟨a1, a2, hm2 _ (List.mem_map.mpr ⟨f', hf', rfl⟩)⟩
      · rcases List.mem_append.mp hf' with hf' | hf'
        · exact G.fb f' hf'
        · exact (hf f' hf').2.2
      · rw [List.length_append]
        have := G.len
        omega
      · rw [e2]
        split
        · exact ⟨by have := bf.1; have := c3.1; omega, by have := bf.2; have := c3.2; omega⟩
        · exact (G.bb i' (by omega)).mono (by omega)
      · rw [get_set b5, vD_snoc]
    have two : ∀ (l : List Ft) (s5 : Sto), (l ≠ [] ∨ wide ≤ k) → l.length ≤ 1 → (∀ f ∈ l, f.2.1 = k ∧ f.1 < k ∧ InB (10 ^ 57) f.2.2) → s5[s1.length]? = some (.lst ((fa ++ l).map eD)) → s5[s1.length + 1]? = some (.lst (vD be k)) → s5[s3.length]? = some (.lst ((l.map fun f => be f.1 + f.2.2).map .int)) → Kp (fun p => p = s1.length ∨ p = s1.length + 1) s2 s5 → s5[q]? = some (.lst (us.map .int)) → xSs (Lv TT (j + 2)) b_law_grid_2_1 [some (.ref r), some (.int rows), some (.int wide), some (.int n), some (.ref q), some (.ref s1.length), some (.ref (s1.length + 1)), some (.int k), some (.ref s3.length)] s5 N' := fun l s5 hl hl2 hf f5 b5 w5 k5 q5 => by
      unfold b_law_grid_2_1
      walk_at "run"
      refine br_dec (fun hkw => ?_) (fun hkw => ?_)
      · unfold b_law_grid_3
        walk_at "run"
        rw [show (2 : Int) * k + 1 = ((2 * k + 1 : Nat) : Int) by omega]
        rw [show (k : Int) - wide = ((k - wide : Nat) : Int) by omega]
        refine ⟨mty_ref f5 rfl, mul_small (by decide) (by decide) (by omega) (by omega), usat q5 (by omega) fun z hz hze => ?_⟩
        have fl := G.len
        refine ⟨by decide, app_ref f5 (by simp only [List.length_map, List.length_append]; omega) ?_⟩
        have b6 := get_ne (o' := .lst ((fa ++ l).map eD ++ [.tup [.int ((k - wide : Nat) : Int), .int k, .int z]])) b5 (show s1.length + 1 ≠ s1.length by omega)
        have w6 := get_ne (o' := .lst ((fa ++ l).map eD ++ [.tup [.int ((k - wide : Nat) : Int), .int k, .int z]])) w5 (show s3.length ≠ s1.length by omega)
        have q6 := get_ne (o' := .lst ((fa ++ l).map eD ++ [.tup [.int ((k - wide : Nat) : Int), .int k, .int z]])) q5 (show q ≠ s1.length by omega)
        have f6 := get_set (o' := .lst ((fa ++ l).map eD ++ [.tup [.int ((k - wide : Nat) : Int), .int k, .int z]])) f5
        have k6 : Kp (fun p => p = s1.length ∨ p = s1.length + 1) s5 (s5.set s1.length (.lst ((fa ++ l).map eD ++ [.tup [.int ((k - wide : Nat) : Int), .int k, .int z]]))) := Kp.set (.inl rfl)
        generalize s5.set s1.length (.lst ((fa ++ l).map eD ++ [.tup [.int ((k - wide : Nat) : Int), .int k, .int z]])) = s6 at b6 w6 q6 f6 k6 ⊢
        walk_at "run"
        refine ⟨mty_ref w6 rfl, ix_ref b6 (vD_at (by omega)) ?_⟩
        refine ⟨mul_small (by decide) (by decide) (by omega) (by omega), usat q6 (by omega) fun z' hz' hze' => ?_⟩
        have : z' = z := by rw [← hze', hze]
        subst this
        walk_at "run"
        refine app_ref w6 (by rw [List.length_map, List.length_map]; omega) ?_
        refine fin (l ++ [(k - wide, k, z')]) _ (by simp) (by rw [List.length_append, List.length_singleton]; omega) (fun f hf' => ?_) (get_ne (by rw [f6, ← List.append_assoc, List.map_append (l₁ := fa ++ l)]; rfl) (by omega)) (get_ne b6 (by omega)) (by rw [get_set w6, List.map_append, List.map_append]; rfl) (((k5.trans k6).mono (r' := fun p => (p = s1.length ∨ p = s1.length + 1) ∨ p = s3.length) fun _ _ z => .inl z).trans (Kp.set (.inr rfl)) |>.mono fun p hp z => z.resolve_right (by omega))
        rcases List.mem_append.mp hf' with hf' | hf'
        · exact hf f hf'
        · rw [List.mem_singleton.mp hf']
          exact ⟨rfl, by dsimp only; omega, hz'⟩
      · exact fin l s5 (hl.resolve_right (by omega)) (by omega) hf f5 b5 w5 k5
    refine br_dec (fun hkw => ?_) (fun hkw => ?_)
    · unfold b_law_grid_4
      walk_at "run"
      rw [show (2 : Int) * k = ((2 * k : Nat) : Int) by omega]
      rw [show (k : Int) - 1 = ((k - 1 : Nat) : Int) by omega]
      refine ⟨mty_ref f4 rfl, mul_small (by decide) (by decide) (by omega) (by omega), usat q4 (by omega) fun z hz hze => ?_⟩
      have fl := G.len
      refine ⟨by decide, app_ref f4 (by simp only [List.length_map]; omega) ?_⟩
      have b6 := get_ne (o' := .lst (fa.map eD ++ [.tup [.int ((k - 1 : Nat) : Int), .int k, .int z]])) b4 (show s1.length + 1 ≠ s1.length by omega)
      have w6 := get_ne (o' := .lst (fa.map eD ++ [.tup [.int ((k - 1 : Nat) : Int), .int k, .int z]])) w4 (show s3.length ≠ s1.length by omega)
      have q6 := get_ne (o' := .lst (fa.map eD ++ [.tup [.int ((k - 1 : Nat) : Int), .int k, .int z]])) q4 (show q ≠ s1.length by omega)
      have f6 := get_set (o' := .lst (fa.map eD ++ [.tup [.int ((k - 1 : Nat) : Int), .int k, .int z]])) f4
      have k6 : Kp (fun p => p = s1.length ∨ p = s1.length + 1) s4 (s4.set s1.length (.lst (fa.map eD ++ [.tup [.int ((k - 1 : Nat) : Int), .int k, .int z]]))) := Kp.set (.inl rfl)
      generalize s4.set s1.length (.lst (fa.map eD ++ [.tup [.int ((k - 1 : Nat) : Int), .int k, .int z]])) = s6 at b6 w6 q6 f6 k6 ⊢
      walk_at "run"
      refine ⟨mty_ref w6 rfl, ix_ref b6 (vD_at (by omega)) ?_⟩
      refine ⟨mul_small (by decide) (by decide) (by omega) (by omega), usat q6 (by omega) fun z' hz' hze' => ?_⟩
      have : z' = z := by rw [← hze', hze]
      subst this
      walk_at "run"
      refine app_ref w6 (by simp only [List.length_map, List.length_nil]; omega) ?_
      refine two [(k - 1, k, z')] _ (.inl (by simp)) (by simp) (fun f hf' => ?_) (get_ne (by rw [f6, List.map_append]; rfl) (by omega)) (get_ne b6 (by omega)) (by rw [get_set w6]; rfl) (((k4.trans k6).mono (r' := fun p => (p = s1.length ∨ p = s1.length + 1) ∨ p = s3.length) fun _ _ z => .inl z).trans (Kp.set (.inr rfl)) |>.mono fun p hp z => z.resolve_right (by omega)) (get_ne q6 (by omega))
      rw [List.mem_singleton.mp hf']
      exact ⟨rfl, by dsimp only; omega, hz'⟩
    · refine two [] s4 (.inr ?_) (by simp) (fun f hf' => absurd hf' List.not_mem_nil) (by rw [List.append_nil]; exact f4) b4 w4 k4 q4
      rcases hw with rfl | rfl <;> omega
  · rintro σ s3 ⟨be, fa, v7, v8, G, rfl, f3, b3, k3⟩
    rw [rl] at G b3
    rw [show n - 1 + 1 = n by omega] at G b3
    refine ⟨trivial, ?_⟩
    unfold b_law_grid_1_2
    walk_at "run"
    exact ⟨by decide, h _ _ _ _ n be fa hn7 (by omega) G get_new (get_old f3) (get_old b3)⟩
end
end K33

set_option exponentiation.threshold 2000
namespace K33
open PySem PX Wy
section
variable {j : Nat} {E : XQ}
theorem followed_at {s : Sto} {n r x y : Nat} {k : Int} {low : Option Int} {fa : List Ft} {p : Nat → Int} {S F : Mt} (e : S x y = low) (o : FOk n fa p) (hr : s[r]? = some (.lst (fa.map eD))) (g : Good n fa S F) (hx : x < n) (hy : y < n) {Q : QE}
    (h : ∀ s', Kp (fun _ => False) s s' → Q (.bl true) s') : Lv TT (j + 5) i_law_followed [.int n, .ref r, .int x, .int y, oD low, .int k] s Q E := by
  subst e
  exact followed_ok o hr g hx hy h
theorem on_grid_ok {b r rows wide : Nat} {s : Sto} (hs : Src b s r) (hb : b < 2 ^ 57) (hr1 : 1 < rows) (hr8 : rows < 8) (hw : wide = 4 ∨ wide = 8) {Q : QE} (h : ∀ s', Q (.bl true) s') : Lv TT (j + 6) i_law_on_grid [.ref r, .int rows, .int wide] s Q E := by
  refine lv_in (fn := d_law_on_grid.fn) rfl rfl ?_
  dsimp only [d_law_on_grid, b_law_on_grid_1]
  walk_at "run"
  have e24 := size24
  refine Lv_le (k := j + 3) (by omega) (grid_ok hs hb hr1 hr8 hw fun s1 g t u n be fa n7 n100 G hg ht hu => ?_)
  have hn0 : 0 < n := by omega
  have o : FOk n fa (fun x => -be x) := ⟨hn0, by omega, by have := G.len; omega, fun f hf => by have := G.gr.up f hf; exact ⟨by omega, by omega⟩, gr_sol G.gr, fun f hf => (G.fb f hf).mono (by decide), fun i hi => by
    have h1 := G.bb i hi
    have h2 : (n : Int) * 10 ^ 57 ≤ 100 * 10 ^ 57 := Int.mul_le_mul_of_nonneg_right (by omega) (by decide)
    exact ⟨by have := h1.2; omega, by have := h1.1; omega⟩⟩
  unfold b_law_on_grid_1_1
  walk_at "run"
  refine ix_ref hg atI_z ?_
  refine ix_ref hg atI_o ?_
  refine len_ref hu ?_
  rw [vD_len]
  walk_at "run"
  refine lst_ref ht ?_
  refine Lv_le (k := j + 4) (by omega) (least_ok o.hn o.hn0 (by have := o.hf; omega) (.inr ⟨_, rfl, get_new⟩) o.ed o.sol fun s3 S F gd k3 => ?_)
  have g3 := k3.get _ _ id get_new
  have k13 : Kp (fun _ => False) s1 s3 := Kp.push.trans k3
  have ht3 := k13.get _ _ id ht
  have hu3 := k13.get _ _ id hu
  unfold b_law_on_grid_1_2
  walk_at "run"
  rw [eq_facts g3 ht3]
  walk_at "run"
  refine Lv_le (k := j + 1) (by omega) (table_ok fun s4 k4 => ?_)
  walk_at "run"
  have k14 := k13.trans k4
  have ht4 := k14.get _ _ id ht
  have hu4 := k14.get _ _ id hu
  unfold b_law_on_grid_1_3
  walk_at "run"
  refine ⟨⟨by decide, by decide, by omega, by omega⟩, ?_⟩
  refine lc_none (fun s' k => trivial) ?_ ?_
  · intro i x s5 K' hx k5 hK
    obtain ⟨hi, rfl⟩ := rngN_of hx
    have hu5 := k5.get _ _ (by have := lt_of_get hu4; omega) hu4
    unfold i_law_on_grid_1
    simp only [wipeS]
    walk_at "run"
    refine tab_at (x := 0) hn0 hi ?_
    rw [gr_S0 G.gr gd hn0 hi]
    refine ix_ref hu5 (vD_at hi) ?_
    refine Lv_le (k := j + 2) (by omega) (entry_ok (o := some (be i)) ?_)
    walk_at "run"
    exact hK s5 (Kp.refl _ _)
  intro s5 k5 hg5
  refine ⟨by decide, ?_⟩
  rw [ne_nil hg5]
  walk_at "run"
  have k16 : Kp (fun _ => False) s1 (s5 ++ [Ob.lst []]) := k14.trans ((k5.mono fun p hp z => by omega).trans Kp.push)
  generalize s5 ++ [Ob.lst []] = s6 at k16 ⊢
  have ht6 := k16.get _ _ id ht
  have hu6 := k16.get _ _ id hu
  unfold b_law_on_grid_1_4
  walk_at "run"
  rw [show (n : Int) - 1 = ((n - 1 : Nat) : Int) by omega]
  refine ix_ref hu6 (vD_at (by omega)) (ix_ref hu6 (vD_at (by omega)) ?_)
  walk_at "run"
  refine ⟨by decide, it_ref get_new ?_⟩
  have g7 : (s6 ++ [Ob.lst [.int (be (n - 1)), .int (be (n - 1) - 1)]])[s6.length]? = some (.lst [.int (be (n - 1)), .int (be (n - 1) - 1)]) := get_new
  have k67 : Kp (fun _ => False) s6 (s6 ++ [Ob.lst [.int (be (n - 1)), .int (be (n - 1) - 1)]]) := Kp.push
  generalize s6 ++ [Ob.lst [.int (be (n - 1)), .int (be (n - 1) - 1)]] = s7 at g7 k67 ⊢
  have eS : S 0 (n - 1) = some (be (n - 1)) := gr_S0 G.gr gd hn0 (by omega)
  refine for_at (I := fun i' σ s' => (∃ v9 v11, σ = [some (.ref r), some (.int rows), some (.int wide), some (.ref g), some (.ref t), some (.ref u), some (.int n), some (.ref s1.length), some (tabD S n), v9, some (.int ((n - 1 : Nat) : Int)), v11]) ∧ Kp (fun _ => False) s7 s') ⟨⟨_, _, rfl⟩, Kp.refl _ _⟩ ?_ ?_
  · rintro i' it σ s8 N' hit ⟨⟨v9, v11, rfl⟩, k8⟩ hN
    refine ⟨k8.get _ _ id g7, ?_⟩
    have : ∃ k : Int, it = .int k := by
      have := List.mem_of_getElem? hit
      simp only [List.mem_cons, List.not_mem_nil, or_false] at this
      rcases this with rfl | rfl <;> exact ⟨_, rfl⟩
    obtain ⟨k, rfl⟩ := this
    have k68 := k67.trans k8
    have ht8 := k68.get _ _ id ht6
    have hu8 := k68.get _ _ id hu6
    unfold b_law_on_grid_3
    walk_at "run"
    refine ix_ref hu8 (vD_at (by omega)) ?_
    refine followed_at eS o ht8 gd hn0 (by omega) fun s9 k9 => ?_
    walk_at "run"
    exact hN.nx _ _ ⟨⟨_, _, rfl⟩, k8.trans k9⟩
  rintro σ s8 ⟨⟨v9, v11, rfl⟩, k8⟩
  refine ⟨k8.get _ _ id g7, ?_⟩
  have k68 := k67.trans k8
  have ht8 := k68.get _ _ id ht6
  have hu8 := k68.get _ _ id hu6
  unfold b_law_on_grid_1_5
  walk_at "run"
  refine tup_ref ht8 ?_
  refine Lv_le (k := j + 4) (by omega) (ties_ok o.hn o.hn0 (by have := o.hf; omega) (.inl rfl) o.ed o.sol fun s9 S' F' g' k9 => ?_)
  rw [tiedL_none fun x y hx hy hne => gr_part G.gr g' hx hy hne]
  have e0 : cmpD s9 .NotEq (.tup (([] : List Ft).map eD)) (.tup []) = some false := ne_same fun x hx => absurd hx List.not_mem_nil
  refine ⟨by decide, ?_⟩
  rw [e0]
  walk_at "run"
  have ht9 := k9.get _ _ id ht8
  have hu9 := k9.get _ _ id hu8
  refine ix_ref hu9 (vD_at (by omega)) ?_
  have eB : S (n - 1) 0 = none := gr_none G.gr gd (by omega) hn0 (by omega)
  refine followed_at (low := none) eB o ht9 gd (by omega) hn0 fun s10 k10 => ?_
  walk_at "run"
  have ht10 := k10.get _ _ id ht9
  have hu10 := k10.get _ _ id hu9
  unfold b_law_on_grid_1_6
  walk_at "run"
  refine ix_ref hu10 (vD_at (by omega)) ?_
  walk_at "run"
  refine parted_ok (b := false) o ht10 gd hn0 (show n - 1 < n by omega) (by omega) ?_ (fun z => by cases z) (fun _ => gr_part G.gr gd hn0 (by omega) (by omega)) fun s11 k11 => h s11
  have h1 := o.pb (n - 1) (by omega)
  have h2 := G.bb (n - 1) (by omega)
  have h3 : (n : Int) * 10 ^ 57 ≤ 100 * 10 ^ 57 := Int.mul_le_mul_of_nonneg_right (by omega) (by decide)
  exact ⟨by have := h2.2; omega, by have := h2.1; omega⟩
theorem rest_ok {ns : List Int} {r : Nat} {pick : Int} (s5 : Sto) (n rows wide : Nat) (b : Nat) (hb : b < 100) (hs5 : Src b s5 r) (n1 : 1 < n) (n2 : n ≤ 100) (r1 : 1 < rows) (r2 : rows < 8) (hw : wide = 4 ∨ wide = 8) : xSs (Lv TT (j + 7)) b_law_1_5 [some (.fl (ns.map .int)), some (.ref r), some (.int pick), some (.int n), some (.int rows), some (.int wide)] s5 { nx := fun σ s' => (D.non = .bl true), rt := fun v s => v = .bl true, bk := fun σ s => False, ct := fun σ s => False, ex := fun c fs σ s' => False } := by
    unfold b_law_1_5
    walk_at "run"
    refine draw_kp hDraw hs5 (by omega) (dv 4) fun z s6 z0 z1 k6 l6 hs6 => ?_
    walk_at "run"
    refine br_dec (fun hz => ?_) (fun hz => ?_)
    · unfold b_law_2
      walk_at "run"
      refine src_kp (k := 1) rfl rfl (by decide) fun s7 k7 l7 hs7 => ?_
      exact Lv_le (k := j + 6) (by omega) (on_grid_ok hs7 (by decide) r1 r2 hw fun s' => rfl)
    · unfold b_law_1_6
      walk_at "run"
      refine src_kp (k := 1) rfl rfl (by decide) fun s7 k7 l7 hs7 => ?_
      exact on_chain_ok hs7 (by decide) n1 n2 fun s' => rfl
theorem asg_draw {T : Nat → Option Fn} {k did i p : Nat} {a : Int} {rest : List ST} {σ : Sl} {N : En} (hD : T did = some drawFn) {b r : Nat} {m : Nat} {s : Sto} (hσ : σ[p]? = some (some (.ref r))) (hs : Src b s r) (hb : b < 2 ^ 60) (hm : 0 < m ∧ m < 1000000)
    (h : ∀ (v : Nat) s', v < m → Kp (fun n => n = r) s s' → s'.length = s.length → Src (b + 1) s' r → xSs (Lv T (k + 1)) rest (σ.set i (some (.int (a + v)))) s' N) : xSs (Lv T (k + 1)) (.asg (.nm i) (.bin .Add (.lit (.int a)) (.call did [(.var p), (.lit (.int m))])) :: rest) σ s N := by
  rw [xSs, xS, xE, xE, xE]
  simp only [xEs, xE, hσ]
  refine draw_kp hD hs hb (dv m hm) fun v s' v0 v1 k1 l1 hs1 => ?_
  obtain ⟨v, rfl⟩ := Int.eq_ofNat_of_zero_le v0
  exact h v s' (by omega) k1 l1 hs1
theorem rest3_ok {ns : List Int} {r : Nat} {pick : Int} (s3 : Sto) (n1 : Nat) (h1 : 1 < n1) (h2 : n1 ≤ 100) (hs3 : Src 2 s3 r) : xSs (Lv TT (j + 7)) b_law_1_3 [some (.fl (ns.map .int)), some (.ref r), some (.int pick), some (.int n1), none, none] s3 { nx := fun σ s' => (D.non = .bl true), rt := fun v s => v = .bl true, bk := fun σ s => False, ct := fun σ s => False, ex := fun c fs σ s' => False } := by
  unfold b_law_1_3
  refine asg_draw (m := 2) hDraw rfl hs3 (by decide) (by decide) fun w s4 w1 k4 l4 hs4 => ?_
  obtain ⟨r1, er1, hr1⟩ : ∃ n1 : Nat, (2 : Int) + w = n1 ∧ n1 = 2 + w := ⟨2 + w, by omega, rfl⟩
  rw [er1]
  unfold b_law_1_4
  walk_at "run"
  refine br_dec (fun hp => ?_) (fun hp => ?_)
  · unfold b_law_3
    walk_at "run"
    refine draw_kp hDraw hs4 (by decide) (dv 41) fun c' s5 c0' c1' k5 l5 hs5 => ?_
    obtain ⟨c', rfl⟩ := Int.eq_ofNat_of_zero_le c0'
    walk_at "run"
    obtain ⟨n2, en2, hn2⟩ : ∃ n1 : Nat, (20 : Int) + c' = n1 ∧ n1 = 20 + c' := ⟨20 + c', by omega, rfl⟩
    rw [en2]
    unfold b_law_3_1
    refine asg_draw (m := 6) hDraw rfl hs5 (by decide) (by decide) fun w' s6 w1' k6 l6 hs6 => ?_
    obtain ⟨r2, er2, hr2⟩ : ∃ n1 : Nat, (2 : Int) + w' = n1 ∧ n1 = 2 + w' := ⟨2 + w', by omega, rfl⟩
    rw [er2]
    unfold b_law_3_2
    walk_at "run"
    exact rest_ok s6 _ _ 8 5 (by decide) hs6 (by omega) (by omega) (by omega) (by omega) (.inr rfl)
  · unfold b_law_4
    walk_at "run"
    refine br_dec (fun hp => ?_) (fun hp => ?_)
    · unfold b_law_5
      walk_at "run"
      exact rest_ok s4 100 _ 4 4 (by decide) (hs4.mono (by omega)) (by omega) (by omega) (by omega) (by omega) (.inl rfl)
    · exact rest_ok s4 _ _ 4 4 (by decide) (hs4.mono (by omega)) (by omega) (by omega) (by omega) (by omega) (.inl rfl)
theorem law_holds (ns : List Int) (hl : ns.length ≤ 63) : Lv TT (j + 8) i_law [.fl (ns.map .int)] [] (fun v _ => v = .bl true) (fun _ _ _ => False) := by
  refine lv_in (fn := d_law.fn) rfl rfl ?_
  dsimp only [d_law, b_law_1]
  walk_at "run"
  refine src_kp rfl rfl (by decide) fun s1 k1 l1 hs1 => ?_
  generalize hr : ([] : Sto).length = r at hs1
  unfold b_law_1_1
  walk_at "run"
  refine draw_kp hDraw hs1 (by decide) (dv 32) fun pick s2 p0 p1 k2 l2 hs2 => ?_
  unfold b_law_1_2
  walk_at "run"
  refine draw_kp hDraw hs2 (by decide) (dv 7) fun c s3 c0 c1 k3 l3 hs3 => ?_
  obtain ⟨c, rfl⟩ := Int.eq_ofNat_of_zero_le c0
  walk_at "run"
  obtain ⟨n1, en1, hn1⟩ : ∃ n1 : Nat, (8 : Int) + c = n1 ∧ n1 = 8 + c := ⟨8 + c, by omega, rfl⟩
  rw [en1]
  exact rest3_ok s3 n1 (by omega) (by omega) hs3
end
end K33

namespace K33
open PySem PySem.Spec PyProof.Rows L2 PX
theorem defs_ok : DefsL ly tbl := ⟨o_ways_of, o_any_solution, o_tied_atoms, o_least, o_follows, o_ties, o_form_value, o_lowest_values, o_weights_between, o_row_of, o_apart_in, o_row, o_apart, o_law_cell, o_law_src, o_law_draw, o_law_is_int, o_law_way, o_law_solves, o_law_around, o_law_lengths, o_law_low, o_law_chain, o_law_grid, o_law_entry, o_law_is_table, o_law_is_cycle, o_law_followed, o_law_form, o_law_parted, o_law_ties_right, o_law_row_right, o_law_asked, o_law_on_chain, o_law_on_grid, o_law, trivial⟩
theorem mdefs_ok : MDefsL ly mts := ⟨o_Ways_init, o_Ways_new_atom, o_Ways_add, o_Ways_spread, o_Ways_path, trivial⟩
theorem few_ok : decide (tbl.length < 1000000) = true := by decide +kernel
theorem gl_ok : glChk tbl cts ly.gl = true := by decide +kernel
theorem mc_ok : mcChk mts ly.mc = true := by decide +kernel
theorem ids_ok : ids mts [] = true := by decide +kernel
theorem ct_ok : ctChk mts cts [] = true := by decide +kernel
def TB (w : World) (K : PySem.W.Frag) (C0 : Addr) : Tb := ⟨K, w.params, fun c => ([C0] : List Addr)[c]?, ly.at_⟩
theorem all_mk {l : PySem.W.OpenLaw} {w : World} {K : PySem.W.Frag} {h : Heap} {mg : Str → Option Value} {fa C0 : Addr} (X : K.In h) (G : h.Ns mainGlobals mg) (hfa : mg "law" = some (.ref fa))
    (a0 : PySem.W.nsIn K mainGlobals "Ways" = some (some (.ref C0)))
    (y0 : PySem.W.plainGet K C0 Str.empty = true ∧ PySem.W.hasDictIn K C0 = true ∧ PySem.W.plainOver K C0 = true ∧ PySem.W.findIn K (.ref C0) "__setattr__" = some (some (.builtin "object.__setattr__")))
    (z0 : NoL K C0 ["sums", "first", "facts", "cycle"])
    (f0 : FnFact K d_ways_of)
    (f1 : FnFact K d_any_solution)
    (f2 : FnFact K d_tied_atoms)
    (f3 : FnFact K d_least)
    (f4 : FnFact K d_follows)
    (f5 : FnFact K d_ties)
    (f6 : FnFact K d_form_value)
    (f7 : FnFact K d_lowest_values)
    (f8 : FnFact K d_weights_between)
    (f9 : FnFact K d_row_of)
    (f10 : FnFact K d_apart_in)
    (f11 : FnFact K d_row)
    (f12 : FnFact K d_apart)
    (f13 : FnFact K d_law_cell)
    (f14 : FnFact K d_law_src)
    (f15 : FnFact K d_law_draw)
    (f16 : FnFact K d_law_is_int)
    (f17 : FnFact K d_law_way)
    (f18 : FnFact K d_law_solves)
    (f19 : FnFact K d_law_around)
    (f20 : FnFact K d_law_lengths)
    (f21 : FnFact K d_law_low)
    (f22 : FnFact K d_law_chain)
    (f23 : FnFact K d_law_grid)
    (f24 : FnFact K d_law_entry)
    (f25 : FnFact K d_law_is_table)
    (f26 : FnFact K d_law_is_cycle)
    (f27 : FnFact K d_law_followed)
    (f28 : FnFact K d_law_form)
    (f29 : FnFact K d_law_parted)
    (f30 : FnFact K d_law_ties_right)
    (f31 : FnFact K d_law_row_right)
    (f32 : FnFact K d_law_asked)
    (f33 : FnFact K d_law_on_chain)
    (f34 : FnFact K d_law_on_grid)
    (f35 : FnFact K d_law)
    (m0 : MtFact K (TB w K C0) ⟨0, 4, d_Ways_init⟩)
    (m1 : MtFact K (TB w K C0) ⟨0, 5, d_Ways_new_atom⟩)
    (m2 : MtFact K (TB w K C0) ⟨0, 6, d_Ways_add⟩)
    (m3 : MtFact K (TB w K C0) ⟨0, 7, d_Ways_spread⟩)
    (m4 : MtFact K (TB w K C0) ⟨0, 8, d_Ways_path⟩)
    (t0 : CtFact K (TB w K C0) ⟨0, "Ways", 0, 4⟩)
    (n0 : PySem.W.nsIn K mainGlobals "abs" = some none)
    (n1 : PySem.W.nsIn K mainGlobals "bool" = some none)
    (n2 : PySem.W.nsIn K mainGlobals "enumerate" = some none)
    (n3 : PySem.W.nsIn K mainGlobals "int" = some none)
    (n4 : PySem.W.nsIn K mainGlobals "isinstance" = some none)
    (n5 : PySem.W.nsIn K mainGlobals "len" = some none)
    (n6 : PySem.W.nsIn K mainGlobals "list" = some none)
    (n7 : PySem.W.nsIn K mainGlobals "min" = some none)
    (n8 : PySem.W.nsIn K mainGlobals "range" = some none)
    (n9 : PySem.W.nsIn K mainGlobals "str" = some none)
    (n10 : PySem.W.nsIn K mainGlobals "tuple" = some none) :
    ∃ fd : FuncData, (∀ (s : Shared) (v : Value), BindsTo s fd ⟨[v], []⟩ [("script", v)]) ∧ ∀ base : Heap, K.In base → base.Ns mainGlobals mg → FnOk l.prog w K mg base CX0 8 fa fd ["script"] (spLaw K) := by
  have O : ClsOk (TB w K C0) K ly.nf := clsOk_of (Cs := [C0]) rfl (show ly.at_.Nodup by decide +kernel) ⟨⟨⟨y0.1, y0.2.1, y0.2.2.1, y0.2.2.2⟩, z0⟩, trivial⟩
  obtain ⟨fd, h1, h2⟩ := law_ok (P := l.prog) (w := w) (k := 8) (d := d_law) (id := 35) (tab_mk (B := (TB w K C0)) (ly := ly) (tbl := tbl) (mts := mts) (cts := cts) rfl rfl O rfl defs_ok ⟨f0, f1, f2, f3, f4, f5, f6, f7, f8, f9, f10, f11, f12, f13, f14, f15, f16, f17, f18, f19, f20, f21, f22, f23, f24, f25, f26, f27, f28, f29, f30, f31, f32, f33, f34, f35, trivial⟩ mdefs_ok ⟨m0, m1, m2, m3, m4, trivial⟩ ⟨t0, trivial⟩ few_ok gl_ok mc_ok ids_ok ct_ok ⟨n0, n1, n2, n3, n4, n5, n6, n7, n8, n9, n10, trivial⟩) X G rfl rfl hfa fun ns hl => law_holds ns hl
  exact ⟨fd, h1, fun base _ _ => h2 base⟩
end K33
open PySem PySem.W PyProof.Rows
set_option maxRecDepth 100000 in
set_option maxHeartbeats 0 in
theorem PySem.Challenge.cw_warmmill_k33_long_ways_holds : PySem.Challenge.rw_warmmill_k33_long_ways.Holds := by
  w_on; o_law; k_head; (case hw => w_witness2)
  k_fill
  refine PX.walk_ok (l := PySem.Challenge.rw_warmmill_k33_long_ways) (k := 8) rfl rfl ⟨rfl, by decide, by decide⟩ (fun w h Y => PySem.W.kIn_of Y) ?F
  case F =>
    intro w mg fa h KX G hmg
    refine' K33.all_mk KX G hmg ?a0 ?y0 ?z0 ?f0 ?f1 ?f2 ?f3 ?f4 ?f5 ?f6 ?f7 ?f8 ?f9 ?f10 ?f11 ?f12 ?f13 ?f14 ?f15 ?f16 ?f17 ?f18 ?f19 ?f20 ?f21 ?f22 ?f23 ?f24 ?f25 ?f26 ?f27 ?f28 ?f29 ?f30 ?f31 ?f32 ?f33 ?f34 ?f35 ?m0 ?m1 ?m2 ?m3 ?m4 ?t0 ?n0 ?n1 ?n2 ?n3 ?n4 ?n5 ?n6 ?n7 ?n8 ?n9 ?n10
    (case a0 => k_is)
    (case y0 => refine' ⟨?q1, ?q2, ?q3, ?q4⟩; (case q1 => k_is); (case q2 => k_is); (case q3 => k_is); (case q4 => k_is))
    (case z0 => refine' ⟨?q0, ?q1, ?q2, ?q3, trivial⟩; (case q0 => k_is); (case q1 => k_is); (case q2 => k_is); (case q3 => k_is))
    (case f0 => refine' PX.fact_mk ?a ?l ?c ?k; (case a => k_is); (case l => k_is); (case c => k_is); (case k => k_is))
    (case f1 => refine' PX.fact_mk ?a ?l ?c ?k; (case a => k_is); (case l => k_is); (case c => k_is); (case k => k_is))
    (case f2 => refine' PX.fact_mk ?a ?l ?c ?k; (case a => k_is); (case l => k_is); (case c => k_is); (case k => k_is))
    (case f3 => refine' PX.fact_mk ?a ?l ?c ?k; (case a => k_is); (case l => k_is); (case c => k_is); (case k => k_is))
    (case f4 => refine' PX.fact_mk ?a ?l ?c ?k; (case a => k_is); (case l => k_is); (case c => k_is); (case k => k_is))
    (case f5 => refine' PX.fact_mk ?a ?l ?c ?k; (case a => k_is); (case l => k_is); (case c => k_is); (case k => k_is))
    (case f6 => refine' PX.fact_mk ?a ?l ?c ?k; (case a => k_is); (case l => k_is); (case c => k_is); (case k => k_is))
    (case f7 => refine' PX.fact_mk ?a ?l ?c ?k; (case a => k_is); (case l => k_is); (case c => k_is); (case k => k_is))
    (case f8 => refine' PX.fact_mk ?a ?l ?c ?k; (case a => k_is); (case l => k_is); (case c => k_is); (case k => k_is))
    (case f9 => refine' PX.fact_mk ?a ?l ?c ?k; (case a => k_is); (case l => k_is); (case c => k_is); (case k => k_is))
    (case f10 => refine' PX.fact_mk ?a ?l ?c ?k; (case a => k_is); (case l => k_is); (case c => k_is); (case k => k_is))
    (case f11 => refine' PX.fact_mk ?a ?l ?c ?k; (case a => k_is); (case l => k_is); (case c => k_is); (case k => k_is))
    (case f12 => refine' PX.fact_mk ?a ?l ?c ?k; (case a => k_is); (case l => k_is); (case c => k_is); (case k => k_is))
    (case f13 => refine' PX.fact_mk ?a ?l ?c ?k; (case a => k_is); (case l => k_is); (case c => k_is); (case k => k_is))
    (case f14 => refine' PX.fact_mk ?a ?l ?c ?k; (case a => k_is); (case l => k_is); (case c => k_is); (case k => k_is))
    (case f15 => refine' PX.fact_mk ?a ?l ?c ?k; (case a => k_is); (case l => k_is); (case c => k_is); (case k => k_is))
    (case f16 => refine' PX.fact_mk ?a ?l ?c ?k; (case a => k_is); (case l => k_is); (case c => k_is); (case k => k_is))
    (case f17 => refine' PX.fact_mk ?a ?l ?c ?k; (case a => k_is); (case l => k_is); (case c => k_is); (case k => k_is))
    (case f18 => refine' PX.fact_mk ?a ?l ?c ?k; (case a => k_is); (case l => k_is); (case c => k_is); (case k => k_is))
    (case f19 => refine' PX.fact_mk ?a ?l ?c ?k; (case a => k_is); (case l => k_is); (case c => k_is); (case k => k_is))
    (case f20 => refine' PX.fact_mk ?a ?l ?c ?k; (case a => k_is); (case l => k_is); (case c => k_is); (case k => k_is))
    (case f21 => refine' PX.fact_mk ?a ?l ?c ?k; (case a => k_is); (case l => k_is); (case c => k_is); (case k => k_is))
    (case f22 => refine' PX.fact_mk ?a ?l ?c ?k; (case a => k_is); (case l => k_is); (case c => k_is); (case k => k_is))
    (case f23 => refine' PX.fact_mk ?a ?l ?c ?k; (case a => k_is); (case l => k_is); (case c => k_is); (case k => k_is))
    (case f24 => refine' PX.fact_mk ?a ?l ?c ?k; (case a => k_is); (case l => k_is); (case c => k_is); (case k => k_is))
    (case f25 => refine' PX.fact_mk ?a ?l ?c ?k; (case a => k_is); (case l => k_is); (case c => k_is); (case k => k_is))
    (case f26 => refine' PX.fact_mk ?a ?l ?c ?k; (case a => k_is); (case l => k_is); (case c => k_is); (case k => k_is))
    (case f27 => refine' PX.fact_mk ?a ?l ?c ?k; (case a => k_is); (case l => k_is); (case c => k_is); (case k => k_is))
    (case f28 => refine' PX.fact_mk ?a ?l ?c ?k; (case a => k_is); (case l => k_is); (case c => k_is); (case k => k_is))
    (case f29 => refine' PX.fact_mk ?a ?l ?c ?k; (case a => k_is); (case l => k_is); (case c => k_is); (case k => k_is))
    (case f30 => refine' PX.fact_mk ?a ?l ?c ?k; (case a => k_is); (case l => k_is); (case c => k_is); (case k => k_is))
    (case f31 => refine' PX.fact_mk ?a ?l ?c ?k; (case a => k_is); (case l => k_is); (case c => k_is); (case k => k_is))
    (case f32 => refine' PX.fact_mk ?a ?l ?c ?k; (case a => k_is); (case l => k_is); (case c => k_is); (case k => k_is))
    (case f33 => refine' PX.fact_mk ?a ?l ?c ?k; (case a => k_is); (case l => k_is); (case c => k_is); (case k => k_is))
    (case f34 => refine' PX.fact_mk ?a ?l ?c ?k; (case a => k_is); (case l => k_is); (case c => k_is); (case k => k_is))
    (case f35 => refine' PX.fact_mk ?a ?l ?c ?k; (case a => k_is); (case l => k_is); (case c => k_is); (case k => k_is))
    (case m0 => refine' PX.mt_mk rfl rfl ?a ?i ?l ?c ?k; (case a => k_is); (case i => k_is); (case l => k_is); (case c => k_is); (case k => k_is))
    (case m1 => refine' PX.mt_mk rfl rfl ?a ?i ?l ?c ?k; (case a => k_is); (case i => k_is); (case l => k_is); (case c => k_is); (case k => k_is))
    (case m2 => refine' PX.mt_mk rfl rfl ?a ?i ?l ?c ?k; (case a => k_is); (case i => k_is); (case l => k_is); (case c => k_is); (case k => k_is))
    (case m3 => refine' PX.mt_mk rfl rfl ?a ?i ?l ?c ?k; (case a => k_is); (case i => k_is); (case l => k_is); (case c => k_is); (case k => k_is))
    (case m4 => refine' PX.mt_mk rfl rfl ?a ?i ?l ?c ?k; (case a => k_is); (case i => k_is); (case l => k_is); (case c => k_is); (case k => k_is))
    (case t0 => refine' PX.ct_mk rfl rfl ?a ?m ?k; (case a => k_is); (case m => k_is); (case k => k_is))
    (case n0 => k_is)
    (case n1 => k_is)
    (case n2 => k_is)
    (case n3 => k_is)
    (case n4 => k_is)
    (case n5 => k_is)
    (case n6 => k_is)
    (case n7 => k_is)
    (case n8 => k_is)
    (case n9 => k_is)
    (case n10 => k_is)
