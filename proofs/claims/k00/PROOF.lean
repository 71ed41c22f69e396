import PyProof.Rows.All
import Wide.All
import OpenK.AllK
import Wide.FinOn
import HandS.ForMost
import HandS.ForExc
import HandS.Deep
import HandS.Wide
import HandS.Flow
import HandS.IsInst
import HandS.Codes
import HandS.TupAny
import HandS.Comp
import HandS.Iter
import HandS.CallSlots
import PySem.Challenge.RW_warmmill_k00_tokens_of_a_line
set_option Elab.async false
set_option linter.all false
set_option maxRecDepth 100000
/-! PX: a small language with a plain meaning (values as trees, a store of lists and objects), into which the defs of a text are turned. -/
namespace PX
open PySem

inductive D where
  | non | bl (b : Bool) | int (i : Int) | str (s : List Nat) | tup (xs : List D) | fl (xs : List D) | kd (n : Nat) | ref (n : Nat)
  deriving Inhabited

mutual
def D.beq : D → D → Bool
  | .non, .non => true
  | .bl a, .bl b => a == b
  | .int a, .int b => a == b
  | .str a, .str b => a == b
  | .tup a, .tup b => D.beqs a b
  | .fl a, .fl b => D.beqs a b
  | .kd a, .kd b => a == b
  | .ref a, .ref b => a == b
  | _, _ => false
def D.beqs : List D → List D → Bool
  | [], [] => true
  | x :: xs, y :: ys => D.beq x y && D.beqs xs ys
  | _, _ => false
end
mutual
theorem D.eq_of_beq : ∀ {x y : D}, D.beq x y = true → x = y
  | .non, y, h => by cases y <;> simp_all [D.beq]
  | .bl a, y, h => by cases y <;> simp_all [D.beq]
  | .int a, y, h => by cases y <;> simp_all [D.beq]
  | .str a, y, h => by cases y <;> simp_all [D.beq]
  | .tup a, y, h => by cases y <;> first | (simp only [D.beq] at h; exact congrArg D.tup (D.eqs_of_beqs h)) | simp [D.beq] at h
  | .fl a, y, h => by cases y <;> first | (simp only [D.beq] at h; exact congrArg D.fl (D.eqs_of_beqs h)) | simp [D.beq] at h
  | .kd a, y, h => by cases y <;> simp_all [D.beq]
  | .ref a, y, h => by cases y <;> simp_all [D.beq]
theorem D.eqs_of_beqs : ∀ {xs ys : List D}, D.beqs xs ys = true → xs = ys
  | [], ys, h => by cases ys <;> simp_all [D.beqs]
  | x :: xs, ys, h => by
    cases ys with
    | nil => simp [D.beqs] at h
    | cons y ys =>
      simp only [D.beqs, Bool.and_eq_true] at h
      rw [D.eq_of_beq h.1, D.eqs_of_beqs h.2]
end
mutual
theorem D.beq_refl : ∀ x : D, D.beq x x = true
  | .non => rfl
  | .bl a => by simp [D.beq]
  | .int a => by simp [D.beq]
  | .str a => by simp [D.beq]
  | .tup a => by simp only [D.beq]; exact D.beqs_refl a
  | .fl a => by simp only [D.beq]; exact D.beqs_refl a
  | .kd a => by simp [D.beq]
  | .ref a => by simp [D.beq]
theorem D.beqs_refl : ∀ xs : List D, D.beqs xs xs = true
  | [] => rfl
  | x :: xs => by simp only [D.beqs, D.beq_refl x, D.beqs_refl xs, Bool.and_self]
end
theorem D.beq_iff {x y : D} : D.beq x y = true ↔ x = y := ⟨D.eq_of_beq, fun e => e ▸ D.beq_refl x⟩
instance : DecidableEq D := fun x y => decidable_of_iff _ (D.beq_iff (x := x) (y := y))

/-- what stands in the store -/
inductive Ob where
  | lst (xs : List D) | ins (c : Nat) (fs : List (Nat × D)) | dic (kvs : List (D × D))
  deriving Inhabited
abbrev Sto := List Ob
abbrev Sl := List (Option D)
abbrev QE := D → Sto → Prop
abbrev XQ := Nat → List (Nat × D) → Sto → Prop
abbrev FS := Nat → List D → Sto → QE → XQ → Prop

/-- built-in functions; methods of built-in types -/
inductive BF where
  | len | int | abs | str | tuple | list | max2 | min2 | isi (t : Nat) | sorted | sum | rng1 | rng2
  deriving DecidableEq
inductive MF where
  | append | pop0 | pop1 | extend | index | join | insert | reverse
  deriving DecidableEq
/-- what a for walks -/
inductive IK where
  | seq | rng1 | rng2 | enum | zip | items
  deriving DecidableEq
inductive TG where
  | nm (i : Nat) | tp (ts : List TG)
inductive EX where
  | lit (d : D)
  | var (i : Nat)
  | bin (op : Operator) (a b : EX)
  | neg (a : EX)
  | cmp (op : CmpOp) (a b : EX)
  | chn (op op' : CmpOp) (a b c : EX)
  | and (a b : EX) | or (a b : EX) | not (a : EX)
  | ite (c a b : EX)
  | tup (es : List EX) | lst (es : List EX)
  | ix (a b : EX)
  | sl (a lo hi : EX)
  | call (f : Nat) (es : List EX)
  | blt (f : BF) (es : List EX)
  | meth (m : MF) (o : EX) (es : List EX)
  | lc (own : List Nat) (tg : TG) (ik : IK) (its : List EX) (ifs : List EX) (elt : EX)
inductive ST where
  | expr (e : EX)
  | asg (tg : TG) (e : EX)
  | aset (o i e : EX)
  | aug (i : Nat) (op : Operator) (e : EX)
  | ite (c : EX) (a b : List ST)
  | whl (c : EX) (b : List ST)
  | for_ (tg : TG) (ik : IK) (its : List EX) (b : List ST)
  | ret (e : EX)
  | brk | cnt | pass

/-! ### values -/
def tru (s : Sto) : D → Option Bool
  | .non => some false
  | .bl b => some b
  | .int i => some (i != 0)
  | .str x => some (!x.isEmpty)
  | .tup xs => some (!xs.isEmpty)
  | .fl xs => some (!xs.isEmpty)
  | .ref n => match s[n]? with
    | some (.lst xs) => some (!xs.isEmpty)
    | _ => none
  | .kd _ => none
/-- one way or the other -/
def br (o : Option Bool) (A B : Prop) : Prop := match o with
  | some true => A
  | some false => B
  | none => False
def obl (o : Option Bool) (K : Bool → Prop) : Prop := match o with
  | some b => K b
  | none => False
/-- a list or a tuple that is read -/
def seqOf (s : Sto) : D → Option (List D)
  | .tup xs => some xs
  | .fl xs => some xs
  | .ref n => match s[n]? with
    | some (.lst xs) => some xs
    | _ => none
  | _ => none
mutual
/-- the lists resolved -/
def resW (r : Nat → Option D) : D → Option D
  | .tup xs => (resWs r xs).map .tup
  | .fl xs => (resWs r xs).map .fl
  | .ref n => r n
  | .kd _ => none
  | .non => some .non
  | .bl b => some (.bl b)
  | .int i => some (.int i)
  | .str x => some (.str x)
def resWs (r : Nat → Option D) : List D → Option (List D)
  | [] => some []
  | x :: xs => match resW r x, resWs r xs with
    | some y, some ys => some (y :: ys)
    | _, _ => none
end
def res (s : Sto) : Nat → D → Option D
  | 0 => resW (fun _ => none)
  | k + 1 => resW (fun n => match s[n]? with
    | some (.lst xs) => (resWs (fun m => res s k (.ref m)) xs).map .fl
    | _ => none)
mutual
/-- no bool, no def; not too deep -/
def nob : Nat → D → Bool
  | _, .non => true
  | _, .int _ => true
  | _, .str _ => true
  | k + 1, .tup xs => nobs k xs
  | k + 1, .fl xs => nobs k xs
  | _, _ => false
def nobs : Nat → List D → Bool
  | _, [] => true
  | k, x :: xs => nob k x && nobs k xs
end
def eqDeep (s : Sto) (x y : D) : Option Bool := match res s 3 x, res s 3 y with
  | some a, some b => if nob 40 a && nob 40 b then some (decide (a = b)) else none
  | _, _ => none
def eqD (s : Sto) : D → D → Option Bool
  | .int i, .int j => some (decide (i = j))
  | .str a, .str b => some (decide (a = b))
  | .bl a, .bl b => some (decide (a = b))
  | x, y => eqDeep s x y
def flatD : D → Bool
  | .non | .bl _ | .int _ | .str _ => true
  | _ => false
def eqF : D → D → Bool
  | .non, .non => true
  | .bl a, .bl b => a == b
  | .bl a, .int b => (if a then 1 else 0) == b
  | .int a, .bl b => a == (if b then 1 else 0)
  | .int a, .int b => a == b
  | .str a, .str b => a == b
  | _, _ => false
def subS (a b : List Nat) : Bool := !(Builtin.Str.occurrences ⟨b.toArray⟩ ⟨a.toArray⟩ 0 b.length 1).isEmpty
def inD (s : Sto) (x y : D) : Option Bool := match y with
  | .str b => match x with
    | .str a => some (subS a b)
    | _ => none
  | y => match seqOf s y with
    | some ys => if flatD x && ys.all flatD then some (ys.any fun z => eqF z x) else none
    | none => none
def isNon : D → Bool
  | .non => true
  | _ => false
def cmpD (s : Sto) : CmpOp → D → D → Option Bool
  | .Eq, x, y => eqD s x y
  | .NotEq, x, y => (eqD s x y).map fun b => !b
  | .Lt, .int i, .int j => some (decide (i < j))
  | .LtE, .int i, .int j => some (decide (i ≤ j))
  | .Gt, .int i, .int j => some (decide (j < i))
  | .GtE, .int i, .int j => some (decide (j ≤ i))
  | .Is, x, .non => some (isNon x)
  | .IsNot, x, .non => some (!isNon x)
  | .In, x, y => inD s x y
  | .NotIn, x, y => (inD s x y).map fun b => !b
  | _, _, _ => none
def mulOk (i j : Int) : Prop := i.natAbs.log2 + j.natAbs.log2 < 1000000
def divOk (j : Int) : Prop := 0 < j ∧ j.natAbs.log2 < 9000
def powOk (i j : Int) : Prop := 0 ≤ j ∧ j ≤ 1000000 ∧ i.natAbs < 2 ^ 64
/-- what is new in the store stands at its end -/
def mk (o : Ob) (s : Sto) (Q : QE) : Prop := Q (.ref s.length) (s ++ [o])
def xBin (op : Operator) (x y : D) (s : Sto) (Q : QE) : Prop := match op, x, y with
  | .Add, .int i, .int j => Q (.int (i + j)) s
  | .Sub, .int i, .int j => Q (.int (i - j)) s
  | .Mult, .int i, .int j => mulOk i j ∧ Q (.int (i * j)) s
  | .FloorDiv, .int i, .int j => divOk j ∧ Q (.int (i / j)) s
  | .Mod, .int i, .int j => 0 < j ∧ Q (.int (i % j)) s
  | .Pow, .int i, .int j => powOk i j ∧ Q (.int (i ^ j.toNat)) s
  | .Add, .str a, .str b => a.length + b.length ≤ sizeLine ∧ Q (.str (a ++ b)) s
  | .Mult, .str a, .int j => (0 ≤ j ∧ j ≤ 16777216 ∧ a.length * j.toNat ≤ 16777216) ∧ Q (.str (List.replicate j.toNat a).flatten) s
  | .Add, .tup a, .tup b => a.length + b.length ≤ sizeLine ∧ Q (.tup (a ++ b)) s
  | .Add, .ref m, .ref n => match s[m]?, s[n]? with
    | some (.lst a), some (.lst b) => a.length + b.length ≤ sizeLine ∧ mk (.lst (a ++ b)) s Q
    | _, _ => False
  | .Mult, .ref m, .int j => match s[m]? with
    | some (.lst a) => (-(2 ^ 63) ≤ j ∧ j < 2 ^ 63 ∧ a.length * j.toNat ≤ sizeLine) ∧ mk (.lst (List.replicate j.toNat a).flatten) s Q
    | _ => False
  | _, _, _ => False
/-- an index of either sign -/
def ixn (n : Nat) (i : Int) : Option Nat := L2.ixN n i
def xIx (x y : D) (s : Sto) (Q : QE) : Prop := match y with
  | .int i => match x with
    | .str a => match L2.atI a i with
      | some c => Q (.str [c]) s
      | none => False
    | x => match seqOf s x with
      | some xs => match L2.atI xs i with
        | some v => Q v s
        | none => False
      | none => False
  | _ => False
def cut {α : Type} (xs : List α) (lo hi : Option Int) : List α := (xs.drop (HT.sIx xs.length 0 lo)).take (HT.sIx xs.length xs.length hi - HT.sIx xs.length 0 lo)
/-- a slice's part -/
def partD : D → Option (Option Int)
  | .kd _ => some none
  | .int i => some (some i)
  | _ => none
def xSl (x l h : D) (s : Sto) (Q : QE) : Prop := match partD l, partD h with
  | some lo, some hi => match x with
    | .str a => Q (.str (cut a lo hi)) s
    | .tup a => Q (.tup (cut a lo hi)) s
    | .fl a => mk (.lst (cut a lo hi)) s Q
    | .ref n => match s[n]? with
      | some (.lst a) => mk (.lst (cut a lo hi)) s Q
      | _ => False
    | _ => False
  | _, _ => False
def rngL (a b : Int) : List D := (List.range (b - a).toNat).map fun i => .int (a + (i : Nat))
def rngOk (a b : Int) : Prop := -(2 ^ 62) ≤ a ∧ a < 2 ^ 62 ∧ -(2 ^ 62) ≤ b ∧ b < 2 ^ 62
/-- the digits of a number, as str gives them -/
def strI (i : Int) : List Nat := ((toString i : Str)).cps.toList
/-- a value's type: int 0, bool 1, str 2, tuple 3, list 4, None 5 -/
def tyD (s : Sto) : D → Option Nat
  | .int _ => some 0
  | .bl _ => some 1
  | .str _ => some 2
  | .tup _ => some 3
  | .fl _ => some 4
  | .non => some 5
  | .ref n => match s[n]? with
    | some (.lst _) => some 4
    | _ => none
  | .kd _ => none
def isiD (t : Nat) (s : Sto) (d : D) : Option Bool := match tyD s d with
  | some k => some (k == t || (k == 1 && t == 0))
  | none => none
def bLen (x : D) (s : Sto) (Q : QE) : Prop := match x with
  | .str a => Q (.int a.length) s
  | x => match seqOf s x with
    | some xs => Q (.int xs.length) s
    | none => False
def bInt (x : D) (s : Sto) (Q : QE) : Prop := match x with
  | .int i => Q (.int i) s
  | .bl b => Q (.int (if b then 1 else 0)) s
  | _ => False
def bAbs (x : D) (s : Sto) (Q : QE) : Prop := match x with
  | .int i => Q (.int (if i < 0 then -i else i)) s
  | _ => False
def bStr (x : D) (s : Sto) (Q : QE) : Prop := match x with
  | .int i => (0 ≤ i ∧ i < 10 ^ 10) ∧ Q (.str (strI i)) s
  | _ => False
def bTup (x : D) (s : Sto) (Q : QE) : Prop := match x with
  | .tup a => Q (.tup a) s
  | x => match seqOf s x with
    | some xs => Q (.tup xs) s
    | none => False
def bLst (x : D) (s : Sto) (Q : QE) : Prop := match seqOf s x with
  | some xs => mk (.lst xs) s Q
  | none => False
def bMax (x y : D) (s : Sto) (Q : QE) : Prop := match x, y with
  | .int i, .int j => Q (.int (if j > i then j else i)) s
  | _, _ => False
def bMin (x y : D) (s : Sto) (Q : QE) : Prop := match x, y with
  | .int i, .int j => Q (.int (if j < i then j else i)) s
  | _, _ => False
def xBlt (f : BF) (vs : List D) (s : Sto) (Q : QE) : Prop := match f, vs with
  | .len, [x] => bLen x s Q
  | .int, [x] => bInt x s Q
  | .abs, [x] => bAbs x s Q
  | .str, [x] => bStr x s Q
  | .tuple, [x] => bTup x s Q
  | .list, [x] => bLst x s Q
  | .max2, [x, y] => bMax x y s Q
  | .min2, [x, y] => bMin x y s Q
  | .isi t, [x] => match isiD t s x with
    | some b => Q (.bl b) s
    | none => False
  | _, _ => False
def strsOf : List D → Option (List (List Nat))
  | [] => some []
  | .str a :: r => (strsOf r).map fun l => a :: l
  | _ :: _ => none
def joinS (sep : List Nat) : List (List Nat) → List Nat
  | [] => []
  | [a] => a
  | a :: b :: r => a ++ sep ++ joinS sep (b :: r)
/-- the receiver is of the method's type -/
def mTy (m : MF) (x : D) (s : Sto) : Prop := match m, x with
  | .join, .str _ => True
  | .join, _ => False
  | _, .ref n => match s[n]? with
    | some (.lst _) => True
    | _ => False
  | _, _ => False
def xMeth (m : MF) (o : D) (vs : List D) (s : Sto) (Q : QE) : Prop := match m, o, vs with
  | .append, .ref n, [v] => match s[n]? with
    | some (.lst xs) => xs.length < sizeLine ∧ Q .non (s.set n (.lst (xs ++ [v])))
    | _ => False
  | .pop0, .ref n, [] => match s[n]? with
    | some (.lst xs) => match xs[xs.length - 1]? with
      | some y => Q y (s.set n (.lst xs.dropLast))
      | none => False
    | _ => False
  | .extend, .ref n, [.ref m] => match s[n]?, s[m]? with
    | some (.lst xs), some (.lst ys) => xs.length + ys.length ≤ sizeLine ∧ Q .non (s.set n (.lst (xs ++ ys)))
    | _, _ => False
  | .reverse, .ref n, [] => match s[n]? with
    | some (.lst xs) => Q .non (s.set n (.lst xs.reverse))
    | _ => False
  | .join, .str sep, [x] => match seqOf s x with
    | some xs => match strsOf xs with
      | some l => (l.map List.length).sum + l.length * sep.length ≤ 16777216 ∧ Q (.str (joinS sep l)) s
      | none => False
    | none => False
  | _, _, _ => False
/-- o[i] = v; x op= y -/
def xAset (x y v : D) (s : Sto) (K : Sto → Prop) : Prop := match x, y with
  | .ref n, .int k => match s[n]? with
    | some (.lst xs) => match L2.ixN xs.length k with
      | some j => K (s.set n (.lst (xs.set j v)))
      | none => False
    | _ => False
  | _, _ => False
def xIp (op : Operator) (x y : D) (s : Sto) (Q : QE) : Prop := match op, x, y with
  | .Add, .int a, .int b => Q (.int (a + b)) s
  | .Sub, .int a, .int b => Q (.int (a - b)) s
  | .Add, .str a, .str b => a.length + b.length ≤ sizeLine ∧ Q (.str (a ++ b)) s
  | _, _, _ => False
/-- what is walked: the items, and the list that must stay as it is -/
def xIt (ik : IK) (vs : List D) (s : Sto) (K : List D → Option Nat → Prop) : Prop := match ik, vs with
  | .seq, [.str a] => K (a.map fun c => .str [c]) none
  | .seq, [.ref n] => match s[n]? with
    | some (.lst xs) => K xs (some n)
    | _ => False
  | .seq, [.tup xs] => K xs none
  | .seq, [.fl xs] => K xs none
  | .rng1, [.int j] => rngOk 0 j ∧ K (rngL 0 j) none
  | .rng2, [.int i, .int j] => rngOk i j ∧ K (rngL i j) none
  | _, _ => False
def chk (o : Option Nat) (xs : List D) (s : Sto) : Prop := match o with
  | none => True
  | some n => s[n]? = some (.lst xs)
mutual
def xTg : TG → D → Sl → (Sl → Prop) → Prop
  | .nm i, d, σ, Q => Q (σ.set i (some d))
  | .tp ts, d, σ, Q => match d with
    | .tup xs => xTgs ts xs σ Q
    | _ => False
def xTgs : List TG → List D → Sl → (Sl → Prop) → Prop
  | [], [], σ, Q => Q σ
  | t :: ts, x :: xs, σ, Q => xTg t x σ fun σ' => xTgs ts xs σ' Q
  | _, _, _, _ => False
end
def wipeS (σ : Sl) : List Nat → Sl
  | [] => σ
  | v :: vs => (wipeS σ vs).set v none

abbrev SE := Sl → Sto → QE → XQ → Prop
structure En where
  nx : Sl → Sto → Prop
  rt : QE
  bk : Sl → Sto → Prop
  ct : Sl → Sto → Prop
  ex : Nat → List (Nat × D) → Sl → Sto → Prop
abbrev SS := Sl → Sto → En → Prop

/-- a comprehension's turns: at n the list that grows -/
def lcGo (tg : TG) (o : Option Nat) (all : List D) (n : Nat) (t : Sl → Sto → (Bool → Sto → Prop) → Prop) (f : Sl → Sto → QE → Prop) (own : List Nat) (σ : Sl) : List D → Sto → (Sto → Prop) → Prop
  | [], s, K => chk o all s ∧ K s
  | x :: r, s, K => chk o all s ∧ xTg tg x (wipeS σ own) fun σ' => t σ' s fun b s1 =>
    if b = true then f σ' s1 fun y s2 => match s2[n]? with
      | some (.lst acc) => acc.length < sizeLine ∧ lcGo tg o all n t f own σ r (s2.set n (.lst (acc ++ [y]))) K
      | _ => False
    else lcGo tg o all n t f own σ r s1 K
/-- a for's turns -/
def forGo (tg : TG) (o : Option Nat) (all : List D) (b : SS) (N : En) : List D → Sl → Sto → Prop
  | [], σ, s => chk o all s ∧ N.nx σ s
  | x :: r, σ, s => chk o all s ∧ xTg tg x σ fun σ' => b σ' s { nx := fun σ s => forGo tg o all b N r σ s, ct := fun σ s => forGo tg o all b N r σ s, bk := N.nx, rt := N.rt, ex := N.ex }
/-- a while, by its invariant -/
def whlGo (c : SE) (b : SS) (N : En) (σ : Sl) (s : Sto) : Prop := ∃ W : Nat → Sl → Sto → Prop, (∃ m, W m σ s) ∧ ∀ m σ s, W m σ s →
  c σ s (fun d s1 => br (tru s1 d) (b σ s1 { nx := fun σ s => ∃ m', m' < m ∧ W m' σ s, ct := fun σ s => ∃ m', m' < m ∧ W m' σ s, bk := N.nx, rt := N.rt, ex := N.ex }) (N.nx σ s1)) (fun e fs s1 => N.ex e fs σ s1)

mutual
def xE (G : FS) : EX → Sl → Sto → QE → XQ → Prop
  | .lit d, _, s, Q, _ => Q d s
  | .var i, σ, s, Q, _ => match σ[i]? with
    | some (some d) => Q d s
    | _ => False
  | .bin op a b, σ, s, Q, E => xE G a σ s (fun x s1 => xE G b σ s1 (fun y s2 => xBin op x y s2 Q) E) E
  | .neg a, σ, s, Q, E => xE G a σ s (fun x s1 => match x with
    | .int i => Q (.int (-i)) s1
    | _ => False) E
  | .cmp op a b, σ, s, Q, E => xE G a σ s (fun x s1 => xE G b σ s1 (fun y s2 => obl (cmpD s2 op x y) fun c => Q (.bl c) s2) E) E
  | .chn op op' a b c, σ, s, Q, E => xE G a σ s (fun x s1 => xE G b σ s1 (fun y s2 => br (cmpD s2 op x y) (xE G c σ s2 (fun z s3 => obl (cmpD s3 op' y z) fun c => Q (.bl c) s3) E) (Q (.bl false) s2)) E) E
  | .and a b, σ, s, Q, E => xE G a σ s (fun x s1 => br (tru s1 x) (xE G b σ s1 Q E) (Q x s1)) E
  | .or a b, σ, s, Q, E => xE G a σ s (fun x s1 => br (tru s1 x) (Q x s1) (xE G b σ s1 Q E)) E
  | .not a, σ, s, Q, E => xE G a σ s (fun x s1 => obl (tru s1 x) fun c => Q (.bl (!c)) s1) E
  | .ite c a b, σ, s, Q, E => xE G c σ s (fun x s1 => br (tru s1 x) (xE G a σ s1 Q E) (xE G b σ s1 Q E)) E
  | .tup es, σ, s, Q, E => xEs G es σ s (fun vs s1 => vs.length ≤ sizeLine ∧ Q (.tup vs) s1) E
  | .lst es, σ, s, Q, E => xEs G es σ s (fun vs s1 => vs.length ≤ sizeLine ∧ mk (.lst vs) s1 Q) E
  | .ix a b, σ, s, Q, E => xE G a σ s (fun x s1 => xE G b σ s1 (fun y s2 => xIx x y s2 Q) E) E
  | .sl a l h, σ, s, Q, E => xE G a σ s (fun x s1 => xE G l σ s1 (fun y s2 => (partD y).isSome = true ∧ xE G h σ s2 (fun z s3 => (partD z).isSome = true ∧ xSl x y z s3 Q) E) E) E
  | .call f es, σ, s, Q, E => xEs G es σ s (fun vs s1 => G f vs s1 Q E) E
  | .blt f es, σ, s, Q, E => xEs G es σ s (fun vs s1 => xBlt f vs s1 Q) E
  | .meth m o es, σ, s, Q, E => xE G o σ s (fun x s1 => mTy m x s1 ∧ xEs G es σ s1 (fun vs s2 => xMeth m x vs s2 Q) E) E
  | .lc own tg ik its ifs elt, σ, s, Q, E => xEs G its σ s (fun vs s1 => xIt ik vs s1 fun items o =>
      lcGo tg o items s1.length (fun σ' s' K => xIf G ifs σ' s' K) (fun σ' s' K => xE G elt σ' s' K (fun _ _ _ => False)) own σ items (s1 ++ [.lst []]) fun s' => Q (.ref s1.length) s') E
def xEs (G : FS) : List EX → Sl → Sto → (List D → Sto → Prop) → XQ → Prop
  | [], _, s, Q, _ => Q [] s
  | e :: es, σ, s, Q, E => xE G e σ s (fun x s1 => xEs G es σ s1 (fun xs s2 => Q (x :: xs) s2) E) E
def xIf (G : FS) : List EX → Sl → Sto → (Bool → Sto → Prop) → Prop
  | [], _, s, K => K true s
  | e :: es, σ, s, K => xE G e σ s (fun x s1 => br (tru s1 x) (xIf G es σ s1 K) (K false s1)) (fun _ _ _ => False)
end
mutual
def xS (G : FS) : ST → SS
  | .expr e, σ, s, N => xE G e σ s (fun _ s1 => N.nx σ s1) (fun c fs s1 => N.ex c fs σ s1)
  | .asg tg e, σ, s, N => xE G e σ s (fun x s1 => xTg tg x σ fun σ' => N.nx σ' s1) (fun c fs s1 => N.ex c fs σ s1)
  | .aset o i e, σ, s, N => xE G e σ s (fun v s1 => xE G o σ s1 (fun x s2 => xE G i σ s2 (fun y s3 => xAset x y v s3 fun s4 => N.nx σ s4) (fun c fs s1 => N.ex c fs σ s1)) (fun c fs s1 => N.ex c fs σ s1)) (fun c fs s1 => N.ex c fs σ s1)
  | .aug i op e, σ, s, N => match σ[i]? with
    | some (some x) => xE G e σ s (fun y s1 => xIp op x y s1 fun z s2 => N.nx (σ.set i (some z)) s2) (fun c fs s1 => N.ex c fs σ s1)
    | _ => False
  | .ite c a b, σ, s, N => xE G c σ s (fun x s1 => br (tru s1 x) (xSs G a σ s1 N) (xSs G b σ s1 N)) (fun c fs s1 => N.ex c fs σ s1)
  | .whl c b, σ, s, N => whlGo (fun σ s Q E => xE G c σ s Q E) (fun σ s N => xSs G b σ s N) N σ s
  | .for_ tg ik its b, σ, s, N => xEs G its σ s (fun vs s1 => xIt ik vs s1 fun items o => forGo tg o items (fun σ s N => xSs G b σ s N) N items σ s1) (fun c fs s1 => N.ex c fs σ s1)
  | .ret e, σ, s, N => xE G e σ s N.rt (fun c fs s1 => N.ex c fs σ s1)
  | .brk, σ, s, N => N.bk σ s
  | .cnt, σ, s, N => N.ct σ s
  | .pass, σ, s, N => N.nx σ s
def xSs (G : FS) : List ST → SS
  | [], σ, s, N => N.nx σ s
  | st :: r, σ, s, N => xS G st σ s { N with nx := fun σ s => xSs G r σ s N }
end
structure Fn where
  ar : Nat
  sl : Nat
  body : List ST
/-- the meaning of the defs of a table, by the depth of calls -/
def Lv (T : Nat → Option Fn) : Nat → FS
  | 0 => fun _ _ _ _ _ => False
  | k + 1 => fun f vs s Q E => match T f with
    | none => False
    | some fn => vs.length = fn.ar ∧ xSs (Lv T k) fn.body (vs.map some ++ List.replicate (fn.sl - fn.ar) none) s
      { nx := fun _ s' => Q .non s', rt := Q, bk := fun _ _ => False, ct := fun _ _ => False, ex := fun c fs _ s' => E c fs s' }
end PX

/-! PX: what follows may be weakened. -/
namespace PX
open PySem

theorem br_mono {o : Option Bool} {A B A' B' : Prop} (h : br o A B) (ha : A → A') (hb : B → B') : br o A' B' := by
  match o, h with
  | some true, h => exact ha h
  | some false, h => exact hb h
theorem obl_mono {o : Option Bool} {K K' : Bool → Prop} (h : obl o K) (hk : ∀ b, K b → K' b) : obl o K' := by
  match o, h with
  | some b, h => exact hk b h
section
variable {s : Sto} {Q Q' : QE}
theorem mk_mono {o : Ob} (hQ : ∀ d s, Q d s → Q' d s) (h : mk o s Q) : mk o s Q' := hQ _ _ h
theorem xBin_mono (op : Operator) (x y : D) (hQ : ∀ d s, Q d s → Q' d s) : xBin op x y s Q → xBin op x y s Q' := by
  unfold xBin
  repeat' split
  all_goals first
    | (intro h; exact absurd h id)
    | (intro h; exact hQ _ _ h)
    | (intro h; exact mk_mono hQ h)
    | (intro h; exact ⟨h.1, hQ _ _ h.2⟩)
    | (intro h; exact ⟨h.1, mk_mono hQ h.2⟩)
theorem xIx_mono (x y : D) (hQ : ∀ d s, Q d s → Q' d s) : xIx x y s Q → xIx x y s Q' := by
  unfold xIx
  repeat' split
  all_goals first
    | (intro h; exact absurd h id)
    | (intro h; exact hQ _ _ h)
    | (intro h; exact mk_mono hQ h)
    | (intro h; exact ⟨h.1, hQ _ _ h.2⟩)
    | (intro h; exact ⟨h.1, mk_mono hQ h.2⟩)
theorem xSl_mono (x l h : D) (hQ : ∀ d s, Q d s → Q' d s) : xSl x l h s Q → xSl x l h s Q' := by
  unfold xSl
  repeat' split
  all_goals first
    | (intro h; exact absurd h id)
    | (intro h; exact hQ _ _ h)
    | (intro h; exact mk_mono hQ h)
    | (intro h; exact ⟨h.1, hQ _ _ h.2⟩)
    | (intro h; exact ⟨h.1, mk_mono hQ h.2⟩)
theorem xBlt_mono (f : BF) (vs : List D) (hQ : ∀ d s, Q d s → Q' d s) : xBlt f vs s Q → xBlt f vs s Q' := by
  unfold xBlt bLen bInt bAbs bStr bTup bLst bMax bMin
  repeat' split
  all_goals first
    | (intro h; exact absurd h id)
    | (intro h; exact hQ _ _ h)
    | (intro h; exact mk_mono hQ h)
    | (intro h; exact ⟨h.1, hQ _ _ h.2⟩)
    | (intro h; exact ⟨h.1, mk_mono hQ h.2⟩)
theorem xMeth_mono (m : MF) (o : D) (vs : List D) (hQ : ∀ d s, Q d s → Q' d s) : xMeth m o vs s Q → xMeth m o vs s Q' := by
  unfold xMeth
  repeat' split
  all_goals first
    | (intro h; exact absurd h id)
    | (intro h; exact hQ _ _ h)
    | (intro h; exact mk_mono hQ h)
    | (intro h; exact ⟨h.1, hQ _ _ h.2⟩)
    | (intro h; exact ⟨h.1, mk_mono hQ h.2⟩)
theorem xIp_mono (op : Operator) (x y : D) (hQ : ∀ d s, Q d s → Q' d s) : xIp op x y s Q → xIp op x y s Q' := by
  unfold xIp
  repeat' split
  all_goals first
    | (intro h; exact absurd h id)
    | (intro h; exact hQ _ _ h)
    | (intro h; exact ⟨h.1, hQ _ _ h.2⟩)
theorem xAset_mono (x y v : D) {K K' : Sto → Prop} (hK : ∀ s, K s → K' s) : xAset x y v s K → xAset x y v s K' := by
  unfold xAset
  repeat' split
  all_goals first
    | (intro h; exact absurd h id)
    | (intro h; exact hK _ h)
theorem xIt_mono (ik : IK) (vs : List D) {K K' : List D → Option Nat → Prop} (hK : ∀ l o, K l o → K' l o) : xIt ik vs s K → xIt ik vs s K' := by
  unfold xIt
  repeat' split
  all_goals first
    | (intro h; exact absurd h id)
    | (intro h; exact hK _ _ h)
    | (intro h; exact ⟨h.1, hK _ _ h.2⟩)
end
mutual
theorem xTg_mono : ∀ (t : TG) {d : D} {σ : Sl} {Q Q' : Sl → Prop}, (∀ σ, Q σ → Q' σ) → xTg t d σ Q → xTg t d σ Q'
  | .nm i, _, _, _, _, hQ, h => hQ _ h
  | .tp ts, d, σ, Q, Q', hQ, h => by
    cases d with
    | tup xs => exact xTgs_mono ts hQ h
    | _ => exact absurd h id
theorem xTgs_mono : ∀ (ts : List TG) {xs : List D} {σ : Sl} {Q Q' : Sl → Prop}, (∀ σ, Q σ → Q' σ) → xTgs ts xs σ Q → xTgs ts xs σ Q'
  | [], [], _, _, _, hQ, h => hQ _ h
  | [], _ :: _, _, _, _, hQ, h => absurd h id
  | _ :: _, [], _, _, _, hQ, h => absurd h id
  | t :: ts, x :: xs, σ, Q, Q', hQ, h => xTg_mono t (fun σ' h => xTgs_mono ts hQ h) h
end
theorem lcGo_mono {tg : TG} {o : Option Nat} {all : List D} {n : Nat} {t t' : Sl → Sto → (Bool → Sto → Prop) → Prop} {f f' : Sl → Sto → QE → Prop} {own : List Nat} {σ : Sl}
    (ht : ∀ σ s K K', (∀ b s, K b s → K' b s) → t σ s K → t' σ s K') (hf : ∀ σ s (Q Q' : QE), (∀ b s, Q b s → Q' b s) → f σ s Q → f' σ s Q') :
    ∀ (r : List D) (s : Sto) {K K' : Sto → Prop}, (∀ s, K s → K' s) → lcGo tg o all n t f own σ r s K → lcGo tg o all n t' f' own σ r s K'
  | [], s, K, K', hK, h => ⟨h.1, hK _ h.2⟩
  | x :: r, s, K, K', hK, h => ⟨h.1, xTg_mono tg (fun σ' h => ht _ _ _ _ (fun b s1 h => by
      cases b with
      | true =>
        simp only [if_true] at h ⊢
        refine hf _ _ _ _ (fun y s2 h => ?_) h
        split at h
        · exact ⟨h.1, lcGo_mono ht hf r _ hK h.2⟩
        · exact absurd h id
      | false =>
        rw [if_neg Bool.false_ne_true] at h ⊢
        exact lcGo_mono ht hf r _ hK h) h) h.2⟩
structure En.le (N N' : En) : Prop where
  nx : ∀ σ s, N.nx σ s → N'.nx σ s
  rt : ∀ d s, N.rt d s → N'.rt d s
  bk : ∀ σ s, N.bk σ s → N'.bk σ s
  ct : ∀ σ s, N.ct σ s → N'.ct σ s
  ex : ∀ c fs σ s, N.ex c fs σ s → N'.ex c fs σ s
theorem forGo_mono {tg : TG} {o : Option Nat} {all : List D} {b b' : SS} (hb : ∀ σ s N N', En.le N N' → b σ s N → b' σ s N') {N N' : En} (hN : En.le N N') :
    ∀ (r : List D) (σ : Sl) (s : Sto), forGo tg o all b N r σ s → forGo tg o all b' N' r σ s
  | [], σ, s, h => ⟨h.1, hN.nx _ _ h.2⟩
  | x :: r, σ, s, h => ⟨h.1, xTg_mono tg (fun σ' h => hb _ _ { nx := fun σ s => forGo tg o all b N r σ s, ct := fun σ s => forGo tg o all b N r σ s, bk := N.nx, rt := N.rt, ex := N.ex } _ ⟨fun σ s h => forGo_mono hb hN r σ s h, hN.rt, hN.nx, fun σ s h => forGo_mono hb hN r σ s h, hN.ex⟩ h) h.2⟩
theorem whlGo_mono {c c' : SE} {b b' : SS} (hc : ∀ σ s (Q Q' : QE) (E E' : XQ), (∀ d s, Q d s → Q' d s) → (∀ e fs s, E e fs s → E' e fs s) → c σ s Q E → c' σ s Q' E')
    (hb : ∀ σ s N N', En.le N N' → b σ s N → b' σ s N') {N N' : En} (hN : En.le N N') {σ : Sl} {s : Sto} (h : whlGo c b N σ s) : whlGo c' b' N' σ s := by
  obtain ⟨W, h0, h⟩ := h
  refine ⟨W, h0, fun m σ s hw => hc _ _ _ _ _ _ (fun d s1 h => ?_) (fun e fs s1 h => hN.ex _ _ _ _ h) (h m σ s hw)⟩
  exact br_mono h (hb _ _ _ _ ⟨fun _ _ h => h, hN.rt, hN.nx, fun _ _ h => h, hN.ex⟩) (hN.nx _ _)
/-- what a meaning of the defs must bear -/
def FS.Mono (G : FS) : Prop := ∀ f vs s (Q Q' : QE) (E E' : XQ), (∀ d s, Q d s → Q' d s) → (∀ c fs s, E c fs s → E' c fs s) → G f vs s Q E → G f vs s Q' E'
section
variable {G : FS} (hG : G.Mono)
include hG
mutual
theorem xE_mono : ∀ (e : EX) {σ : Sl} {s : Sto} {Q Q' : QE} {E E' : XQ}, (∀ d s, Q d s → Q' d s) → (∀ c fs s, E c fs s → E' c fs s) → xE G e σ s Q E → xE G e σ s Q' E'
  | .lit d, _, _, _, _, _, _, hQ, hE, h => hQ _ _ h
  | .var i, σ, s, Q, Q', E, E', hQ, hE, h => by
    simp only [xE] at h ⊢
    split at h
    · exact hQ _ _ h
    · exact absurd h id
  | .bin op a b, σ, s, Q, Q', E, E', hQ, hE, h => by
    simp only [xE] at h ⊢
    exact xE_mono a (fun x s1 h => xE_mono b (fun y s2 h => xBin_mono op x y hQ h) hE h) hE h
  | .neg a, σ, s, Q, Q', E, E', hQ, hE, h => by
    simp only [xE] at h ⊢
    refine xE_mono a (fun x s1 h => ?_) hE h
    cases x <;> first | exact hQ _ _ h | exact absurd h id
  | .cmp op a b, σ, s, Q, Q', E, E', hQ, hE, h => by
    simp only [xE] at h ⊢
    exact xE_mono a (fun x s1 h => xE_mono b (fun y s2 h => obl_mono h fun _ h => hQ _ _ h) hE h) hE h
  | .chn op op' a b c, σ, s, Q, Q', E, E', hQ, hE, h => by
    simp only [xE] at h ⊢
    exact xE_mono a (fun x s1 h => xE_mono b (fun y s2 h => br_mono h (fun h => xE_mono c (fun z s3 h => obl_mono h fun _ h => hQ _ _ h) hE h) (hQ _ _)) hE h) hE h
  | .and a b, σ, s, Q, Q', E, E', hQ, hE, h => by
    simp only [xE] at h ⊢
    exact xE_mono a (fun x s1 h => br_mono h (fun h => xE_mono b hQ hE h) (hQ _ _)) hE h
  | .or a b, σ, s, Q, Q', E, E', hQ, hE, h => by
    simp only [xE] at h ⊢
    exact xE_mono a (fun x s1 h => br_mono h (hQ _ _) (fun h => xE_mono b hQ hE h)) hE h
  | .not a, σ, s, Q, Q', E, E', hQ, hE, h => by
    simp only [xE] at h ⊢
    exact xE_mono a (fun x s1 h => obl_mono h fun _ h => hQ _ _ h) hE h
  | .ite c a b, σ, s, Q, Q', E, E', hQ, hE, h => by
    simp only [xE] at h ⊢
    exact xE_mono c (fun x s1 h => br_mono h (fun h => xE_mono a hQ hE h) (fun h => xE_mono b hQ hE h)) hE h
  | .tup es, σ, s, Q, Q', E, E', hQ, hE, h => by
    simp only [xE] at h ⊢
    exact xEs_mono es (fun vs s1 h => ⟨h.1, hQ _ _ h.2⟩) hE h
  | .lst es, σ, s, Q, Q', E, E', hQ, hE, h => by
    simp only [xE] at h ⊢
    exact xEs_mono es (fun vs s1 h => ⟨h.1, mk_mono hQ h.2⟩) hE h
  | .ix a b, σ, s, Q, Q', E, E', hQ, hE, h => by
    simp only [xE] at h ⊢
    exact xE_mono a (fun x s1 h => xE_mono b (fun y s2 h => xIx_mono x y hQ h) hE h) hE h
  | .sl a l u, σ, s, Q, Q', E, E', hQ, hE, h => by
    simp only [xE] at h ⊢
    exact xE_mono a (fun x s1 h => xE_mono l (fun y s2 h => ⟨h.1, xE_mono u (fun z s3 h => ⟨h.1, xSl_mono x y z hQ h.2⟩) hE h.2⟩) hE h) hE h
  | .call f es, σ, s, Q, Q', E, E', hQ, hE, h => by
    simp only [xE] at h ⊢
    exact xEs_mono es (fun vs s1 h => hG _ _ _ _ _ _ _ hQ hE h) hE h
  | .blt f es, σ, s, Q, Q', E, E', hQ, hE, h => by
    simp only [xE] at h ⊢
    exact xEs_mono es (fun vs s1 h => xBlt_mono f vs hQ h) hE h
  | .meth m o es, σ, s, Q, Q', E, E', hQ, hE, h => by
    simp only [xE] at h ⊢
    exact xE_mono o (fun x s1 h => ⟨h.1, xEs_mono es (fun vs s2 h => xMeth_mono m x vs hQ h) hE h.2⟩) hE h
  | .lc own tg ik its ifs elt, σ, s, Q, Q', E, E', hQ, hE, h => by
    simp only [xE] at h ⊢
    exact xEs_mono its (fun vs s1 h => xIt_mono ik vs (fun l o h => lcGo_mono (t := fun σ' s' K => xIf G ifs σ' s' K) (f := fun σ' s' K => xE G elt σ' s' K (fun _ _ _ => False)) (fun σ s K K' hK h => xIf_mono ifs hK h) (fun σ s Q Q' hQ h => xE_mono elt hQ (fun _ _ _ h => h) h) _ _ (fun s h => hQ _ _ h) h) h) hE h
theorem xEs_mono : ∀ (es : List EX) {σ : Sl} {s : Sto} {Q Q' : List D → Sto → Prop} {E E' : XQ}, (∀ d s, Q d s → Q' d s) → (∀ c fs s, E c fs s → E' c fs s) → xEs G es σ s Q E → xEs G es σ s Q' E'
  | [], _, _, _, _, _, _, hQ, hE, h => hQ _ _ h
  | e :: es, σ, s, Q, Q', E, E', hQ, hE, h => by
    simp only [xEs] at h ⊢
    exact xE_mono e (fun x s1 h => xEs_mono es (fun xs s2 h => hQ _ _ h) hE h) hE h
theorem xIf_mono : ∀ (es : List EX) {σ : Sl} {s : Sto} {K K' : Bool → Sto → Prop}, (∀ d s, K d s → K' d s) → xIf G es σ s K → xIf G es σ s K'
  | [], _, _, _, _, hK, h => hK _ _ h
  | e :: es, σ, s, K, K', hK, h => by
    simp only [xIf] at h ⊢
    exact xE_mono e (fun x s1 h => br_mono h (fun h => xIf_mono es hK h) (hK _ _)) (fun _ _ _ h => h) h
end
mutual
theorem xS_mono : ∀ (st : ST) {σ : Sl} {s : Sto} {N N' : En}, En.le N N' → xS G st σ s N → xS G st σ s N'
  | .expr e, σ, s, N, N', hN, h => by
    simp only [xS] at h ⊢
    exact xE_mono hG e (fun x s1 h => hN.nx _ _ h) (fun _ _ _ h => hN.ex _ _ _ _ h) h
  | .asg tg e, σ, s, N, N', hN, h => by
    simp only [xS] at h ⊢
    exact xE_mono hG e (fun x s1 h => xTg_mono tg (fun σ h => hN.nx _ _ h) h) (fun _ _ _ h => hN.ex _ _ _ _ h) h
  | .aset o i e, σ, s, N, N', hN, h => by
    simp only [xS] at h ⊢
    exact xE_mono hG e (fun v s1 h => xE_mono hG o (fun x s2 h => xE_mono hG i (fun y s3 h => xAset_mono x y v (fun _ h => hN.nx _ _ h) h) (fun _ _ _ h => hN.ex _ _ _ _ h) h) (fun _ _ _ h => hN.ex _ _ _ _ h) h) (fun _ _ _ h => hN.ex _ _ _ _ h) h
  | .aug i op e, σ, s, N, N', hN, h => by
    simp only [xS] at h ⊢
    split at h
    · exact xE_mono hG e (fun v s1 h => xIp_mono op _ _ (fun _ _ h => hN.nx _ _ h) h) (fun _ _ _ h => hN.ex _ _ _ _ h) h
    · exact absurd h id
  | .ite c a b, σ, s, N, N', hN, h => by
    simp only [xS] at h ⊢
    exact xE_mono hG c (fun x s1 h => br_mono h (fun h => xSs_mono a hN h) (fun h => xSs_mono b hN h)) (fun _ _ _ h => hN.ex _ _ _ _ h) h
  | .whl c b, σ, s, N, N', hN, h => by
    simp only [xS] at h ⊢
    exact whlGo_mono (c := fun σ s Q E => xE G c σ s Q E) (b := fun σ s N => xSs G b σ s N) (fun σ s Q Q' E E' hQ hE h => xE_mono hG c hQ hE h) (fun σ s N N' hN h => xSs_mono b hN h) hN h
  | .for_ tg ik its b, σ, s, N, N', hN, h => by
    simp only [xS] at h ⊢
    exact xEs_mono hG its (fun vs s1 h => xIt_mono ik vs (fun l o h => forGo_mono (b := fun σ s N => xSs G b σ s N) (fun σ s N N' hN h => xSs_mono b hN h) hN _ _ _ h) h) (fun _ _ _ h => hN.ex _ _ _ _ h) h
  | .ret e, σ, s, N, N', hN, h => by
    simp only [xS] at h ⊢
    exact xE_mono hG e hN.rt (fun _ _ _ h => hN.ex _ _ _ _ h) h
  | .brk, _, _, _, _, hN, h => hN.bk _ _ h
  | .cnt, _, _, _, _, hN, h => hN.ct _ _ h
  | .pass, _, _, _, _, hN, h => hN.nx _ _ h
theorem xSs_mono : ∀ (b : List ST) {σ : Sl} {s : Sto} {N N' : En}, En.le N N' → xSs G b σ s N → xSs G b σ s N'
  | [], _, _, _, _, hN, h => hN.nx _ _ h
  | st :: r, σ, s, N, N', hN, h => by
    simp only [xSs] at h ⊢
    exact xS_mono st (N := { N with nx := fun σ s => xSs G r σ s N }) ⟨fun σ s h => xSs_mono r hN h, hN.rt, hN.bk, hN.ct, hN.ex⟩ h
end
end
theorem Lv_mono (T : Nat → Option Fn) : ∀ k, (Lv T k).Mono
  | 0 => fun _ _ _ _ _ _ _ _ _ h => absurd h id
  | k + 1 => fun f vs s Q Q' E E' hQ hE h => by
    simp only [Lv] at h ⊢
    split at h
    · exact absurd h id
    · exact ⟨h.1, xSs_mono (Lv_mono T k) _ (N := { nx := fun _ s' => Q .non s', rt := Q, bk := fun _ _ => False, ct := fun _ _ => False, ex := fun c fs _ s' => E c fs s' }) ⟨fun _ _ h => hQ _ _ h, hQ, fun _ _ h => h, fun _ _ h => h, fun _ _ _ _ h => hE _ _ _ h⟩ h.2⟩
end PX

/-! PX: how plain values and stores stand for the values and heaps of the hand layer. -/
namespace PX
open PySem PySem.Spec PyProof.Rows L2

/-- what of the text the relation leans on: the written part, the constant dicts, the classes, the attributes' names -/
structure Tb where
  K : PySem.W.Frag
  cl : Nat → Option Addr
  at_ : Nat → Str

/-- a list of the written part -/
def KL (K : PySem.W.Frag) (a : Addr) (xs : List V) : Prop :=
  ∃ (o : Obj) (its : Array Value) (n : Nat), K.lookup a = some o ∧ o.cls = .type "list" ∧ o.dict = none ∧ o.data = .seq its n ∧ its.size ≤ sizeLine ∧ Vals xs its.toList
def FrzL (K : PySem.W.Frag) (H : Hp) (a : Addr) (xs : List V) : Prop := (∃ o, H a = some (.frz o (.lst xs))) ∨ KL K a xs
theorem FrzL.sq {K : PySem.W.Frag} {H : Hp} {a : Addr} {xs : List V} (h : FrzL K H a xs) : SqL K H a xs := by
  rcases h with h | h
  · exact .inl (.inr h)
  · exact .inr h
/-- a text that fits -/
def StrOk (x : List Nat) : Prop := x.length ≤ sizeLine ∧ ∀ c ∈ x, c < 1114112
mutual
def RelD (B : Tb) (H : Hp) (ρ : List Addr) : D → V → Prop
  | .non, v => v = .non
  | .bl b, v => v = .bl b
  | .int i, v => v = .int i
  | .str x, v => v = .str ⟨x.toArray⟩ ∧ StrOk x
  | .tup xs, v => ∃ a vs, v = .ref a ∧ SqT B.K H a vs ∧ xs.length ≤ sizeLine ∧ RelDs B H ρ xs vs
  | .fl xs, v => ∃ a vs, v = .ref a ∧ FrzL B.K H a vs ∧ RelDs B H ρ xs vs
  | .kd _, _ => False
  | .ref n, v => ∃ a, v = .ref a ∧ ρ[n]? = some a
def RelDs (B : Tb) (H : Hp) (ρ : List Addr) : List D → List V → Prop
  | [], vs => vs = []
  | x :: xs, vs => ∃ v r, vs = v :: r ∧ RelD B H ρ x v ∧ RelDs B H ρ xs r
end
/-- what never changes is kept -/
structure Keep (H H' : Hp) : Prop where
  tup : ∀ a xs, H a = some (.tup xs) → H' a = some (.tup xs)
  frz : ∀ a o u, H a = some (.frz o u) → H' a = some (.frz o u)
theorem Keep.refl (H : Hp) : Keep H H := ⟨fun _ _ h => h, fun _ _ _ h => h⟩
theorem Keep.trans {H H1 H2 : Hp} (a : Keep H H1) (b : Keep H1 H2) : Keep H H2 := ⟨fun c xs h => b.tup c xs (a.tup c xs h), fun c o u h => b.frz c o u (a.frz c o u h)⟩
theorem Keep.new {H : Hp} {p : Addr} {o : HO} (h : H p = none) : Keep H (upd H p o) :=
  ⟨fun a xs e => by rw [upd_ne (ne_of_none e h)]; exact e, fun a o u e => by rw [upd_ne (ne_of_none e h)]; exact e⟩
theorem Keep.lst {H : Hp} {p : Addr} {xs : List V} {o : HO} (h : H p = some (.lst xs)) : Keep H (upd H p o) :=
  ⟨fun a ys e => by rw [upd_ne (ne_of e h (by intro z; cases z))]; exact e, fun a o u e => by rw [upd_ne (ne_of e h (by intro z; cases z))]; exact e⟩
theorem Keep.sqT {K : PySem.W.Frag} {H H' : Hp} {a : Addr} {xs : List V} (k : Keep H H') (h : SqT K H a xs) : SqT K H' a xs := by
  rcases h with (h | ⟨o, h⟩) | h
  · exact .inl (.inl (k.tup _ _ h))
  · exact .inl (.inr ⟨o, k.frz _ _ _ h⟩)
  · exact .inr h
theorem Keep.frzL {K : PySem.W.Frag} {H H' : Hp} {a : Addr} {xs : List V} (k : Keep H H') (h : FrzL K H a xs) : FrzL K H' a xs := by
  rcases h with ⟨o, h⟩ | h
  · exact .inl ⟨o, k.frz _ _ _ h⟩
  · exact .inr h
section
variable {B : Tb} {H H' : Hp} {ρ ρ' : List Addr}
theorem pre_get {α : Type} {l m : List α} {n : Nat} {a : α} (p : l <+: m) (h : l[n]? = some a) : m[n]? = some a := by
  obtain ⟨r, rfl⟩ := p
  rw [List.getElem?_append_left (List.getElem?_eq_some_iff.mp h).1]
  exact h
mutual
theorem RelD.mono (p : ρ <+: ρ') (k : Keep H H') : ∀ {x : D} {v : V}, RelD B H ρ x v → RelD B H' ρ' x v
  | .non, _, h => h
  | .bl _, _, h => h
  | .int _, _, h => h
  | .str _, _, h => h
  | .tup xs, v, h => by
    obtain ⟨a, vs, e, q, z, r⟩ := h
    exact ⟨a, vs, e, k.sqT q, z, RelDs.mono p k r⟩
  | .fl xs, v, h => by
    obtain ⟨a, vs, e, q, r⟩ := h
    exact ⟨a, vs, e, k.frzL q, RelDs.mono p k r⟩
  | .kd _, _, h => h
  | .ref n, v, h => by
    obtain ⟨a, e, q⟩ := h
    exact ⟨a, e, pre_get p q⟩
theorem RelDs.mono (p : ρ <+: ρ') (k : Keep H H') : ∀ {xs : List D} {vs : List V}, RelDs B H ρ xs vs → RelDs B H' ρ' xs vs
  | [], _, h => h
  | x :: xs, vs, h => by
    obtain ⟨v, r, e, h1, h2⟩ := h
    exact ⟨v, r, e, RelD.mono p k h1, RelDs.mono p k h2⟩
end
theorem RelDs.length : ∀ {xs : List D} {vs : List V}, RelDs B H ρ xs vs → xs.length = vs.length
  | [], vs, h => by
    have e : vs = [] := h
    subst e
    rfl
  | x :: xs, vs, h => by
    obtain ⟨v, r, rfl, _, h2⟩ := h
    rw [List.length_cons, List.length_cons, RelDs.length h2]
theorem RelDs.get : ∀ {xs : List D} {vs : List V}, RelDs B H ρ xs vs → ∀ {i : Nat} {x : D}, xs[i]? = some x → ∃ v, vs[i]? = some v ∧ RelD B H ρ x v
  | [], _, h, i, x, e => by simp at e
  | y :: xs, vs, h, i, x, e => by
    obtain ⟨v, r, rfl, h1, h2⟩ := h
    cases i with
    | zero =>
      have e' : y = x := Option.some.inj e
      subst e'
      exact ⟨v, rfl, h1⟩
    | succ i => exact RelDs.get h2 (i := i) e
theorem RelDs.getV : ∀ {xs : List D} {vs : List V}, RelDs B H ρ xs vs → ∀ {i : Nat} {v : V}, vs[i]? = some v → ∃ x, xs[i]? = some x ∧ RelD B H ρ x v
  | [], vs, h, i, x, e => by
    have e' : vs = [] := h
    subst e'
    simp at e
  | y :: xs, vs, h, i, x, e => by
    obtain ⟨v, r, rfl, h1, h2⟩ := h
    cases i with
    | zero =>
      have e' : v = x := Option.some.inj e
      subst e'
      exact ⟨y, rfl, h1⟩
    | succ i => exact RelDs.getV h2 (i := i) e
theorem RelDs.append : ∀ {xs ys : List D} {vs ws : List V}, RelDs B H ρ xs vs → RelDs B H ρ ys ws → RelDs B H ρ (xs ++ ys) (vs ++ ws)
  | [], ys, vs, ws, h, q => by
    have e : vs = [] := h
    subst e
    exact q
  | x :: xs, ys, vs, ws, h, q => by
    obtain ⟨v, r, rfl, h1, h2⟩ := h
    exact ⟨v, r ++ ws, rfl, h1, RelDs.append h2 q⟩
theorem RelDs.take : ∀ {xs : List D} {vs : List V} (n : Nat), RelDs B H ρ xs vs → RelDs B H ρ (xs.take n) (vs.take n)
  | _, _, 0, _ => rfl
  | [], vs, n + 1, h => by rw [show vs = [] from h]; rfl
  | x :: xs, vs, n + 1, h => by
    obtain ⟨v, r, rfl, h1, h2⟩ := h
    exact ⟨v, r.take n, rfl, h1, RelDs.take n h2⟩
theorem RelDs.drop : ∀ {xs : List D} {vs : List V} (n : Nat), RelDs B H ρ xs vs → RelDs B H ρ (xs.drop n) (vs.drop n)
  | _, _, 0, h => h
  | [], vs, n + 1, h => by rw [show vs = [] from h]; rfl
  | x :: xs, vs, n + 1, h => by
    obtain ⟨v, r, rfl, h1, h2⟩ := h
    exact RelDs.drop n h2
theorem RelDs.set {x : D} {v : V} (hx : RelD B H ρ x v) : ∀ {xs : List D} {vs : List V} (n : Nat), RelDs B H ρ xs vs → RelDs B H ρ (xs.set n x) (vs.set n v)
  | [], vs, n, h => by rw [show vs = [] from h]; rfl
  | y :: xs, vs, 0, h => by
    obtain ⟨w, r, rfl, h1, h2⟩ := h
    exact ⟨v, r, rfl, hx, h2⟩
  | y :: xs, vs, n + 1, h => by
    obtain ⟨w, r, rfl, h1, h2⟩ := h
    exact ⟨w, _, rfl, h1, RelDs.set hx n h2⟩
theorem RelDs.dropLast {xs : List D} {vs : List V} (h : RelDs B H ρ xs vs) : RelDs B H ρ xs.dropLast vs.dropLast := by
  rw [List.dropLast_eq_take, List.dropLast_eq_take, ← h.length]
  exact h.take _
theorem RelDs.reverse : ∀ {xs : List D} {vs : List V}, RelDs B H ρ xs vs → RelDs B H ρ xs.reverse vs.reverse
  | [], vs, h => by rw [show vs = [] from h]; rfl
  | x :: xs, vs, h => by
    obtain ⟨v, r, rfl, h1, h2⟩ := h
    rw [List.reverse_cons, List.reverse_cons]
    exact (RelDs.reverse h2).append ⟨v, [], rfl, h1, rfl⟩
theorem RelDs.rep {xs : List D} {vs : List V} (h : RelDs B H ρ xs vs) : ∀ k : Nat, RelDs B H ρ (List.replicate k xs).flatten (List.replicate k vs).flatten
  | 0 => rfl
  | k + 1 => by
    rw [List.replicate_succ, List.replicate_succ, List.flatten_cons, List.flatten_cons]
    exact h.append (RelDs.rep h k)
theorem RelDs.cut {xs : List D} {vs : List V} (h : RelDs B H ρ xs vs) (lo hi : Option Int) : RelDs B H ρ (PX.cut xs lo hi) (cutV vs lo hi) := by
  unfold PX.cut cutV
  rw [h.length]
  exact (h.drop _).take _
theorem RelDs.ints : ∀ {ns : List Int}, RelDs B H ρ (ns.map D.int) (ns.map V.int)
  | [] => rfl
  | n :: ns => ⟨_, _, rfl, rfl, RelDs.ints⟩
/-- what stands at an address -/
def RelO (B : Tb) (H : Hp) (ρ : List Addr) (a : Addr) : Ob → Prop
  | .lst xs => ∃ vs, H a = some (.lst vs) ∧ RelDs B H ρ xs vs
  | .ins _ _ => False
  | .dic _ => False
structure RelS (B : Tb) (H : Hp) (ρ : List Addr) (s : Sto) : Prop where
  len : ρ.length = s.length
  nd : ρ.Nodup
  ob : ∀ (n : Nat) (a : Addr) (o : Ob), ρ[n]? = some a → s[n]? = some o → RelO B H ρ a o
theorem RelS.lstOf {s : Sto} (S : RelS B H ρ s) {n : Nat} {a : Addr} {xs : List D} (e : ρ[n]? = some a) (h : s[n]? = some (.lst xs)) : ∃ vs, H a = some (.lst vs) ∧ RelDs B H ρ xs vs := S.ob n a _ e h
theorem RelS.obj {s : Sto} (S : RelS B H ρ s) {n : Nat} {a : Addr} (e : ρ[n]? = some a) : ∃ o, H a = some o := by
  have h1 : n < s.length := by rw [← S.len]; exact (List.getElem?_eq_some_iff.mp e).1
  have h2 := S.ob n a s[n] e (List.getElem?_eq_getElem h1)
  cases h3 : s[n] with
  | lst xs => rw [h3] at h2; exact ⟨_, h2.choose_spec.1⟩
  | ins c fs => rw [h3] at h2; exact h2.elim
  | dic kvs => rw [h3] at h2; exact h2.elim
/-- a new object -/
theorem RelS.push {s : Sto} (S : RelS B H ρ s) {p : Addr} {o : HO} {ob : Ob} (hp : H p = none) (h : RelO B (upd H p o) (ρ ++ [p]) p ob) : RelS B (upd H p o) (ρ ++ [p]) (s ++ [ob]) := by
  refine ⟨by simp [S.len], ?_, fun n a o' e1 e2 => ?_⟩
  · refine List.nodup_append.mpr ⟨S.nd, by simp, fun x hx y hy z => ?_⟩
    obtain ⟨n, hn⟩ := List.getElem?_of_mem hx
    obtain ⟨o', ho⟩ := S.obj hn
    rw [z, List.mem_singleton.mp hy, hp] at ho
    cases ho
  · by_cases hn : n < s.length
    · rw [List.getElem?_append_left hn] at e2
      rw [List.getElem?_append_left (by rw [S.len]; exact hn)] at e1
      have q := S.ob n a o' e1 e2
      have k : Keep H (upd H p o) := .new hp
      cases o' with
      | lst xs =>
        obtain ⟨vs, h1, h2⟩ := q
        exact ⟨vs, by rw [upd_ne (ne_of_none h1 hp)]; exact h1, h2.mono (List.prefix_append _ _) k⟩
      | ins c fs => exact q.elim
      | dic kvs => exact q.elim
    · have hn' : n = s.length := by
        have := (List.getElem?_eq_some_iff.mp e2).1
        rw [List.length_append, List.length_singleton] at this
        omega
      subst hn'
      rw [List.getElem?_append_right (Nat.le_refl _), Nat.sub_self] at e2
      rw [List.getElem?_append_right (by rw [S.len]; exact Nat.le_refl _), S.len, Nat.sub_self] at e1
      cases Option.some.inj e1
      cases Option.some.inj e2
      exact h
/-- a list is written -/
theorem RelS.setL {s : Sto} (S : RelS B H ρ s) {n : Nat} {p : Addr} {xs ys : List D} {vs ws : List V} (e : ρ[n]? = some p) (hs : s[n]? = some (.lst xs)) (h : H p = some (.lst vs)) (r : RelDs B H ρ ys ws) :
    RelS B (upd H p (.lst ws)) ρ (s.set n (.lst ys)) := by
  have k : Keep H (upd H p (.lst ws)) := .lst h
  refine ⟨by rw [List.length_set]; exact S.len, S.nd, fun m a o' e1 e2 => ?_⟩
  by_cases hm : m = n
  · subst hm
    rw [List.getElem?_set_self (List.getElem?_eq_some_iff.mp hs).1] at e2
    rw [e] at e1
    cases Option.some.inj e1
    cases Option.some.inj e2
    exact ⟨ws, upd_same, r.mono (List.prefix_refl _) k⟩
  · rw [List.getElem?_set_ne (Ne.symm hm)] at e2
    have hne : a ≠ p := fun z => by
      have e1' : ρ[m]? = some p := by rw [← z]; exact e1
      have h1 := List.getElem?_eq_some_iff.mp e1'
      have h2 := List.getElem?_eq_some_iff.mp e
      exact hm ((List.getElem_inj S.nd).mp (h1.2.trans h2.2.symm))
    have q := S.ob m a o' e1 e2
    cases o' with
    | lst xs =>
      obtain ⟨vs, h1, h2⟩ := q
      exact ⟨vs, by rw [upd_ne hne]; exact h1, h2.mono (List.prefix_refl _) k⟩
    | ins c fs => exact q.elim
    | dic kvs => exact q.elim
/-- slots -/
structure RelL (B : Tb) (H : Hp) (ρ : List Addr) (σ : Sl) (σV : L2.St) : Prop where
  len : σ.length = σV.length
  at_ : ∀ (i : Nat) (d : D), σ[i]? = some (some d) → ∃ v, σV[i]? = some (some v) ∧ RelD B H ρ d v
theorem RelL.mono {σ : Sl} {σV : L2.St} (r : RelL B H ρ σ σV) (p : ρ <+: ρ') (k : Keep H H') : RelL B H' ρ' σ σV :=
  ⟨r.len, fun i d e => let ⟨v, h1, h2⟩ := r.at_ i d e; ⟨v, h1, h2.mono p k⟩⟩
theorem RelL.set {σ : Sl} {σV : L2.St} (r : RelL B H ρ σ σV) {d : D} {v : V} (h : RelD B H ρ d v) (i : Nat) : RelL B H ρ (σ.set i (some d)) (σV.set i (some v)) := by
  refine ⟨by simp [r.len], fun j x e => ?_⟩
  by_cases hj : i = j
  · subst hj
    have hi : i < σ.length := by
      have := (List.getElem?_eq_some_iff.mp e).1
      simpa using this
    rw [List.getElem?_set_self hi] at e
    cases Option.some.inj (Option.some.inj e)
    exact ⟨v, List.getElem?_set_self (by rw [← r.len]; exact hi), h⟩
  · rw [List.getElem?_set_ne hj] at e ⊢
    exact r.at_ j x e
theorem RelL.wipe {σ : Sl} {σV : L2.St} (r : RelL B H ρ σ σV) : ∀ vs : List Nat, RelL B H ρ (wipeS σ vs) (wipe σV vs)
  | [] => r
  | v :: vs => by
    have ih := RelL.wipe r vs
    refine ⟨by simp [wipeS, L2.wipe, ih.len], fun j x e => ?_⟩
    unfold wipeS at e
    by_cases hj : v = j
    · subst hj
      by_cases hv : v < (wipeS σ vs).length
      · rw [List.getElem?_set_self hv] at e; cases e
      · rw [List.getElem?_eq_none (by simpa using hv)] at e; cases e
    · rw [List.getElem?_set_ne hj] at e
      unfold L2.wipe
      rw [List.getElem?_set_ne hj]
      exact ih.at_ j x e
end

/-- what is wanted of a plain value, as of a value -/
def Lift (B : Tb) (H : Hp) (ρ : List Addr) (Q : VK) : QE := fun d s' => ∀ ρ' H' v, ρ <+: ρ' → Keep H H' → RelD B H' ρ' d v → RelS B H' ρ' s' → Q v H'
def LiftA (B : Tb) (H : Hp) (ρ : List Addr) (Q : List V → Hp → Prop) : List D → Sto → Prop := fun ds s' => ∀ ρ' H' vs, ρ <+: ρ' → Keep H H' → RelDs B H' ρ' ds vs → RelS B H' ρ' s' → Q vs H'
/-- an exception that leaves -/
abbrev WQ := Nat → List (Nat × D) → L2.St → Hp → List Addr → Sto → Prop
def LiftX (B : Tb) (H : Hp) (ρ : List Addr) (σ : L2.St) (W : WQ) : XQ := fun c fs s' => ∀ ρ' H', ρ <+: ρ' → Keep H H' → RelS B H' ρ' s' → W c fs σ H' ρ' s'
section
variable {B : Tb} {H H' : Hp} {ρ ρ' : List Addr} {s : Sto}
theorem Lift.mono {Q : VK} {d : D} {s : Sto} (p : ρ <+: ρ') (k : Keep H H') (h : Lift B H ρ Q d s) : Lift B H' ρ' Q d s :=
  fun ρ2 H2 v p2 k2 r S => h ρ2 H2 v (p.trans p2) (k.trans k2) r S
theorem LiftX.mono {W : WQ} {σ : L2.St} {c : Nat} {fs : List (Nat × D)} {s : Sto} (p : ρ <+: ρ') (k : Keep H H') (h : LiftX B H ρ σ W c fs s) : LiftX B H' ρ' σ W c fs s :=
  fun ρ2 H2 p2 k2 S => h ρ2 H2 (p.trans p2) (k.trans k2) S
theorem Lift.here {Q : VK} {d : D} {s : Sto} {v : V} (h : Lift B H ρ Q d s) (r : RelD B H ρ d v) (S : RelS B H ρ s) : Q v H := h ρ H v (List.prefix_refl _) (Keep.refl _) r S
/-- a new list -/
theorem mk_new {Q : VK} {xs : List D} {vs : List V} (S : RelS B H ρ s) (r : RelDs B H ρ xs vs) (h : mk (.lst xs) s (Lift B H ρ Q)) {p : Addr} (hp : H p = none) : Q (.ref p) (upd H p (.lst vs)) := by
  have k : Keep H (upd H p (.lst vs)) := .new hp
  have pr : ρ <+: ρ ++ [p] := List.prefix_append _ _
  refine h (ρ ++ [p]) _ (.ref p) pr k ⟨p, rfl, ?_⟩ (S.push hp ⟨vs, upd_same, r.mono pr k⟩)
  rw [← S.len, List.getElem?_append_right (Nat.le_refl _), Nat.sub_self]
  rfl
/-- a new tuple -/
theorem tup_new {Q : VK} {xs : List D} {vs : List V} (S : RelS B H ρ s) (r : RelDs B H ρ xs vs) (hz : xs.length ≤ sizeLine) (h : Lift B H ρ Q (.tup xs) s) {p : Addr} (hp : H p = none) : Q (.ref p) (upd H p (.tup vs)) := by
  have k : Keep H (upd H p (.tup vs)) := .new hp
  refine h ρ _ (.ref p) (List.prefix_refl _) k ⟨p, vs, rfl, .inl (.inl upd_same), hz, r.mono (List.prefix_refl _) k⟩ ⟨S.len, S.nd, fun n a o e1 e2 => ?_⟩
  have q := S.ob n a o e1 e2
  cases o with
  | lst xs =>
    obtain ⟨vs, h1, h2⟩ := q
    exact ⟨vs, by rw [upd_ne (ne_of_none h1 hp)]; exact h1, h2.mono (List.prefix_refl _) k⟩
  | ins c fs => exact q.elim
  | dic kvs => exact q.elim
/-- a list is written, and None handed back, or another thing -/
theorem set_lst {Q : VK} {d : D} {v : V} {n : Nat} {p : Addr} {xs ys : List D} {vs ws : List V} (S : RelS B H ρ s) (e : ρ[n]? = some p) (hs : s[n]? = some (.lst xs)) (hp : H p = some (.lst vs)) (r : RelDs B H ρ ys ws) (rd : RelD B H ρ d v)
    (h : Lift B H ρ Q d (s.set n (.lst ys))) : Q v (upd H p (.lst ws)) :=
  h ρ _ v (List.prefix_refl _) (.lst hp) (rd.mono (List.prefix_refl _) (.lst hp)) (S.setL e hs hp r)
/-- a sequence is read -/
theorem seq_of {x : D} {v : V} {xs : List D} (S : RelS B H ρ s) (r : RelD B H ρ x v) (h : seqOf s x = some xs) : ∃ a vs, v = .ref a ∧ (SqL B.K H a vs ∨ SqT B.K H a vs) ∧ RelDs B H ρ xs vs := by
  cases x <;> simp only [seqOf] at h
  case tup ys =>
    cases h
    obtain ⟨a, vs, e, q, _, r⟩ := r
    exact ⟨a, vs, e, .inr q, r⟩
  case fl ys =>
    cases h
    obtain ⟨a, vs, e, q, r⟩ := r
    exact ⟨a, vs, e, .inl q.sq, r⟩
  case ref n =>
    obtain ⟨a, e, q⟩ := r
    split at h
    · rename_i ys hs
      cases h
      obtain ⟨vs, h1, h2⟩ := S.lstOf q hs
      exact ⟨a, vs, e, .inl (.inl (.inl h1)), h2⟩
    · cases h
  all_goals cases h
/-- .. and no tuple: a list -/
theorem seq_list {x : D} {v : V} {xs : List D} (S : RelS B H ρ s) (r : RelD B H ρ x v) (h : seqOf s x = some xs) (hn : ∀ ys, x ≠ .tup ys) : ∃ a vs, v = .ref a ∧ SqL B.K H a vs ∧ RelDs B H ρ xs vs := by
  cases x <;> simp only [seqOf] at h
  case tup ys => exact absurd rfl (hn ys)
  case fl ys =>
    cases h
    obtain ⟨a, vs, e, q, r⟩ := r
    exact ⟨a, vs, e, q.sq, r⟩
  case ref n =>
    obtain ⟨a, e, q⟩ := r
    split at h
    · rename_i ys hs
      cases h
      obtain ⟨vs, h1, h2⟩ := S.lstOf q hs
      exact ⟨a, vs, e, .inl (.inl h1), h2⟩
    · cases h
  all_goals cases h
theorem rel_one {x : D} {v : V} (r : RelD B H ρ x v) : RelDs B H ρ [x] [v] := ⟨v, [], rfl, r, rfl⟩
end
end PX

/-! PX: the operations, sound. -/
namespace PX
open PySem PySem.Spec PyProof.Rows L2
abbrev F2 := D → D → Sto → QE → Prop
def rO (B : Tb) (f : F2) : R2 := fun vx vy H Q => ∃ (x y : D) (s : Sto) (ρ : List Addr), RelD B H ρ x vx ∧ RelD B H ρ y vy ∧ RelS B H ρ s ∧ f x y s (Lift B H ρ Q)
theorem int_of {B : Tb} {H : Hp} {ρ : List Addr} {i : Int} {v : V} (r : RelD B H ρ (.int i) v) : v = .int i := r
theorem toArr_add (a b : List Nat) : (⟨a.toArray⟩ : Str) ++ ⟨b.toArray⟩ = ⟨(a ++ b).toArray⟩ := by
  show (⟨a.toArray ++ b.toArray⟩ : Str) = _
  rw [List.append_toArray]
theorem toArr_len (a : List Nat) : (⟨a.toArray⟩ : Str).length = a.length := by
  show a.toArray.size = a.length
  exact List.size_toArray
theorem StrOk.add {a b : List Nat} (h1 : StrOk a) (h2 : StrOk b) (h : a.length + b.length ≤ sizeLine) : StrOk (a ++ b) :=
  ⟨by rw [List.length_append]; exact h, fun c hc => (List.mem_append.mp hc).elim (h1.2 c) (h2.2 c)⟩
theorem StrOk.sub {a b : List Nat} (h1 : StrOk a) (h : ∀ c ∈ b, c ∈ a) (hl : b.length ≤ a.length) : StrOk b := ⟨Nat.le_trans hl h1.1, fun c hc => h1.2 c (h c hc)⟩
theorem StrOk.rep {a : List Nat} (h1 : StrOk a) (k : Nat) (h : a.length * k ≤ sizeLine) : StrOk (List.replicate k a).flatten := by
  refine ⟨?_, fun c hc => ?_⟩
  · rw [List.length_flatten, List.map_replicate, List.sum_replicate_nat, Nat.mul_comm]
    exact h
  · obtain ⟨l, hl, hc⟩ := List.mem_flatten.mp hc
    rw [(List.mem_replicate.mp hl).2] at hc
    exact h1.2 c hc
theorem txt_mul (a : List Nat) (n : Int) : Txt.mul ⟨a.toArray⟩ n = ⟨(List.replicate n.toNat a).flatten.toArray⟩ := by
  have f0 : ∀ (m : Nat) (acc : List Nat), List.foldl (fun x1 x2 => x1 ++ x2) acc.toArray (List.replicate m a.toArray) = (acc ++ (List.replicate m a).flatten).toArray := by
    intro m
    induction m with
    | zero => intro acc; simp
    | succ m ih =>
      intro acc
      rw [List.replicate_succ, List.foldl_cons, List.replicate_succ, List.flatten_cons, List.append_toArray, ih, List.append_assoc]
  unfold Txt.mul
  by_cases h1 : n < 1
  · rw [if_pos h1, show n.toNat = 0 by omega]
    rfl
  · rw [if_neg h1]
    by_cases h2 : (n == 1 || (⟨a.toArray⟩ : Str).length == 0) = true
    · rw [if_pos h2, toArr_len] at *
      rw [Bool.or_eq_true] at h2
      rcases h2 with h2 | h2
      · have e : n = 1 := by simpa using h2
        subst e
        simp
      · have e : a = [] := by simpa using h2
        subst e
        simp
    · rw [if_neg h2]
      have := f0 n.toNat []
      rw [show ([] : List Nat).toArray = #[] from rfl, List.nil_append] at this
      rw [this]
section
variable {X : Cx} {B : Tb} (hK : B.K = X.K) (hu : X.A.units + 65 < cLine)
section
include hK
theorem or_add : OpR X (binaryOp .Add) (rO B (xBin .Add)) := by
  intro pins s σ H vx vy v u Q I rx ry h
  obtain ⟨x, y, st, ρ, r1, r2, S, h⟩ := h
  cases x <;> cases y <;> simp only [xBin] at h
  case int.int i j =>
    cases int_of r1; cases int_of r2
    exact op_add pins s σ H _ _ v u Q I rx ry ⟨i, j, rfl, rfl, h.here rfl S⟩
  case str.str a b =>
    obtain ⟨rfl, z1⟩ := r1
    obtain ⟨rfl, z2⟩ := r2
    refine op_add_str pins s σ H _ _ v u Q I rx ry ⟨_, _, rfl, rfl, by rw [toArr_len, toArr_len]; exact h.1, ?_⟩
    rw [toArr_add]
    exact h.2.here ⟨rfl, z1.add z2 h.1⟩ S
  case tup.tup a b =>
    obtain ⟨p, vs, rfl, q1, z1, d1⟩ := id r1
    obtain ⟨p2, ws, rfl, q2, z2, d2⟩ := id r2
    have l1 := d1.length
    have l2 := d2.length
    refine op_catA pins s σ H _ _ v u Q I rx ry ⟨p, p2, vs, ws, rfl, rfl, hK ▸ q1, hK ▸ q2, by rw [← l1, ← l2]; exact h.1, fun e => ?_, fun _ e => ?_, fun _ _ t ht => ?_⟩
    · subst e
      have e : a = [] := List.eq_nil_of_length_eq_zero l1
      subst e
      exact h.2.here r2 S
    · subst e
      have e : b = [] := List.eq_nil_of_length_eq_zero l2
      subst e
      rw [List.append_nil] at h
      exact h.2.here r1 S
    · exact tup_new S (d1.append d2) (by rw [List.length_append]; exact h.1) h.2 ht
  case ref.ref m n =>
    obtain ⟨p, rfl, e1⟩ := r1
    obtain ⟨p2, rfl, e2⟩ := r2
    split at h
    · rename_i a b h1 h2
      obtain ⟨vs, g1, d1⟩ := S.lstOf e1 h1
      obtain ⟨ws, g2, d2⟩ := S.lstOf e2 h2
      refine op_cat pins s σ H _ _ v u Q I rx ry ⟨p, p2, vs, ws, rfl, rfl, g1, g2, by rw [← d1.length, ← d2.length]; exact h.1, fun l hl => ?_⟩
      exact mk_new S (d1.append d2) h.2 hl
    · exact h.elim
  all_goals exact h.elim
end
theorem or_sub : OpR X (binaryOp .Sub) (rO B (xBin .Sub)) := by
  intro pins s σ H vx vy v u Q I rx ry h
  obtain ⟨x, y, st, ρ, r1, r2, S, h⟩ := h
  cases x <;> cases y <;> simp only [xBin] at h
  case int.int i j =>
    cases int_of r1; cases int_of r2
    exact op_sub pins s σ H _ _ v u Q I rx ry ⟨i, j, rfl, rfl, h.here rfl S⟩
  all_goals exact h.elim
theorem or_mul : OpR X (binaryOp .Mult) (rO B (xBin .Mult)) := by
  intro pins s σ H vx vy v u Q I rx ry h
  obtain ⟨x, y, st, ρ, r1, r2, S, h⟩ := h
  cases x <;> cases y <;> simp only [xBin] at h
  case int.int i j =>
    cases int_of r1; cases int_of r2
    exact op_mulW pins s σ H _ _ v u Q I rx ry ⟨i, j, rfl, rfl, h.1, h.2.here rfl S⟩
  case str.int a j =>
    obtain ⟨rfl, z1⟩ := r1
    cases int_of r2
    obtain ⟨t, rfl⟩ := rx
    obtain ⟨t', rfl⟩ := ry
    have hz : a.length * j.toNat ≤ sizeLine := Nat.le_trans h.1.2.2 (by decide)
    have hs : sizeLine = 16777216 := rfl
    refine PySem.SB.mul ⟨?_, fun h1 h2 h3 => ?_, fun _ _ => ?_⟩ fun t' k => ?_
    · have h1 := h.1.1
      have h2 := h.1.2.1
      rw [Bool.or_eq_false_iff]
      exact ⟨decide_eq_false (by omega), decide_eq_false (by omega)⟩
    · rw [toArr_len] at h3
      have e : (a.length : Int) ≤ (2 ^ 63 - 1) / j := by
        rw [Int.le_ediv_iff_mul_le (by omega)]
        have e1 : ((a.length * j.toNat : Nat) : Int) = (a.length : Int) * j := by
          rw [Int.natCast_mul, Int.toNat_of_nonneg h.1.1]
        have e2 : ((a.length * j.toNat : Nat) : Int) ≤ 16777216 := by
          have := h.1.2.2
          omega
        omega
      omega
    · rw [toArr_len]
      show decide (a.length * j.toNat > sizeLine) = false
      exact decide_eq_false (by omega)
    · refine ⟨.str (Txt.mul ⟨a.toArray⟩ j), H, I.tok _, ⟨_, rfl⟩, ?_⟩
      rw [txt_mul]
      exact h.2.here ⟨rfl, z1.rep _ hz⟩ S
  case ref.int n j =>
    obtain ⟨p, rfl, e1⟩ := r1
    cases int_of r2
    split at h
    · rename_i a h1
      obtain ⟨vs, g1, d1⟩ := S.lstOf e1 h1
      refine op_rep pins s σ H _ _ v u Q I rx ry ⟨p, j, vs, rfl, rfl, g1, h.1.1, h.1.2.1, by rw [← d1.length]; exact h.1.2.2, fun l hl => ?_⟩
      exact mk_new S (d1.rep _) h.2 hl
    · exact h.elim
  all_goals exact h.elim
theorem or_fdiv : OpR X (binaryOp .FloorDiv) (rO B (xBin .FloorDiv)) := by
  intro pins s σ H vx vy v u Q I rx ry h
  obtain ⟨x, y, st, ρ, r1, r2, S, h⟩ := h
  cases x <;> cases y <;> simp only [xBin] at h
  case int.int i j =>
    cases int_of r1; cases int_of r2
    exact op_fdivW pins s σ H _ _ v u Q I rx ry ⟨i, j, rfl, rfl, h.1, h.2.here rfl S⟩
  all_goals exact h.elim
theorem or_mod : OpR X (binaryOp .Mod) (rO B (xBin .Mod)) := by
  intro pins s σ H vx vy v u Q I rx ry h
  obtain ⟨x, y, st, ρ, r1, r2, S, h⟩ := h
  cases x <;> cases y <;> simp only [xBin] at h
  case int.int i j =>
    cases int_of r1; cases int_of r2
    exact op_mod pins s σ H _ _ v u Q I rx ry ⟨i, j, rfl, rfl, h.1, h.2.here rfl S⟩
  all_goals exact h.elim
theorem or_pow : OpR X (binaryOp .Pow) (rO B (xBin .Pow)) := by
  intro pins s σ H vx vy v u Q I rx ry h
  obtain ⟨x, y, st, ρ, r1, r2, S, h⟩ := h
  cases x <;> cases y <;> simp only [xBin] at h
  case int.int i j =>
    cases int_of r1; cases int_of r2
    exact op_pow pins s σ H _ _ v u Q I rx ry ⟨i, j, rfl, rfl, h.1, h.2.here rfl S⟩
  all_goals exact h.elim
theorem or_iadd : OpR X (inplaceOp .Add) (rO B (xIp .Add)) := by
  intro pins s σ H vx vy v u Q I rx ry h
  obtain ⟨x, y, st, ρ, r1, r2, S, h⟩ := h
  cases x <;> cases y <;> simp only [xIp] at h
  case int.int i j =>
    cases int_of r1; cases int_of r2
    exact iop_add pins s σ H _ _ v u Q I rx ry ⟨i, j, rfl, rfl, h.here rfl S⟩
  case str.str a b =>
    obtain ⟨rfl, z1⟩ := r1
    obtain ⟨rfl, z2⟩ := r2
    refine iop_add_str pins s σ H _ _ v u Q I rx ry ⟨_, _, rfl, rfl, by rw [toArr_len, toArr_len]; exact h.1, ?_⟩
    rw [toArr_add]
    exact h.2.here ⟨rfl, z1.add z2 h.1⟩ S
  all_goals exact h.elim
theorem or_isub : OpR X (inplaceOp .Sub) (rO B (xIp .Sub)) := by
  intro pins s σ H vx vy v u Q I rx ry h
  obtain ⟨x, y, st, ρ, r1, r2, S, h⟩ := h
  cases x <;> cases y <;> simp only [xIp] at h
  case int.int i j =>
    cases int_of r1; cases int_of r2
    exact iop_sub pins s σ H _ _ v u Q I rx ry ⟨i, j, rfl, rfl, h.here rfl S⟩
  all_goals exact h.elim

/-! ### comparisons -/
mutual
def toPy : D → PyData
  | .non => .none
  | .bl b => .bool b
  | .int i => .int i
  | .str x => .str ⟨x.toArray⟩
  | .tup xs => .tuple (toPys xs)
  | .fl xs => .list (toPys xs)
  | .kd _ => .none
  | .ref _ => .none
def toPys : List D → List PyData
  | [] => []
  | x :: xs => toPy x :: toPys xs
end
def xCmp (op : CmpOp) : F2 := fun x y s Q => obl (cmpD s op x y) fun c => Q (.bl c) s
theorem str_lay {a : List Nat} (h : StrOk a) : PyData.strOk ⟨a.toArray⟩ = true := by
  show a.toArray.all (· < 0x110000) = true
  rw [List.all_toArray, List.all_eq_true]
  exact fun c hc => decide_eq_true (h.2 c hc)
section
variable {K : PySem.W.Frag} {H : Hp} {ρ : List Addr}
mutual
theorem resW_dp {r : Nat → Option D} (hr : ∀ (n : Nat) (a : Addr) (x' : D), r n = some x' → ρ[n]? = some a → Dp B.K H (.ref a) (toPy x') ∧ PyData.canLay0 (toPy x') = true) :
    ∀ (x : D) {v : V} {x' : D}, RelD B H ρ x v → resW r x = some x' → Dp B.K H v (toPy x') ∧ PyData.canLay0 (toPy x') = true
  | .non, v, x', h, e => by
    cases (show v = .non from h)
    cases e
    exact ⟨.non, rfl⟩
  | .bl b, v, x', h, e => by
    cases (show v = .bl b from h)
    cases e
    exact ⟨.bl b, rfl⟩
  | .int i, v, x', h, e => by
    cases (show v = .int i from h)
    cases e
    exact ⟨.int i, rfl⟩
  | .str a, v, x', h, e => by
    obtain ⟨rfl, z⟩ := h
    cases e
    exact ⟨.str _, by simp only [toPy, PyData.canLay0]; exact str_lay z⟩
  | .kd n, v, x', h, e => h.elim
  | .ref n, v, x', h, e => by
    obtain ⟨a, rfl, q⟩ := h
    exact hr n a x' e q
  | .tup xs, v, x', h, e => by
    obtain ⟨a, vs, rfl, q, _, d⟩ := h
    simp only [resW] at e
    cases e2 : resWs r xs with
    | none => rw [e2] at e; cases e
    | some ys =>
      rw [e2] at e
      cases e
      obtain ⟨h1, h2⟩ := resWs_dp hr xs d e2
      exact ⟨by simp only [toPy]; exact .tup q h1, by simp only [toPy, PyData.canLay0]; exact h2⟩
  | .fl xs, v, x', h, e => by
    obtain ⟨a, vs, rfl, q, d⟩ := h
    simp only [resW] at e
    cases e2 : resWs r xs with
    | none => rw [e2] at e; cases e
    | some ys =>
      rw [e2] at e
      cases e
      obtain ⟨h1, h2⟩ := resWs_dp hr xs d e2
      exact ⟨by simp only [toPy]; exact .lst q.sq h1, by simp only [toPy, PyData.canLay0]; exact h2⟩
theorem resWs_dp {r : Nat → Option D} (hr : ∀ (n : Nat) (a : Addr) (x' : D), r n = some x' → ρ[n]? = some a → Dp B.K H (.ref a) (toPy x') ∧ PyData.canLay0 (toPy x') = true) :
    ∀ (xs : List D) {vs : List V} {ys : List D}, RelDs B H ρ xs vs → resWs r xs = some ys → DpAll B.K H vs (toPys ys) ∧ PyData.canLayAll0 (toPys ys) = true
  | [], vs, ys, h, e => by
    cases (show vs = [] from h)
    cases e
    exact ⟨.nil, rfl⟩
  | x :: xs, vs, ys, h, e => by
    obtain ⟨v, rr, rfl, h1, h2⟩ := h
    simp only [resWs] at e
    split at e
    · rename_i y zs e1 e2
      cases e
      obtain ⟨g1, g2⟩ := resW_dp hr x h1 e1
      obtain ⟨g3, g4⟩ := resWs_dp hr xs h2 e2
      exact ⟨.cons g1 g3, by simp only [toPys, PyData.canLayAll0, g2, g4, Bool.and_self]⟩
    · cases e
end
theorem res_dp {s : Sto} (S : RelS B H ρ s) : ∀ (k : Nat) (x : D) {v : V} {x' : D}, RelD B H ρ x v → res s k x = some x' → Dp B.K H v (toPy x') ∧ PyData.canLay0 (toPy x') = true
  | 0, x, v, x', h, e => resW_dp (fun _ _ _ z => by cases z) x h e
  | k + 1, x, v, x', h, e => by
    refine resW_dp (fun n a x' e q => ?_) x h e
    split at e
    · rename_i xs hs
      obtain ⟨vs, h1, h2⟩ := S.lstOf q hs
      cases e2 : resWs (fun m => res s k (.ref m)) xs with
      | none => rw [e2] at e; cases e
      | some ys =>
        rw [e2] at e
        cases e
        obtain ⟨g1, g2⟩ := resWs_dp (fun n a x' e q => res_dp S k (.ref n) ⟨a, rfl, q⟩ e) xs h2 e2
        exact ⟨by simp only [toPy]; exact .lst (.inl (.inl h1)) g1, by simp only [toPy, PyData.canLay0]; exact g2⟩
    · cases e
end
mutual
theorem nob_depth : ∀ (k : Nat) (x : D), nob k x = true → PyData.depth (toPy x) ≤ k
  | _, .non, _ => Nat.zero_le _
  | _, .int _, _ => Nat.zero_le _
  | _, .str _, _ => Nat.zero_le _
  | k + 1, .tup xs, h => by
    simp only [toPy, PyData.depth]
    exact Nat.succ_le_succ (nobs_depth k xs h)
  | k + 1, .fl xs, h => by
    simp only [toPy, PyData.depth]
    exact Nat.succ_le_succ (nobs_depth k xs h)
  | 0, .tup xs, h => by simp [nob] at h
  | 0, .fl xs, h => by simp [nob] at h
  | _, .bl _, h => by simp [nob] at h
  | _, .kd _, h => by simp [nob] at h
  | _, .ref _, h => by simp [nob] at h
theorem nobs_depth : ∀ (k : Nat) (xs : List D), nobs k xs = true → PyData.depthAll (toPys xs) ≤ k
  | _, [], _ => Nat.zero_le _
  | k, x :: xs, h => by
    simp only [nobs, Bool.and_eq_true] at h
    simp only [toPys, PyData.depthAll]
    exact Nat.max_le.mpr ⟨nob_depth k x h.1, nobs_depth k xs h.2⟩
end
theorem str_beq (a b : List Nat) : ((⟨a.toArray⟩ : Str) == ⟨b.toArray⟩) = (a == b) := by
  rw [Bool.eq_iff_iff, beq_iff_eq, beq_iff_eq]
  exact ⟨fun h => by simpa using h, fun h => by rw [h]⟩
mutual
theorem eqv_nob : ∀ (k l : Nat) (x y : D), nob k x = true → nob l y = true → PyData.eqv (toPy x) (toPy y) = D.beq x y
  | k, l, .tup xs, y, h, g => by
    cases k with
    | zero => simp [nob] at h
    | succ k =>
      cases y <;> simp only [toPy, PyData.eqv, D.beq]
      case tup ys =>
        cases l with
        | zero => simp [nob] at g
        | succ l => exact eqvs_nob k l xs ys h g
      all_goals simp [nob] at g
  | k, l, .fl xs, y, h, g => by
    cases k with
    | zero => simp [nob] at h
    | succ k =>
      cases y <;> simp only [toPy, PyData.eqv, D.beq]
      case fl ys =>
        cases l with
        | zero => simp [nob] at g
        | succ l => exact eqvs_nob k l xs ys h g
      all_goals simp [nob] at g
  | k, l, .non, y, h, g => by cases y <;> simp_all [toPy, PyData.eqv, D.beq, nob]
  | k, l, .int i, y, h, g => by cases y <;> simp_all [toPy, PyData.eqv, D.beq, nob]
  | k, l, .str a, y, h, g => by
    cases y <;> simp_all [toPy, PyData.eqv, D.beq, nob]
    exact str_beq _ _
  | k, l, .bl b, y, h, g => by simp [nob] at h
  | k, l, .kd b, y, h, g => by simp [nob] at h
  | k, l, .ref b, y, h, g => by simp [nob] at h
theorem eqvs_nob : ∀ (k l : Nat) (xs ys : List D), nobs k xs = true → nobs l ys = true → PyData.eqvAll (toPys xs) (toPys ys) = D.beqs xs ys
  | k, l, [], ys, h, g => by cases ys <;> simp [toPys, PyData.eqvAll, D.beqs]
  | k, l, x :: xs, ys, h, g => by
    cases ys with
    | nil => simp [toPys, PyData.eqvAll, D.beqs]
    | cons y ys =>
      simp only [nobs, Bool.and_eq_true] at h g
      simp only [toPys, PyData.eqvAll, D.beqs]
      rw [eqv_nob k l x y h.1 g.1, eqvs_nob k l xs ys h.2 g.2]
end
theorem beq_dec (x y : D) : D.beq x y = decide (x = y) := by
  rw [Bool.eq_iff_iff, D.beq_iff, decide_eq_true_iff]
theorem deep_eq {H : Hp} {ρ : List Addr} {s : Sto} (S : RelS B H ρ s) {x y : D} {vx vy : V} {c : Bool} (r1 : RelD B H ρ x vx) (r2 : RelD B H ρ y vy) (h : eqDeep s x y = some c) :
    ∃ d e, Dp B.K H vx d ∧ Dp B.K H vy e ∧ SeqAt.shaped d = true ∧ SeqAt.shaped e = true ∧ PyData.eqv d e = c := by
  unfold eqDeep at h
  split at h
  · rename_i a b e1 e2
    split at h
    · rename_i hn
      cases h
      rw [Bool.and_eq_true] at hn
      obtain ⟨g1, g2⟩ := res_dp S 3 x r1 e1
      obtain ⟨g3, g4⟩ := res_dp S 3 y r2 e2
      have d1 := nob_depth 40 a hn.1
      have d2 := nob_depth 40 b hn.2
      refine ⟨_, _, g1, g3, ?_, ?_, by rw [eqv_nob 40 40 a b hn.1 hn.2, beq_dec]⟩
      · show (PyData.canLay0 _ && decide (PyData.depth _ ≤ 64)) = true
        rw [g2, decide_eq_true (by omega)]
        rfl
      · show (PyData.canLay0 _ && decide (PyData.depth _ ≤ 64)) = true
        rw [g4, decide_eq_true (by omega)]
        rfl
    · cases h
  · cases h
end
end PX

/-! PX: comparisons, subscripts, calls of built-ins, sound. -/
namespace PX
open PySem PySem.Spec PyProof.Rows L2
section
variable {B : Tb} {H : Hp} {ρ : List Addr}
theorem flat_of {x : D} {v : V} (r : RelD B H ρ x v) (h : flatD x = true) : flatV v = true := by
  cases x <;> simp only [flatD] at h
  case non => cases (show v = .non from r); rfl
  case bl b => cases (show v = .bl b from r); rfl
  case int i => cases (show v = .int i from r); rfl
  case str a => obtain ⟨rfl, _⟩ := r; rfl
  all_goals cases h
theorem eqF_of {x y : D} {v w : V} (r : RelD B H ρ x v) (q : RelD B H ρ y w) (h : flatD x = true) (h' : flatD y = true) : eqV v w = eqF x y := by
  cases x <;> simp only [flatD] at h
  case non =>
    cases (show v = .non from r)
    cases y <;> simp only [flatD] at h'
    case non => cases (show w = .non from q); rfl
    case bl b => cases (show w = .bl b from q); rfl
    case int i => cases (show w = .int i from q); rfl
    case str a => obtain ⟨rfl, _⟩ := q; rfl
    all_goals cases h'
  case bl b =>
    cases (show v = .bl b from r)
    cases y <;> simp only [flatD] at h'
    case non => cases (show w = .non from q); rfl
    case bl b => cases (show w = .bl b from q); rfl
    case int i => cases (show w = .int i from q); rfl
    case str a => obtain ⟨rfl, _⟩ := q; rfl
    all_goals cases h'
  case int b =>
    cases (show v = .int b from r)
    cases y <;> simp only [flatD] at h'
    case non => cases (show w = .non from q); rfl
    case bl b => cases (show w = .bl b from q); rfl
    case int i => cases (show w = .int i from q); rfl
    case str a => obtain ⟨rfl, _⟩ := q; rfl
    all_goals cases h'
  case str b =>
    obtain ⟨rfl, _⟩ := r
    cases y <;> simp only [flatD] at h'
    case non => cases (show w = .non from q); rfl
    case bl b => cases (show w = .bl b from q); rfl
    case int i => cases (show w = .int i from q); rfl
    case str a => obtain ⟨rfl, _⟩ := q; exact str_beq _ _
    all_goals cases h'
  all_goals cases h
theorem flats_of : ∀ {xs : List D} {vs : List V}, RelDs B H ρ xs vs → xs.all flatD = true → vs.all flatV = true
  | [], vs, h, _ => by
    have e : vs = [] := h
    subst e
    rfl
  | x :: xs, vs, h, f => by
    obtain ⟨v, r, rfl, h1, h2⟩ := h
    rw [List.all_cons, Bool.and_eq_true] at f ⊢
    exact ⟨flat_of h1 f.1, flats_of h2 f.2⟩
theorem anys_of {y : D} {w : V} (q : RelD B H ρ y w) (hf : flatD y = true) : ∀ {xs : List D} {vs : List V}, RelDs B H ρ xs vs → xs.all flatD = true → (vs.any fun z => eqV z w) = xs.any fun z => eqF z y
  | [], vs, h, _ => by
    have e : vs = [] := h
    subst e
    rfl
  | x :: xs, vs, h, f => by
    obtain ⟨v, r, rfl, h1, h2⟩ := h
    rw [List.all_cons, Bool.and_eq_true] at f
    rw [List.any_cons, List.any_cons, anys_of q hf h2 f.2, eqF_of h1 q f.1 hf]
theorem isNon_of {x : D} {v : V} (r : RelD B H ρ x v) : decide (v = .non) = isNon x := by
  cases x with
  | non => cases (show v = .non from r); rfl
  | bl b => cases (show v = .bl b from r); rfl
  | int i => cases (show v = .int i from r); rfl
  | str a => obtain ⟨rfl, _⟩ := r; rfl
  | tup xs => obtain ⟨a, _, rfl, _⟩ := r; rfl
  | fl xs => obtain ⟨a, _, rfl, _⟩ := r; rfl
  | kd n => exact r.elim
  | ref n => obtain ⟨a, rfl, _⟩ := r; rfl
end
section
variable {X : Cx} {B : Tb} (hK : B.K = X.K) (hu : X.A.units + 65 < cLine)
include hK hu in
theorem or_eq : OpR X (compareOp .Eq) (rO B (xCmp .Eq)) := by
  intro pins s σ H vx vy v u Q I rx ry h
  obtain ⟨x, y, st, ρ, r1, r2, S, h⟩ := h
  have deep : obl (eqDeep st x y) (fun c => Lift B H ρ Q (.bl c) st) → wpAny (model X.prog X.w) X.A (compareOp .Eq v u) (EP X pins σ Q) X.xe s := fun h => by
    cases e : eqDeep st x y with
    | none => rw [e] at h; exact h.elim
    | some c =>
      rw [e] at h
      obtain ⟨d1, d2, g1, g2, g3, g4, g5⟩ := deep_eq S r1 r2 e
      exact op_eqD (Nat.lt_of_succ_lt hu) pins s σ H _ _ v u Q I rx ry ⟨d1, d2, hK ▸ g1, hK ▸ g2, g3, g4, by rw [g5]; exact h.here (rfl : V.bl c = _) S⟩
  cases x <;> cases y <;> simp only [xCmp, cmpD, eqD] at h <;> first
    | exact deep h
    | skip
  case int.int i j =>
    cases int_of r1; cases int_of r2
    exact op_eq pins s σ H _ _ v u Q I rx ry ⟨rfl, by rw [show decide (V.int i = V.int j) = decide (i = j) by simp]; exact Lift.here h rfl S⟩
  case str.str a b =>
    obtain ⟨rfl, _⟩ := r1
    obtain ⟨rfl, _⟩ := r2
    exact op_eq pins s σ H _ _ v u Q I rx ry ⟨rfl, by rw [show decide (V.str ⟨a.toArray⟩ = V.str ⟨b.toArray⟩) = decide (a = b) by simp]; exact Lift.here h rfl S⟩
  case bl.bl a b =>
    cases (show vx = .bl a from r1); cases (show vy = .bl b from r2)
    exact op_eq pins s σ H _ _ v u Q I rx ry ⟨rfl, by rw [show decide (V.bl a = V.bl b) = decide (a = b) by simp]; exact Lift.here h rfl S⟩
include hK hu in
theorem or_ne : OpR X (compareOp .NotEq) (rO B (xCmp .NotEq)) := by
  intro pins s σ H vx vy v u Q I rx ry h
  obtain ⟨x, y, st, ρ, r1, r2, S, h⟩ := h
  have deep : obl ((eqDeep st x y).map fun b => !b) (fun c => Lift B H ρ Q (.bl c) st) → wpAny (model X.prog X.w) X.A (compareOp .NotEq v u) (EP X pins σ Q) X.xe s := fun h => by
    cases e : eqDeep st x y with
    | none => rw [e] at h; exact h.elim
    | some c =>
      rw [e] at h
      obtain ⟨d1, d2, g1, g2, g3, g4, g5⟩ := deep_eq S r1 r2 e
      exact op_neD (Nat.lt_of_succ_lt hu) pins s σ H _ _ v u Q I rx ry ⟨d1, d2, hK ▸ g1, hK ▸ g2, g3, g4, by rw [g5]; exact Lift.here h (rfl : V.bl (!c) = _) S⟩
  cases x <;> cases y <;> simp only [xCmp, cmpD, eqD] at h <;> first
    | exact deep h
    | skip
  case int.int i j =>
    cases int_of r1; cases int_of r2
    exact op_ne pins s σ H _ _ v u Q I rx ry ⟨rfl, by rw [show decide (V.int i = V.int j) = decide (i = j) by simp]; exact Lift.here h rfl S⟩
  case str.str a b =>
    obtain ⟨rfl, _⟩ := r1
    obtain ⟨rfl, _⟩ := r2
    exact op_ne pins s σ H _ _ v u Q I rx ry ⟨rfl, by rw [show decide (V.str ⟨a.toArray⟩ = V.str ⟨b.toArray⟩) = decide (a = b) by simp]; exact Lift.here h rfl S⟩
  case bl.bl a b =>
    cases (show vx = .bl a from r1); cases (show vy = .bl b from r2)
    exact op_ne pins s σ H _ _ v u Q I rx ry ⟨rfl, by rw [show decide (V.bl a = V.bl b) = decide (a = b) by simp]; exact Lift.here h rfl S⟩
theorem or_ints (op : CmpOp) (g : Int → Int → Bool) (ho : OpR X (compareOp op) (rI0 fun i j => .bl (g i j))) (hc : ∀ s x y, cmpD s op x y ≠ none → ∃ i j, x = .int i ∧ y = .int j ∧ cmpD s op x y = some (g i j)) : OpR X (compareOp op) (rO B (xCmp op)) := by
  intro pins s σ H vx vy v u Q I rx ry h
  obtain ⟨x, y, st, ρ, r1, r2, S, h⟩ := h
  simp only [xCmp] at h
  have hne : cmpD st op x y ≠ none := fun e => by rw [e] at h; exact h.elim
  obtain ⟨i, j, rfl, rfl, e⟩ := hc st x y hne
  rw [e] at h
  cases int_of r1; cases int_of r2
  exact ho pins s σ H _ _ v u Q I rx ry ⟨i, j, rfl, rfl, Lift.here h rfl S⟩
theorem or_lt : OpR X (compareOp .Lt) (rO B (xCmp .Lt)) := or_ints .Lt (fun i j => decide (i < j)) op_lt fun s x y h => by
  cases x <;> cases y <;> simp_all [cmpD]
theorem or_le : OpR X (compareOp .LtE) (rO B (xCmp .LtE)) := or_ints .LtE (fun i j => decide (i ≤ j)) op_le fun s x y h => by
  cases x <;> cases y <;> simp_all [cmpD]
theorem or_gt : OpR X (compareOp .Gt) (rO B (xCmp .Gt)) := or_ints .Gt (fun i j => decide (j < i)) op_gt fun s x y h => by
  cases x <;> cases y <;> simp_all [cmpD]
theorem or_ge : OpR X (compareOp .GtE) (rO B (xCmp .GtE)) := or_ints .GtE (fun i j => decide (j ≤ i)) op_ge fun s x y h => by
  cases x <;> cases y <;> simp_all [cmpD]
theorem or_is : OpR X (compareOp .Is) (rO B (xCmp .Is)) := by
  intro pins s σ H vx vy v u Q I rx ry h
  obtain ⟨x, y, st, ρ, r1, r2, S, h⟩ := h
  cases y <;> simp only [xCmp, cmpD] at h
  case non =>
    cases (show vy = .non from r2)
    exact op_isN pins s σ H _ _ v u Q I rx ry ⟨rfl, by rw [isNon_of r1]; exact Lift.here h rfl S⟩
  all_goals exact h.elim
theorem or_isn : OpR X (compareOp .IsNot) (rO B (xCmp .IsNot)) := by
  intro pins s σ H vx vy v u Q I rx ry h
  obtain ⟨x, y, st, ρ, r1, r2, S, h⟩ := h
  cases y <;> simp only [xCmp, cmpD] at h
  case non =>
    cases (show vy = .non from r2)
    exact op_notN pins s σ H _ _ v u Q I rx ry ⟨rfl, by rw [isNon_of r1]; exact Lift.here h rfl S⟩
  all_goals exact h.elim
include hK in
theorem or_in : OpR X (compareOp .In) (rO B (xCmp .In)) := by
  intro pins s σ H vx vy v u Q I rx ry h
  obtain ⟨x, y, st, ρ, r1, r2, S, h⟩ := h
  simp only [xCmp, cmpD] at h
  unfold inD at h
  split at h
  · rename_i b
    obtain ⟨rfl, _⟩ := r2
    split at h
    · rename_i a
      obtain ⟨rfl, _⟩ := r1
      refine op_in_str pins s σ H _ _ v u Q I rx ry ⟨_, _, rfl, rfl, ?_⟩
      rw [toArr_len]
      exact Lift.here h rfl S
    · exact h.elim
  · split at h
    · rename_i ys hs
      split at h
      · rename_i hf
        rw [Bool.and_eq_true] at hf
        obtain ⟨a, vs, rfl, q, d⟩ := seq_of S r2 hs
        refine op_in_seq pins s σ H _ _ v u Q I rx ry ⟨a, vs, rfl, hK ▸ q, flat_of r1 hf.1, flats_of d hf.2, ?_⟩
        rw [if_neg Bool.false_ne_true]
        unfold inV
        rw [anys_of r1 hf.1 d hf.2]
        exact Lift.here h rfl S
      · exact h.elim
    · exact h.elim
include hK in
theorem or_nin : OpR X (compareOp .NotIn) (rO B (xCmp .NotIn)) := by
  intro pins s σ H vx vy v u Q I rx ry h
  obtain ⟨x, y, st, ρ, r1, r2, S, h⟩ := h
  simp only [xCmp, cmpD] at h
  unfold inD at h
  split at h
  · rename_i b
    obtain ⟨rfl, _⟩ := r2
    split at h
    · rename_i a
      obtain ⟨rfl, _⟩ := r1
      refine op_notin_str pins s σ H _ _ v u Q I rx ry ⟨_, _, rfl, rfl, ?_⟩
      rw [toArr_len]
      exact Lift.here h rfl S
    · exact h.elim
  · split at h
    · rename_i ys hs
      split at h
      · rename_i hf
        rw [Bool.and_eq_true] at hf
        obtain ⟨a, vs, rfl, q, d⟩ := seq_of S r2 hs
        refine op_notIn_seq pins s σ H _ _ v u Q I rx ry ⟨a, vs, rfl, hK ▸ q, flat_of r1 hf.1, flats_of d hf.2, ?_⟩
        rw [if_pos rfl]
        unfold inV
        rw [anys_of r1 hf.1 d hf.2]
        exact Lift.here h rfl S
      · exact h.elim
    · exact h.elim
include hK hu in
theorem or_cmp (op : CmpOp) : OpR X (compareOp op) (rO B (xCmp op)) := by
  cases op
  · exact or_eq hK hu
  · exact or_ne hK hu
  · exact or_lt
  · exact or_le
  · exact or_gt
  · exact or_ge
  · exact or_is
  · exact or_isn
  · exact or_in hK
  · exact or_nin hK

/-! ### subscripts -/
theorem atI_rel {H : Hp} {ρ : List Addr} {xs : List D} {vs : List V} (d : RelDs B H ρ xs vs) {i : Int} {x : D} (h : atI xs i = some x) : ∃ v, atI vs i = some v ∧ RelD B H ρ x v := by
  unfold atI at h ⊢
  rw [← d.length]
  cases e : ixN xs.length i with
  | none => rw [e] at h; cases h
  | some j =>
    rw [e] at h
    exact d.get h
theorem atI_mem {α : Type} {xs : List α} {i : Int} {x : α} (h : atI xs i = some x) : x ∈ xs := by
  obtain ⟨j, _, e, _⟩ := atI_get h
  exact List.mem_of_getElem? e
include hK in
theorem ix_ok : IxR X (rO B xIx) := by
  intro ve se pins s σ H vx vy v u Q I rx ry h hs
  obtain ⟨x, y, st, ρ, r1, r2, S, h⟩ := h
  unfold xIx at h
  split at h
  · rename_i i
    cases int_of r2
    split at h
    · rename_i a
      obtain ⟨rfl, z⟩ := r1
      split at h
      · rename_i c hc
        refine ix_str ve se pins s σ H _ _ v u Q I rx ry ⟨_, i, c, rfl, rfl, by rw [toArr_len]; exact z.1, hc, ?_⟩ hs
        exact Lift.here h ⟨rfl, z.sub (fun c' hc' => by rw [List.mem_singleton.mp hc']; exact atI_mem hc) (List.length_pos_of_mem (atI_mem hc))⟩ S
      · exact h.elim
    · split at h
      · rename_i xs hx
        obtain ⟨a, vs, rfl, q, d⟩ := seq_of S r1 hx
        split at h
        · rename_i y hy
          obtain ⟨w, e, r⟩ := atI_rel d hy
          have fin := Lift.here h r S
          rcases q with q | q
          · exact ix_list ve se pins s σ H _ _ v u Q I rx ry ⟨a, vs, i, w, rfl, rfl, hK ▸ q, e, fin⟩ hs
          · exact ix_tup ve se pins s σ H _ _ v u Q I rx ry ⟨a, vs, i, w, rfl, rfl, hK ▸ q, e, fin⟩ hs
        · exact h.elim
      · exact h.elim
  · exact h.elim
def rS (B : Tb) : V → Option Int → Option Int → Hp → VK → Prop := fun vx lo hi H Q => ∃ (x l u : D) (s : Sto) (ρ : List Addr), RelD B H ρ x vx ∧ partD l = some lo ∧ partD u = some hi ∧ RelS B H ρ s ∧ xSl x l u s (Lift B H ρ Q)
theorem mem_cut {α : Type} {xs : List α} {lo hi : Option Int} {x : α} (h : x ∈ cut xs lo hi) : x ∈ xs := List.mem_of_mem_drop (List.mem_of_mem_take h)
theorem len_cut {α : Type} (xs : List α) (lo hi : Option Int) : (cut xs lo hi).length ≤ xs.length := by
  unfold cut
  rw [List.length_take, List.length_drop]
  omega
include hK in
theorem sl_ok : SlR X (rS B) := by
  intro pins s σ H vx v vl vu lo hi sl Q I rx hs pl pu h
  obtain ⟨x, l, u, st, ρ, r1, e1, e2, S, h⟩ := h
  unfold xSl at h
  rw [e1, e2] at h
  simp only at h
  cases x <;> simp only at h
  case str a =>
    obtain ⟨rfl, z⟩ := r1
    refine sl_str pins s σ H _ v vl vu lo hi sl Q I rx hs pl pu ⟨_, rfl, by rw [toArr_len]; exact z.1, ?_⟩
    exact h.here ⟨rfl, z.sub (fun c hc => mem_cut hc) (len_cut _ _ _)⟩ S
  case tup xs =>
    obtain ⟨a, vs, rfl, q, z, d⟩ := id r1
    have hl := d.cut lo hi
    have hz : (cut xs lo hi).length ≤ sizeLine := Nat.le_trans (len_cut _ _ _) z
    refine sl_tupA pins s σ H _ v vl vu lo hi sl Q I rx hs pl pu ⟨a, vs, rfl, hK ▸ q, fun w => ?_, fun w t ht => tup_new S hl hz h ht⟩
    have e : cut xs lo hi = xs := by
      unfold cut
      rw [d.length, w.1, w.2, Nat.sub_zero, List.drop_zero, ← d.length, List.take_length]
    rw [e] at h
    exact h.here r1 S
  case fl xs =>
    obtain ⟨a, vs, rfl, q, d⟩ := id r1
    refine sl_list pins s σ H _ v vl vu lo hi sl Q I rx hs pl pu ⟨a, vs, rfl, hK ▸ q.sq, fun p hp => mk_new S (d.cut lo hi) h hp⟩
  case ref n =>
    obtain ⟨a, rfl, q⟩ := r1
    split at h
    · rename_i xs hx
      obtain ⟨vs, g, d⟩ := S.lstOf q hx
      exact sl_list pins s σ H _ v vl vu lo hi sl Q I rx hs pl pu ⟨a, vs, rfl, SqL.of g, fun p hp => mk_new S (d.cut lo hi) h hp⟩
    · exact h.elim
  all_goals exact h.elim
end
end PX

/-! PX: calls of built-ins and of the methods of built-in types, sound. -/
namespace PX
open PySem PySem.Spec PyProof.Rows L2
def rB (B : Tb) (f : BF) : List V → Hp → VK → Prop := fun vs H Q => ∃ (ds : List D) (s : Sto) (ρ : List Addr), RelDs B H ρ ds vs ∧ RelS B H ρ s ∧ xBlt f ds s (Lift B H ρ Q)
def rM (B : Tb) (m : MF) : V → List V → Hp → VK → Prop := fun v vs H Q => ∃ (x : D) (ds : List D) (s : Sto) (ρ : List Addr), RelD B H ρ x v ∧ RelDs B H ρ ds vs ∧ RelS B H ρ s ∧ xMeth m x ds s (Lift B H ρ Q)
section
variable {B : Tb} {H : Hp} {ρ : List Addr}
theorem rel1 {x : D} {vs : List V} (h : RelDs B H ρ [x] vs) : ∃ v, vs = [v] ∧ RelD B H ρ x v := by
  obtain ⟨v, r, rfl, h1, h2⟩ := h
  have e : r = [] := h2
  subst e
  exact ⟨v, rfl, h1⟩
theorem rel2 {x y : D} {vs : List V} (h : RelDs B H ρ [x, y] vs) : ∃ v w, vs = [v, w] ∧ RelD B H ρ x v ∧ RelD B H ρ y w := by
  obtain ⟨v, r, rfl, h1, h2⟩ := h
  obtain ⟨w, rfl, h3⟩ := rel1 h2
  exact ⟨v, w, rfl, h1, h3⟩
theorem rel0 {vs : List V} (h : RelDs B H ρ [] vs) : vs = [] := h
theorem strs_of : ∀ {xs : List D} {vs : List V} {l : List (List Nat)}, RelDs B H ρ xs vs → strsOf xs = some l → vs = (l.map fun a => (⟨a.toArray⟩ : Str)).map V.str ∧ ∀ a ∈ l, StrOk a
  | [], vs, l, h, e => by
    cases e
    exact ⟨h, fun _ z => absurd z (by simp)⟩
  | x :: xs, vs, l, h, e => by
    obtain ⟨v, r, rfl, h1, h2⟩ := h
    cases x <;> simp only [strsOf] at e
    case str a =>
      cases e2 : strsOf xs with
      | none => rw [e2] at e; cases e
      | some m =>
        rw [e2] at e
        cases e
        obtain ⟨rfl, z⟩ := h1
        obtain ⟨g1, g2⟩ := strs_of h2 e2
        exact ⟨by rw [g1]; rfl, fun b hb => (List.mem_cons.mp hb).elim (fun q => q ▸ z) (g2 b)⟩
    all_goals cases e
theorem join_toArr (sep : List Nat) : ∀ l : List (List Nat), Str.join ⟨sep.toArray⟩ (l.map fun a => (⟨a.toArray⟩ : Str)) = ⟨(joinS sep l).toArray⟩
  | [] => rfl
  | [a] => rfl
  | a :: b :: r => by
    have ih := join_toArr sep (b :: r)
    simp only [List.map_cons, Str.join, joinS] at ih ⊢
    rw [ih, toArr_add, toArr_add]
theorem joinS_len (sep : List Nat) : ∀ l : List (List Nat), (joinS sep l).length ≤ (l.map List.length).sum + l.length * sep.length
  | [] => Nat.zero_le _
  | [a] => by simp [joinS]
  | a :: b :: r => by
    have ih := joinS_len sep (b :: r)
    simp only [joinS, List.length_append, List.map_cons, List.sum_cons, List.length_cons] at ih ⊢
    rw [Nat.add_mul (r.length + 1) 1, Nat.one_mul]
    omega
theorem joinS_mem (sep : List Nat) (c : Nat) : ∀ l : List (List Nat), c ∈ joinS sep l → c ∈ sep ∨ ∃ a ∈ l, c ∈ a
  | [], h => by simp [joinS] at h
  | [a], h => .inr ⟨a, by simp, h⟩
  | a :: b :: r, h => by
    simp only [joinS, List.mem_append] at h
    rcases h with (h | h) | h
    · exact .inr ⟨a, by simp, h⟩
    · exact .inl h
    · rcases joinS_mem sep c (b :: r) h with h | ⟨d, h1, h2⟩
      · exact .inl h
      · exact .inr ⟨d, List.mem_cons_of_mem _ h1, h2⟩
end
theorem strI_ok (i : Int) (h0 : 0 ≤ i) (h : i < 10 ^ 10) : StrOk (strI i) := by
  have e : strI i = (toString i).toList.map Char.toNat := PyProof.Rows.signs_ofString (toString i)
  refine ⟨?_, fun c hc => ?_⟩
  · have := PyProof.Rows.toString_length_le h0 (k := 10) (by decide) h
    show (Str.ofString (toString i)).cps.toList.length ≤ sizeLine
    rw [Array.length_toList]
    exact Nat.le_trans this (by decide)
  · rw [e] at hc
    obtain ⟨ch, _, rfl⟩ := List.mem_map.mp hc
    have hv := ch.valid
    simp only [UInt32.isValidChar, Nat.isValidChar] at hv
    show ch.val.toNat < 1114112
    omega
theorem log_small {i : Int} (h0 : 0 ≤ i) (h : i < 10 ^ 10) : i.natAbs.log2 < 1920 := by
  have h1 : i.natAbs < 2 ^ 1920 := Nat.lt_of_lt_of_le (by omega : i.natAbs < 10 ^ 10) (Nat.le_trans (by decide : 10 ^ 10 ≤ 2 ^ 34) (Nat.pow_le_pow_right (by decide) (by decide)))
  exact PySem.Flt.log2_lt_of (by decide) h1
theorem blt1 {f : BF} {g : D → Sto → QE → Prop} (hg : ∀ ds s Q, xBlt f ds s Q → ∃ x, ds = [x] ∧ g x s Q) {B : Tb} {vs : List V} {H : Hp} {Q : VK} (h : rB B f vs H Q) :
    ∃ x v s ρ, vs = [v] ∧ RelD B H ρ x v ∧ RelS B H ρ s ∧ g x s (Lift B H ρ Q) := by
  obtain ⟨ds, st, ρ, d, S, h⟩ := h
  obtain ⟨x, rfl, h'⟩ := hg _ _ _ h
  obtain ⟨v, rfl, r⟩ := rel1 d
  exact ⟨x, v, st, ρ, rfl, r, S, h'⟩
theorem blt2 {f : BF} {g : D → D → Sto → QE → Prop} (hg : ∀ ds s Q, xBlt f ds s Q → ∃ x y, ds = [x, y] ∧ g x y s Q) {B : Tb} {vs : List V} {H : Hp} {Q : VK} (h : rB B f vs H Q) :
    ∃ x y v w s ρ, vs = [v, w] ∧ RelD B H ρ x v ∧ RelD B H ρ y w ∧ RelS B H ρ s ∧ g x y s (Lift B H ρ Q) := by
  obtain ⟨ds, st, ρ, d, S, h⟩ := h
  obtain ⟨x, y, rfl, h'⟩ := hg _ _ _ h
  obtain ⟨v, w, rfl, r, q⟩ := rel2 d
  exact ⟨x, y, v, w, st, ρ, rfl, r, q, S, h'⟩
theorem one_of {f : BF} {g : D → Sto → QE → Prop} (h0 : ∀ s Q, ¬ xBlt f [] s Q) (h1 : ∀ x s Q, xBlt f [x] s Q → g x s Q) (h2 : ∀ x y r s Q, ¬ xBlt f (x :: y :: r) s Q) : ∀ ds s Q, xBlt f ds s Q → ∃ x, ds = [x] ∧ g x s Q
  | [], s, Q, h => (h0 s Q h).elim
  | [x], s, Q, h => ⟨x, rfl, h1 x s Q h⟩
  | x :: y :: r, s, Q, h => (h2 x y r s Q h).elim
theorem two_of {f : BF} {g : D → D → Sto → QE → Prop} (h0 : ∀ s Q, ¬ xBlt f [] s Q) (h1 : ∀ x s Q, ¬ xBlt f [x] s Q) (h2 : ∀ x y s Q, xBlt f [x, y] s Q → g x y s Q) (h3 : ∀ x y z r s Q, ¬ xBlt f (x :: y :: z :: r) s Q) :
    ∀ ds s Q, xBlt f ds s Q → ∃ x y, ds = [x, y] ∧ g x y s Q
  | [], s, Q, h => (h0 s Q h).elim
  | [x], s, Q, h => (h1 x s Q h).elim
  | [x, y], s, Q, h => ⟨x, y, rfl, h2 x y s Q h⟩
  | x :: y :: z :: r, s, Q, h => (h3 x y z r s Q h).elim
section
variable {X : Cx} {B : Tb} (hK : B.K = X.K) (hc : X.calm = true)
include hK in
theorem bf_len : CallR X (.builtin "len") (rB B .len) := by
  intro pins s σ H vs us Q I r h
  obtain ⟨x, v, st, ρ, rfl, rx, S, k⟩ := blt1 (g := bLen) (one_of (f := .len) (fun _ _ h => h) (fun _ _ _ h => h) (fun _ _ _ _ _ h => h)) h
  have seq : ∀ {xs : List D}, seqOf st x = some xs → Lift B H ρ Q (.int xs.length) st → wpAny (model X.prog X.w) X.A (call (.builtin "len") us) (EP X pins σ Q) X.xe s := fun {xs} hx k => by
    obtain ⟨a, vs, rfl, q, d⟩ := seq_of S rx hx
    exact call_len_seq pins s σ H _ us Q I r ⟨a, vs, rfl, hK ▸ q, by rw [← d.length]; exact k.here rfl S⟩
  cases x <;> simp only [bLen] at k
  case str a =>
    obtain ⟨rfl, z⟩ := rx
    exact call_len_str pins s σ H _ us Q I r ⟨_, rfl, by rw [toArr_len]; exact z.1, by rw [toArr_len]; exact k.here rfl S⟩
  all_goals
    split at k
    · rename_i xs hx; exact seq hx k
    · exact k.elim
theorem bf_int : CallR X (.type "int") (rB B .int) := by
  intro pins s σ H vs us Q I r h
  obtain ⟨x, v, st, ρ, rfl, rx, S, k⟩ := blt1 (g := bInt) (one_of (f := .int) (fun _ _ h => h) (fun _ _ _ h => h) (fun _ _ _ _ _ h => h)) h
  cases x <;> simp only [bInt] at k
  case int i =>
    cases int_of rx
    exact call_int1 pins s σ H _ us Q I r (.inl ⟨i, rfl, k.here rfl S⟩)
  case bl b =>
    cases (show v = .bl b from rx)
    exact call_int1 pins s σ H _ us Q I r (.inr ⟨b, rfl, k.here rfl S⟩)
  all_goals exact k.elim
theorem bf_abs : CallR X (.builtin "abs") (rB B .abs) := by
  intro pins s σ H vs us Q I r h
  obtain ⟨x, v, st, ρ, rfl, rx, S, k⟩ := blt1 (g := bAbs) (one_of (f := .abs) (fun _ _ h => h) (fun _ _ _ h => h) (fun _ _ _ _ _ h => h)) h
  cases x <;> simp only [bAbs] at k
  case int i =>
    cases int_of rx
    exact call_abs pins s σ H _ us Q I r ⟨i, rfl, k.here rfl S⟩
  all_goals exact k.elim
theorem bf_str : CallR X (.type "str") (rB B .str) := by
  intro pins s σ H vs us Q I r h
  obtain ⟨x, v, st, ρ, rfl, rx, S, k⟩ := blt1 (g := bStr) (one_of (f := .str) (fun _ _ h => h) (fun _ _ _ h => h) (fun _ _ _ _ _ h => h)) h
  cases x <;> simp only [bStr] at k
  case int i =>
    cases int_of rx
    refine call_str_int pins s σ H _ us Q I r ⟨i, rfl, log_small k.1.1 k.1.2, k.2.here ⟨?_, strI_ok i k.1.1 k.1.2⟩ S⟩
    show V.str _ = V.str ⟨(((toString i : Str)).cps.toList).toArray⟩
    rw [Array.toArray_toList]
  all_goals exact k.elim
include hK in
theorem bf_tuple : CallR X (.type "tuple") (rB B .tuple) := by
  intro pins s σ H vs us Q I r h
  obtain ⟨x, v, st, ρ, rfl, rx, S, k⟩ := blt1 (g := bTup) (one_of (f := .tuple) (fun _ _ h => h) (fun _ _ _ h => h) (fun _ _ _ _ _ h => h)) h
  have seq : ∀ {xs : List D}, seqOf st x = some xs → (∀ ys, x ≠ .tup ys) → Lift B H ρ Q (.tup xs) st → wpAny (model X.prog X.w) X.A (call (.type "tuple") us) (EP X pins σ Q) X.xe s := fun {xs} hx hn k => by
    obtain ⟨a, vs, rfl, q', d⟩ := seq_list S rx hx hn
    obtain ⟨its, _, _, z⟩ := I.list (hK ▸ q')
    exact call_tuple_of pins s σ H _ us Q I r ⟨a, vs, rfl, .inl ⟨hK ▸ q', fun l hl => tup_new S d (by rw [d.length]; exact z) k hl⟩⟩
  cases x <;> simp only [bTup] at k
  case tup xs =>
    obtain ⟨a, vs, rfl, q, z, d⟩ := id rx
    exact call_tuple_of pins s σ H _ us Q I r ⟨a, vs, rfl, .inr ⟨hK ▸ q, k.here rx S⟩⟩
  all_goals
    split at k
    · rename_i xs hx; exact seq hx (fun _ z => by cases z) k
    · exact k.elim
include hK in
theorem bf_list : CallR X (.type "list") (rB B .list) := by
  intro pins s σ H vs us Q I r h
  obtain ⟨x, v, st, ρ, rfl, rx, S, k⟩ := blt1 (g := bLst) (one_of (f := .list) (fun _ _ h => h) (fun _ _ _ h => h) (fun _ _ _ _ _ h => h)) h
  unfold bLst at k
  split at k
  · rename_i xs hx
    obtain ⟨a, vs, rfl, q, d⟩ := seq_of S rx hx
    exact call_list_of pins s σ H _ us Q I r ⟨a, vs, rfl, hK ▸ q, fun l hl => mk_new S d k hl⟩
  · exact k.elim
include hc in
theorem bf_max : CallR X (.builtin "max") (rB B .max2) := by
  intro pins s σ H vs us Q I r h
  obtain ⟨x, y, v, w, st, ρ, rfl, rx, ry, S, k⟩ := blt2 (g := bMax) (two_of (f := .max2) (fun _ _ h => h) (fun _ _ _ h => h) (fun _ _ _ _ h => h) (fun _ _ _ _ _ _ h => h)) h
  cases x <;> cases y <;> simp only [bMax] at k
  case int.int i j =>
    cases int_of rx; cases int_of ry
    exact call_max2 hc pins s σ H _ us Q I r ⟨i, j, rfl, k.here rfl S⟩
  all_goals exact k.elim
include hc in
theorem bf_min : CallR X (.builtin "min") (rB B .min2) := by
  intro pins s σ H vs us Q I r h
  obtain ⟨x, y, v, w, st, ρ, rfl, rx, ry, S, k⟩ := blt2 (g := bMin) (two_of (f := .min2) (fun _ _ h => h) (fun _ _ _ h => h) (fun _ _ _ _ h => h) (fun _ _ _ _ _ _ h => h)) h
  cases x <;> cases y <;> simp only [bMin] at k
  case int.int i j =>
    cases int_of rx; cases int_of ry
    exact call_min2 hc pins s σ H _ us Q I r ⟨i, j, rfl, k.here rfl S⟩
  all_goals exact k.elim
/-! ### methods -/
theorem mf_append : MtR X "list.append" (rM B .append) := by
  intro pins s σ H v vs u us Q I rv r h
  obtain ⟨x, ds, st, ρ, rx, d, S, h⟩ := h
  unfold xMeth at h
  split at h <;> rename_i e1 <;> try cases e1
  · rename_i n y
    obtain ⟨a, rfl, e⟩ := rx
    obtain ⟨w, rfl, ry⟩ := rel1 d
    split at h
    · rename_i xs hs
      obtain ⟨ws, g, d⟩ := S.lstOf e hs
      exact mt_append pins s σ H _ _ u us Q I rv r ⟨a, ws, w, rfl, rfl, g, by rw [← d.length]; exact h.1, set_lst S e hs g (d.append (rel_one ry)) (show RelD B H ρ .non .non from rfl) h.2⟩
    · exact h.elim
  all_goals exact h.elim
theorem mf_pop0 : MtR X "list.pop" (rM B .pop0) := by
  intro pins s σ H v vs u us Q I rv r h
  obtain ⟨x, ds, st, ρ, rx, d, S, h⟩ := h
  unfold xMeth at h
  split at h <;> rename_i e1 <;> try cases e1
  · rename_i n
    obtain ⟨a, rfl, e⟩ := rx
    have e0 := rel0 d
    subst e0
    split at h
    · rename_i xs hs
      obtain ⟨ws, g, d⟩ := S.lstOf e hs
      split at h
      · rename_i y hy
        obtain ⟨w, hw, ry⟩ := d.get hy
        exact mt_pop pins s σ H _ _ u us Q I rv r ⟨a, ws, w, rfl, rfl, g, by rw [← d.length]; exact hw, set_lst S e hs g d.dropLast ry h⟩
      · exact h.elim
    · exact h.elim
  all_goals exact h.elim
theorem mf_extend : MtR X "list.extend" (rM B .extend) := by
  intro pins s σ H v vs u us Q I rv r h
  obtain ⟨x, ds, st, ρ, rx, d, S, h⟩ := h
  unfold xMeth at h
  split at h <;> rename_i e1 <;> try cases e1
  · rename_i n m
    obtain ⟨a, rfl, e⟩ := rx
    obtain ⟨w, rfl, ry⟩ := rel1 d
    obtain ⟨b, rfl, e2⟩ := ry
    split at h
    · rename_i xs ys hs hs2
      obtain ⟨ws, g, d⟩ := S.lstOf e hs
      obtain ⟨zs, g2, d2⟩ := S.lstOf e2 hs2
      exact mt_extend pins s σ H _ _ u us Q I rv r ⟨a, b, ws, zs, rfl, rfl, g, g2, by rw [← d.length, ← d2.length]; exact h.1, set_lst S e hs g (d.append d2) (show RelD B H ρ .non .non from rfl) h.2⟩
    · exact h.elim
  all_goals exact h.elim
theorem mf_reverse : MtR X "list.reverse" (rM B .reverse) := by
  intro pins s σ H v vs u us Q I rv r h
  obtain ⟨x, ds, st, ρ, rx, d, S, h⟩ := h
  unfold xMeth at h
  split at h <;> rename_i e1 <;> try cases e1
  · rename_i n
    obtain ⟨a, rfl, e⟩ := rx
    have e0 := rel0 d
    subst e0
    split at h
    · rename_i xs hs
      obtain ⟨ws, g, d⟩ := S.lstOf e hs
      exact mt_reverse pins s σ H _ _ u us Q I rv r ⟨a, ws, rfl, rfl, g, set_lst S e hs g d.reverse (show RelD B H ρ .non .non from rfl) h⟩
    · exact h.elim
  all_goals exact h.elim
theorem joinS_ok {sep : List Nat} {l : List (List Nat)} (hs : StrOk sep) (hl : ∀ a ∈ l, StrOk a) (hz : (l.map List.length).sum + l.length * sep.length ≤ 16777216) : StrOk (joinS sep l) := by
  refine ⟨Nat.le_trans (joinS_len sep l) hz, fun c hc => ?_⟩
  rcases joinS_mem sep c l hc with h | ⟨a, h1, h2⟩
  · exact hs.2 c h
  · exact (hl a h1).2 c h2
include hK in
theorem mf_join : MtR X "str.join" (rM B .join) := by
  intro pins s σ H v vs u us Q I rv r h
  obtain ⟨x, ds, st, ρ, rx, d, S, h⟩ := h
  unfold xMeth at h
  split at h <;> rename_i e1 <;> try cases e1
  · rename_i sep y
    obtain ⟨rfl, z⟩ := rx
    obtain ⟨w, rfl, ry⟩ := rel1 d
    split at h
    · rename_i xs hx
      obtain ⟨a, vs, rfl, q, d⟩ := seq_of S ry hx
      split at h
      · rename_i l hl
        obtain ⟨rfl, hz⟩ := strs_of d hl
        refine mt_join pins s σ H _ _ u us Q I rv r ⟨_, a, _, rfl, rfl, hK ▸ q, ?_, ?_⟩
        · rw [toArr_len, List.length_map, List.map_map]
          have e : (Str.length ∘ fun a : List Nat => (⟨a.toArray⟩ : Str)) = List.length := by
            funext a
            exact toArr_len a
          rw [e]
          exact h.1
        · rw [TL.join_eq, join_toArr]
          exact h.2.here ⟨rfl, joinS_ok z hz h.1⟩ S
      · exact h.elim
    · exact h.elim
  all_goals exact h.elim
def mT : MF → String
  | .join => "str"
  | _ => "list"
/-- the receiver's type -/
theorem mTy_ok {m : MF} {x : D} {v : V} {H : Hp} {ρ : List Addr} {st : Sto} (rx : RelD B H ρ x v) (S : RelS B H ρ st) (h : mTy m x st) : tyV X.K (mT m) v H := by
  have lst : ∀ n, x = .ref n → (match st[n]? with | some (.lst _) => True | _ => False) → tyV X.K "list" v H := fun n e hl => by
    subst e
    obtain ⟨a, rfl, e⟩ := rx
    cases hs : st[n]? with
    | none => rw [hs] at hl; exact hl.elim
    | some o =>
      rw [hs] at hl
      cases o with
      | lst xs =>
        obtain ⟨ws, g, d⟩ := S.lstOf e hs
        exact .inl ⟨rfl, ws, SqL.of g⟩
      | ins c fs => exact hl.elim
      | dic kvs => exact hl.elim
  cases m <;> cases x <;> simp only [mTy] at h
  case join.str a =>
    obtain ⟨rfl, _⟩ := rx
    rfl
  all_goals first | exact h.elim | exact lst _ rfl h
end
end PX

/-! PX: the rules of expressions. -/
namespace PX
open PySem PySem.Spec PyProof.Rows L2
def MonoSE (m : SE) : Prop := ∀ σ s (Q Q' : QE) (E E' : XQ), (∀ d s, Q d s → Q' d s) → (∀ c fs s, E c fs s → E' c fs s) → m σ s Q E → m σ s Q' E'
abbrev SA := Sl → Sto → (List D → Sto → Prop) → XQ → Prop
def MonoSA (m : SA) : Prop := ∀ σ s (Q Q' : List D → Sto → Prop) (E E' : XQ), (∀ d s, Q d s → Q' d s) → (∀ c fs s, E c fs s → E' c fs s) → m σ s Q E → m σ s Q' E'
/-- the reading of a plain meaning -/
def tO (B : Tb) (W : WQ) (m : SE) : TE := fun σV H Q => ∃ (ρ : List Addr) (σ : Sl) (s : Sto), RelL B H ρ σ σV ∧ RelS B H ρ s ∧ m σ s (Lift B H ρ Q) (LiftX B H ρ σV W)
def LiftB (B : Tb) (H : Hp) (ρ : List Addr) (Q : Bool → Hp → Prop) : Bool → Sto → Prop := fun b s' => ∀ ρ' H', ρ <+: ρ' → Keep H H' → RelS B H' ρ' s' → Q b H'
/-- .. as a test -/
def tT (B : Tb) (W : WQ) (m : SE) : TT := fun σV H Q => ∃ (ρ : List Addr) (σ : Sl) (s : Sto), RelL B H ρ σ σV ∧ RelS B H ρ s ∧ m σ s (fun d s1 => obl (tru s1 d) fun b => LiftB B H ρ Q b s1) (LiftX B H ρ σV W)
def tAr (B : Tb) (W : WQ) (m : SA) : TA := fun σV H Q => ∃ (ρ : List Addr) (σ : Sl) (s : Sto), RelL B H ρ σ σV ∧ RelS B H ρ s ∧ m σ s (LiftA B H ρ Q) (LiftX B H ρ σV W)
theorem PE.imp {X : Cx} {e : Expr} {t t' : TE} (h : PE X e t) (i : ∀ σ H Q, t' σ H Q → t σ H Q) : PE X e t' := ⟨fun pins s σ H Q I q => h.run pins s σ H Q I (i σ H Q q)⟩
theorem PT.imp {X : Cx} {e : Expr} {t t' : TT} (h : PT X e t) (i : ∀ σ H Q, t' σ H Q → t σ H Q) : PT X e t' := ⟨fun pins s σ H Q I q => h.run pins s σ H Q I (i σ H Q q)⟩
theorem PW.imp {X : Cx} {e : Expr} {t t' : TT} (h : PW X e t) (i : ∀ σ H Q, t' σ H Q → t σ H Q) : PW X e t' := ⟨fun wh pins s σ H Q I q => h.run wh pins s σ H Q I (i σ H Q q)⟩
theorem PA.imp {X : Cx} {es : List Expr} {t t' : TA} (h : PA X es t) (i : ∀ σ H Q, t' σ H Q → t σ H Q) : PA X es t' := ⟨fun pos pins s σ H Q I q => h.run pos pins s σ H Q I (i σ H Q q)⟩
theorem PS.imp {X : Cx} {st : Stmt} {t t' : TS} (h : PS X st t) (i : ∀ D σ H, t' D σ H → t D σ H) : PS X st t' := ⟨fun pins s σ H D I q => h.run pins s σ H D I (i D σ H q)⟩
theorem PSs.imp {X : Cx} {st : List Stmt} {t t' : TS} (h : PSs X st t) (i : ∀ D σ H, t' D σ H → t D σ H) : PSs X st t' := ⟨fun pins s σ H D I q => h.run pins s σ H D I (i D σ H q)⟩
section
variable {X : Cx} {B : Tb} {W : WQ} (hK : B.K = X.K)
theorem LiftB.mono {H H' : Hp} {ρ ρ' : List Addr} {Q : Bool → Hp → Prop} {b : Bool} {s : Sto} (p : ρ <+: ρ') (k : Keep H H') (h : LiftB B H ρ Q b s) : LiftB B H' ρ' Q b s :=
  fun ρ2 H2 p2 k2 S => h ρ2 H2 (p.trans p2) (k.trans k2) S
theorem LiftB.here {H : Hp} {ρ : List Addr} {Q : Bool → Hp → Prop} {b : Bool} {s : Sto} (h : LiftB B H ρ Q b s) (S : RelS B H ρ s) : Q b H := h ρ H (List.prefix_refl _) (Keep.refl _) S
/-- truth -/
theorem tru_of {H : Hp} {ρ : List Addr} {s : Sto} {d : D} {v : V} {b : Bool} (r : RelD B H ρ d v) (S : RelS B H ρ s) (hK : B.K = X.K) (h : tru s d = some b) : TruV X.K v H b := by
  cases d <;> simp only [tru] at h
  case non => cases h; cases (show v = .non from r); rfl
  case bl c =>
    have e : v = .bl c := r
    subst e
    exact (Option.some.inj h).symm
  case int i => cases h; cases (show v = .int i from r); rfl
  case str a =>
    cases h
    obtain ⟨rfl, z⟩ := r
    refine ⟨by rw [toArr_len]; exact z.1, ?_⟩
    rw [toArr_len]
    cases a <;> simp
    omega
  case tup xs =>
    cases h
    obtain ⟨a, vs, rfl, q, _, d⟩ := r
    refine .inr (.inl ⟨vs, hK ▸ q, ?_⟩)
    have := d.length
    cases xs <;> cases vs <;> simp_all
  case fl xs =>
    cases h
    obtain ⟨a, vs, rfl, q, d⟩ := r
    refine .inl ⟨vs, hK ▸ q.sq, ?_⟩
    have := d.length
    cases xs <;> cases vs <;> simp_all
  case ref n =>
    obtain ⟨a, rfl, q⟩ := r
    split at h
    · rename_i xs hs
      cases h
      obtain ⟨vs, g, d⟩ := S.lstOf q hs
      refine .inl ⟨vs, SqL.of g, ?_⟩
      have := d.length
      cases xs <;> cases vs <;> simp_all
    · cases h
  all_goals cases h
/-! ### leaves -/
theorem pe_lit {e : Expr} {d : D} {v : V} (h : PE X e (tC v)) (r : ∀ H ρ, RelD B H ρ d v) : PE X e (tO B W fun σ s Q E => Q d s) :=
  PE.imp h fun σ H Q ⟨ρ, σ', s, L, S, q⟩ => q.here (r H ρ) S
theorem pe_vr {e : Expr} {i : Nat} (h : PE X e (tVar i)) : PE X e (tO B W fun σ s Q E => match σ[i]? with
    | some (some d) => Q d s
    | _ => False) := PE.imp h fun σ H Q ⟨ρ, σ', s, L, S, q⟩ => by
  dsimp only at q
  split at q
  · rename_i d hd
    obtain ⟨v, h1, h2⟩ := L.at_ i d hd
    exact ⟨v, h1, q.here h2 S⟩
  · exact q.elim
/-! ### two expressions -/
theorem two_imp {ma mb : SE} (Ma : MonoSE ma) (Mb : MonoSE mb) {f : F2} (Mf : ∀ x y s Q Q', (∀ d s, Q d s → Q' d s) → f x y s Q → f x y s Q') {σ : L2.St} {H : Hp} {Q : VK}
    (h : tO B W (fun σ s Q E => ma σ s (fun x s1 => mb σ s1 (fun y s2 => f x y s2 Q) E) E) σ H Q) : tOp (rO B f) (tO B W ma) (tO B W mb) σ H Q := by
  obtain ⟨ρ, σ', s, L, S, q⟩ := h
  refine ⟨ρ, σ', s, L, S, Ma _ _ _ _ _ _ (fun x s1 q ρ1 H1 vx p1 k1 rx S1 => ?_) (fun _ _ _ h => h) q⟩
  refine ⟨ρ1, σ', s1, L.mono p1 k1, S1, Mb _ _ _ _ _ _ (fun y s2 q ρ2 H2 vy p2 k2 ry S2 => ?_) (fun _ _ _ h => LiftX.mono p1 k1 h) q⟩
  exact ⟨x, y, s2, ρ2, rx.mono p2 k2, ry, S2, Mf _ _ _ _ _ (fun d s h => Lift.mono (p1.trans p2) (k1.trans k2) h) q⟩
theorem pe_bin {a b : Expr} {op : Operator} {pos : Pos} {ma mb : SE} (Ma : MonoSE ma) (Mb : MonoSE mb) (ho : OpR X (binaryOp op) (rO B (xBin op))) (ha : PE X a (tO B W ma)) (hb : PE X b (tO B W mb)) :
    PE X (.BinOp a op b pos) (tO B W fun σ s Q E => ma σ s (fun x s1 => mb σ s1 (fun y s2 => xBin op x y s2 Q) E) E) :=
  PE.imp (pe_op ho ha hb) fun σ H Q h => two_imp (f := xBin op) Ma Mb (fun x y s Q Q' hQ h => xBin_mono op x y hQ h) h
theorem xCmp_mono (op : CmpOp) (x y : D) (s : Sto) (Q Q' : QE) (hQ : ∀ d s, Q d s → Q' d s) (h : xCmp op x y s Q) : xCmp op x y s Q' := obl_mono h fun _ h => hQ _ _ h
theorem pe_cm {a b : Expr} {op : CmpOp} {pos : Pos} {ma mb : SE} (Ma : MonoSE ma) (Mb : MonoSE mb) (ho : OpR X (compareOp op) (rO B (xCmp op))) (ha : PE X a (tO B W ma)) (hb : PE X b (tO B W mb)) (hm : behindInMarks op b = false) :
    PE X (.Compare a [op] [b] pos) (tO B W fun σ s Q E => ma σ s (fun x s1 => mb σ s1 (fun y s2 => obl (cmpD s2 op x y) fun c => Q (.bl c) s2) E) E) :=
  PE.imp (pe_cmpR ho ha hb hm) fun σ H Q h => two_imp (f := xCmp op) Ma Mb (xCmp_mono op) h
theorem tT_tO {m : SE} (hm : ∀ σ s Q Q' E, (∀ c s, Q (.bl c) s → Q' (.bl c) s) → m σ s Q E → m σ s Q' E) {σ : L2.St} {H : Hp} {Q : Bool → Hp → Prop} (h : tT B W m σ H Q) : tO B W m σ H fun v H' => ∃ k, v = .bl k ∧ Q k H' := by
  obtain ⟨ρ, σ', s, L, S, q⟩ := h
  refine ⟨ρ, σ', s, L, S, hm _ _ _ _ _ (fun c s1 q ρ1 H1 v p1 k1 r S1 => ?_) q⟩
  exact ⟨c, r, q ρ1 H1 p1 k1 S1⟩
theorem pt_cm {a b : Expr} {op : CmpOp} {pos : Pos} {ma mb : SE} (Ma : MonoSE ma) (Mb : MonoSE mb) (ho : OpR X (compareOp op) (rO B (xCmp op))) (ha : PE X a (tO B W ma)) (hb : PE X b (tO B W mb)) (hm : behindInMarks op b = false) :
    PT X (.Compare a [op] [b] pos) (tT B W fun σ s Q E => ma σ s (fun x s1 => mb σ s1 (fun y s2 => obl (cmpD s2 op x y) fun c => Q (.bl c) s2) E) E) :=
  PT.imp (pt_cmpR ho ha hb hm) fun σ H Q h => two_imp (f := xCmp op) Ma Mb (xCmp_mono op)
    (tT_tO (m := fun σ s Q E => ma σ s (fun x s1 => mb σ s1 (fun y s2 => obl (cmpD s2 op x y) fun c => Q (.bl c) s2) E) E) (fun σ s Q Q' E hQ h => Ma _ _ _ _ _ _ (fun x s1 h => Mb _ _ _ _ _ _ (fun y s2 h => obl_mono h fun _ h => hQ _ _ h) (fun _ _ _ h => h) h) (fun _ _ _ h => h) h) h)
theorem chn_imp {op op' : CmpOp} {ma mb mc : SE} (Ma : MonoSE ma) (Mb : MonoSE mb) (Mc : MonoSE mc) {σ : L2.St} {H : Hp} {Q : VK}
    (h : tO B W (fun σ s Q E => ma σ s (fun x s1 => mb σ s1 (fun y s2 => br (cmpD s2 op x y) (mc σ s2 (fun z s3 => obl (cmpD s3 op' y z) fun c => Q (.bl c) s3) E) (Q (.bl false) s2)) E) E) σ H Q) :
    tChain (rO B (xCmp op)) (rO B (xCmp op')) (tO B W ma) (tO B W mb) (tO B W mc) σ H Q := by
  obtain ⟨ρ, σ', s, L, S, q⟩ := h
  refine ⟨ρ, σ', s, L, S, Ma _ _ _ _ _ _ (fun x s1 q ρ1 H1 vx p1 k1 rx S1 => ?_) (fun _ _ _ h => h) q⟩
  refine ⟨ρ1, σ', s1, L.mono p1 k1, S1, Mb _ _ _ _ _ _ (fun y s2 q ρ2 H2 vy p2 k2 ry S2 => ?_) (fun _ _ _ h => LiftX.mono p1 k1 h) q⟩
  refine ⟨x, y, s2, ρ2, rx.mono p2 k2, ry, S2, ?_⟩
  unfold xCmp
  cases e : cmpD s2 op x y with
  | none => rw [e] at q; exact q.elim
  | some c =>
    rw [e] at q
    intro ρ3 H3 v3 p3 k3 r3 S3
    refine ⟨c, r3, ?_⟩
    have P := (p1.trans p2).trans p3
    have KK := (k1.trans k2).trans k3
    cases c with
    | false =>
      rw [if_neg Bool.false_ne_true]
      exact Lift.here (Lift.mono P KK q) rfl S3
    | true =>
      rw [if_pos rfl]
      refine ⟨ρ3, σ', s2, L.mono P KK, S3, Mc _ _ _ _ _ _ (fun z s4 q ρ4 H4 vz p4 k4 rz S4 => ?_) (fun _ _ _ h => LiftX.mono P KK h) q⟩
      exact ⟨y, z, s4, ρ4, ry.mono (p3.trans p4) (k3.trans k4), rz, S4, obl_mono q fun _ h => Lift.mono (P.trans p4) (KK.trans k4) h⟩
theorem pe_chn {a b c : Expr} {op op' : CmpOp} {pos : Pos} {ma mb mc : SE} (Ma : MonoSE ma) (Mb : MonoSE mb) (Mc : MonoSE mc) (ho : OpR X (compareOp op) (rO B (xCmp op))) (ho' : OpR X (compareOp op') (rO B (xCmp op')))
    (ha : PE X a (tO B W ma)) (hb : PE X b (tO B W mb)) (hc : PE X c (tO B W mc)) (hm : lastMarks [op, op'] [b, c] = false) :
    PE X (.Compare a [op, op'] [b, c] pos) (tO B W fun σ s Q E => ma σ s (fun x s1 => mb σ s1 (fun y s2 => br (cmpD s2 op x y) (mc σ s2 (fun z s3 => obl (cmpD s3 op' y z) fun c => Q (.bl c) s3) E) (Q (.bl false) s2)) E) E) :=
  PE.imp (pe_chain ho ho' ha hb hc hm) fun σ H Q h => chn_imp Ma Mb Mc h
theorem pt_chn {a b c : Expr} {op op' : CmpOp} {pos : Pos} {ma mb mc : SE} (Ma : MonoSE ma) (Mb : MonoSE mb) (Mc : MonoSE mc) (ho : OpR X (compareOp op) (rO B (xCmp op))) (ho' : OpR X (compareOp op') (rO B (xCmp op')))
    (ha : PE X a (tO B W ma)) (hb : PE X b (tO B W mb)) (hc : PE X c (tO B W mc)) (hm : lastMarks [op, op'] [b, c] = false) :
    PT X (.Compare a [op, op'] [b, c] pos) (tT B W fun σ s Q E => ma σ s (fun x s1 => mb σ s1 (fun y s2 => br (cmpD s2 op x y) (mc σ s2 (fun z s3 => obl (cmpD s3 op' y z) fun c => Q (.bl c) s3) E) (Q (.bl false) s2)) E) E) :=
  PT.imp (pt_chain ho ho' ha hb hc hm) fun σ H Q h => chn_imp Ma Mb Mc
    (tT_tO (m := fun σ s Q E => ma σ s (fun x s1 => mb σ s1 (fun y s2 => br (cmpD s2 op x y) (mc σ s2 (fun z s3 => obl (cmpD s3 op' y z) fun c => Q (.bl c) s3) E) (Q (.bl false) s2)) E) E) (fun σ s Q Q' E hQ h => Ma _ _ _ _ _ _ (fun x s1 h => Mb _ _ _ _ _ _ (fun y s2 h => br_mono h (fun h => Mc _ _ _ _ _ _ (fun z s3 h => obl_mono h fun _ h => hQ _ _ h) (fun _ _ _ h => h) h) (hQ _ _)) (fun _ _ _ h => h) h) (fun _ _ _ h => h) h) h)
theorem pe_ixx {a b : Expr} {pos : Pos} {ma mb : SE} (Ma : MonoSE ma) (Mb : MonoSE mb) (hK : B.K = X.K) (ha : PE X a (tO B W ma)) (hb : PE X b (tO B W mb)) (hs : PlainIx b) :
    PE X (.Subscript a b pos) (tO B W fun σ s Q E => ma σ s (fun x s1 => mb σ s1 (fun y s2 => xIx x y s2 Q) E) E) :=
  PE.imp (pe_ix (ix_ok hK) ha hb hs) fun σ H Q h => two_imp (f := xIx) Ma Mb (fun x y s Q Q' hQ h => xIx_mono x y hQ h) h
theorem pe_ng {a : Expr} {pos : Pos} {ma : SE} (Ma : MonoSE ma) (ha : PE X a (tO B W ma)) : PE X (.UnaryOp .USub a pos) (tO B W fun σ s Q E => ma σ s (fun x s1 => match x with
    | .int i => Q (.int (-i)) s1
    | _ => False) E) := PE.imp (pe_un un_neg ha) fun σ H Q ⟨ρ, σ', s, L, S, q⟩ => ⟨ρ, σ', s, L, S, Ma _ _ _ _ _ _ (fun x s1 q ρ1 H1 vx p1 k1 rx S1 => by
  cases x <;> try exact (show False from q).elim
  rename_i i
  cases int_of rx
  exact ⟨i, rfl, Lift.here (Lift.mono p1 k1 q) rfl S1⟩) (fun _ _ _ h => h) q⟩
/-! ### and, or, not, if -/
section
include hK
theorem br_lift {H H' : Hp} {ρ ρ' : List Addr} {o : Option Bool} {A A' : Prop} (h : br o A A') : ∃ b, o = some b ∧ if b = true then A else A' := by
  match o, h with
  | some true, h => exact ⟨true, rfl, by rw [if_pos rfl]; exact h⟩
  | some false, h => exact ⟨false, rfl, by rw [if_neg Bool.false_ne_true]; exact h⟩
theorem pe_an {a b : Expr} {rest : List Expr} {pos : Pos} {ma mb : SE} (Ma : MonoSE ma) (Mb : MonoSE mb) (ha : PE X a (tO B W ma)) (hb : PE X (.BoolOp .And (b :: rest) pos) (tO B W mb)) :
    PE X (.BoolOp .And (a :: b :: rest) pos) (tO B W fun σ s Q E => ma σ s (fun x s1 => br (tru s1 x) (mb σ s1 Q E) (Q x s1)) E) :=
  PE.imp (pe_andT ha hb) fun σ H Q ⟨ρ, σ', s, L, S, q⟩ => ⟨ρ, σ', s, L, S, Ma _ _ _ _ _ _ (fun x s1 q ρ1 H1 vx p1 k1 rx S1 => by
    obtain ⟨c, e, q⟩ := br_lift (H := H) (H' := H) (ρ := ρ) (ρ' := ρ) hK q
    refine ⟨c, tru_of rx S1 hK e, ?_⟩
    cases c with
    | true =>
      rw [if_pos rfl] at q ⊢
      exact ⟨ρ1, σ', s1, L.mono p1 k1, S1, Mb _ _ _ _ _ _ (fun _ _ h => Lift.mono p1 k1 h) (fun _ _ _ h => LiftX.mono p1 k1 h) q⟩
    | false =>
      rw [if_neg Bool.false_ne_true] at q ⊢
      exact Lift.here (Lift.mono p1 k1 q) rx S1) (fun _ _ _ h => h) q⟩
theorem pe_orr {a b : Expr} {rest : List Expr} {pos : Pos} {ma mb : SE} (Ma : MonoSE ma) (Mb : MonoSE mb) (ha : PE X a (tO B W ma)) (hb : PE X (.BoolOp .Or (b :: rest) pos) (tO B W mb)) :
    PE X (.BoolOp .Or (a :: b :: rest) pos) (tO B W fun σ s Q E => ma σ s (fun x s1 => br (tru s1 x) (Q x s1) (mb σ s1 Q E)) E) :=
  PE.imp (pe_orT ha hb) fun σ H Q ⟨ρ, σ', s, L, S, q⟩ => ⟨ρ, σ', s, L, S, Ma _ _ _ _ _ _ (fun x s1 q ρ1 H1 vx p1 k1 rx S1 => by
    obtain ⟨c, e, q⟩ := br_lift (H := H) (H' := H) (ρ := ρ) (ρ' := ρ) hK q
    refine ⟨c, tru_of rx S1 hK e, ?_⟩
    cases c with
    | false =>
      rw [if_neg Bool.false_ne_true] at q ⊢
      exact ⟨ρ1, σ', s1, L.mono p1 k1, S1, Mb _ _ _ _ _ _ (fun _ _ h => Lift.mono p1 k1 h) (fun _ _ _ h => LiftX.mono p1 k1 h) q⟩
    | true =>
      rw [if_pos rfl] at q ⊢
      exact Lift.here (Lift.mono p1 k1 q) rx S1) (fun _ _ _ h => h) q⟩
theorem pe_nt {a : Expr} {pos : Pos} {ma : SE} (Ma : MonoSE ma) (ha : PE X a (tO B W ma)) : PE X (.UnaryOp .Not a pos) (tO B W fun σ s Q E => ma σ s (fun x s1 => obl (tru s1 x) fun c => Q (.bl (!c)) s1) E) :=
  PE.imp (pe_notT ha) fun σ H Q ⟨ρ, σ', s, L, S, q⟩ => ⟨ρ, σ', s, L, S, Ma _ _ _ _ _ _ (fun x s1 q ρ1 H1 vx p1 k1 rx S1 => by
    cases e : tru s1 x with
    | none => rw [e] at q; exact q.elim
    | some c =>
      rw [e] at q
      exact ⟨c, tru_of rx S1 hK e, Lift.here (Lift.mono p1 k1 q) rfl S1⟩) (fun _ _ _ h => h) q⟩
theorem pe_it {c a b : Expr} {pos : Pos} {mc ma mb : SE} (Mc : MonoSE mc) (Ma : MonoSE ma) (Mb : MonoSE mb) (hc : PT X c (tT B W mc)) (ha : PE X a (tO B W ma)) (hb : PE X b (tO B W mb)) :
    PE X (.IfExp c a b pos) (tO B W fun σ s Q E => mc σ s (fun x s1 => br (tru s1 x) (ma σ s1 Q E) (mb σ s1 Q E)) E) :=
  PE.imp (pe_ifExp hc ha hb) fun σ H Q ⟨ρ, σ', s, L, S, q⟩ => ⟨ρ, σ', s, L, S, Mc _ _ _ _ _ _ (fun x s1 q => by
    obtain ⟨c, e, q⟩ := br_lift (H := H) (H' := H) (ρ := ρ) (ρ' := ρ) hK q
    rw [e]
    intro ρ1 H1 p1 k1 S1
    cases c with
    | true =>
      rw [if_pos rfl] at q ⊢
      exact ⟨ρ1, σ', s1, L.mono p1 k1, S1, Ma _ _ _ _ _ _ (fun _ _ h => Lift.mono p1 k1 h) (fun _ _ _ h => LiftX.mono p1 k1 h) q⟩
    | false =>
      rw [if_neg Bool.false_ne_true] at q ⊢
      exact ⟨ρ1, σ', s1, L.mono p1 k1, S1, Mb _ _ _ _ _ _ (fun _ _ h => Lift.mono p1 k1 h) (fun _ _ _ h => LiftX.mono p1 k1 h) q⟩) (fun _ _ _ h => h) q⟩
/-- .. as tests -/
theorem pt_tr {a : Expr} {ma : SE} (Ma : MonoSE ma) (ha : PE X a (tO B W ma)) (he : ∀ whole, isTrue a X.env whole = (do let v ← whole; standAt a.pos; holding [v] (truthy v))) : PT X a (tT B W ma) :=
  PT.imp (pt_truth ha he) fun σ H Q ⟨ρ, σ', s, L, S, q⟩ => ⟨ρ, σ', s, L, S, Ma _ _ _ _ _ _ (fun x s1 q ρ1 H1 vx p1 k1 rx S1 => by
    cases e : tru s1 x with
    | none => rw [e] at q; exact q.elim
    | some c =>
      rw [e] at q
      exact ⟨c, tru_of rx S1 hK e, LiftB.here (LiftB.mono p1 k1 q) S1⟩) (fun _ _ _ h => h) q⟩
theorem obl_some {o : Option Bool} {b : Bool} {K : Bool → Prop} (e : o = some b) (h : obl o K) : K b := by rw [e] at h; exact h
theorem pw_an {a b : Expr} {rest : List Expr} {pos : Pos} {ma mb : SE} (Ma : MonoSE ma) (Mb : MonoSE mb) (ha : PT X a (tT B W ma)) (hb : PW X (.BoolOp .And (b :: rest) pos) (tT B W mb)) :
    PW X (.BoolOp .And (a :: b :: rest) pos) (tT B W fun σ s Q E => ma σ s (fun x s1 => br (tru s1 x) (mb σ s1 Q E) (Q x s1)) E) :=
  PW.imp (pw_and ha hb) fun σ H Q ⟨ρ, σ', s, L, S, q⟩ => ⟨ρ, σ', s, L, S, Ma _ _ _ _ _ _ (fun x s1 q => by
    obtain ⟨c, e, q⟩ := br_lift (H := H) (H' := H) (ρ := ρ) (ρ' := ρ) hK q
    rw [e]
    intro ρ1 H1 p1 k1 S1
    cases c with
    | true =>
      rw [if_pos rfl] at q ⊢
      exact ⟨ρ1, σ', s1, L.mono p1 k1, S1, Mb _ _ _ _ _ _ (fun _ _ h => obl_mono h fun _ h => LiftB.mono p1 k1 h) (fun _ _ _ h => LiftX.mono p1 k1 h) q⟩
    | false =>
      rw [if_neg Bool.false_ne_true] at q ⊢
      exact LiftB.here (LiftB.mono p1 k1 (obl_some hK e q)) S1) (fun _ _ _ h => h) q⟩
theorem pw_orr {a b : Expr} {rest : List Expr} {pos : Pos} {ma mb : SE} (Ma : MonoSE ma) (Mb : MonoSE mb) (ha : PT X a (tT B W ma)) (hb : PW X (.BoolOp .Or (b :: rest) pos) (tT B W mb)) :
    PW X (.BoolOp .Or (a :: b :: rest) pos) (tT B W fun σ s Q E => ma σ s (fun x s1 => br (tru s1 x) (Q x s1) (mb σ s1 Q E)) E) :=
  PW.imp (pw_or ha hb) fun σ H Q ⟨ρ, σ', s, L, S, q⟩ => ⟨ρ, σ', s, L, S, Ma _ _ _ _ _ _ (fun x s1 q => by
    obtain ⟨c, e, q⟩ := br_lift (H := H) (H' := H) (ρ := ρ) (ρ' := ρ) hK q
    rw [e]
    intro ρ1 H1 p1 k1 S1
    cases c with
    | false =>
      rw [if_neg Bool.false_ne_true] at q ⊢
      exact ⟨ρ1, σ', s1, L.mono p1 k1, S1, Mb _ _ _ _ _ _ (fun _ _ h => obl_mono h fun _ h => LiftB.mono p1 k1 h) (fun _ _ _ h => LiftX.mono p1 k1 h) q⟩
    | true =>
      rw [if_pos rfl] at q ⊢
      exact LiftB.here (LiftB.mono p1 k1 (obl_some hK e q)) S1) (fun _ _ _ h => h) q⟩
theorem pt_nt {a : Expr} {pos : Pos} {ma : SE} (Ma : MonoSE ma) (ha : PT X a (tT B W ma)) : PT X (.UnaryOp .Not a pos) (tT B W fun σ s Q E => ma σ s (fun x s1 => obl (tru s1 x) fun c => Q (.bl (!c)) s1) E) :=
  PT.imp (pt_not ha) fun σ H Q ⟨ρ, σ', s, L, S, q⟩ => ⟨ρ, σ', s, L, S, Ma _ _ _ _ _ _ (fun x s1 q => obl_mono q fun c h => h) (fun _ _ _ h => h) q⟩
end
/-! ### argument lists, displays, slices -/
theorem pa_nl : PA X [] (tAr B W fun σ s Q E => Q [] s) := PA.imp pa_nil fun σ H Q ⟨ρ, σ', s, L, S, q⟩ => q ρ H [] (List.prefix_refl _) (Keep.refl _) rfl S
theorem pa_cn {e : Expr} {es : List Expr} {me : SE} {mr : SA} (Me : MonoSE me) (Mr : MonoSA mr) (he : PE X e (tO B W me)) (hr : PA X es (tAr B W mr)) (hs : starEach (e :: es) X.env = (false, eval e X.env) :: starEach es X.env) :
    PA X (e :: es) (tAr B W fun σ s Q E => me σ s (fun x s1 => mr σ s1 (fun xs s2 => Q (x :: xs) s2) E) E) :=
  PA.imp (pa_cons he hr hs) fun σ H Q ⟨ρ, σ', s, L, S, q⟩ => ⟨ρ, σ', s, L, S, Me _ _ _ _ _ _ (fun x s1 q ρ1 H1 vx p1 k1 rx S1 =>
    ⟨ρ1, σ', s1, L.mono p1 k1, S1, Mr _ _ _ _ _ _ (fun xs s2 q ρ2 H2 vs p2 k2 rs S2 => q ρ2 H2 (vx :: vs) (p1.trans p2) (k1.trans k2) ⟨vx, vs, rfl, rx.mono p2 k2, rs⟩ S2) (fun _ _ _ h => LiftX.mono p1 k1 h) q⟩) (fun _ _ _ h => h) q⟩
theorem pe_tp {es : List Expr} {x1 : Nat} {pos : Pos} {m : SA} (M : MonoSA m) (h : PA X es (tAr B W m)) : PE X (.Tuple es x1 pos) (tO B W fun σ s Q E => m σ s (fun vs s1 => vs.length ≤ sizeLine ∧ Q (.tup vs) s1) E) :=
  PE.imp (pe_tup h) fun σ H Q ⟨ρ, σ', s, L, S, q⟩ => ⟨ρ, σ', s, L, S, M _ _ _ _ _ _ (fun ds s1 q ρ1 H1 vs p1 k1 rs S1 =>
    ⟨by rw [← rs.length]; exact q.1, fun p hp => tup_new S1 rs q.1 (Lift.mono p1 k1 q.2) hp⟩) (fun _ _ _ h => h) q⟩
theorem pe_ls {es : List Expr} {pos : Pos} {m : SA} (M : MonoSA m) (h : PA X es (tAr B W m)) : PE X (.List es pos) (tO B W fun σ s Q E => m σ s (fun vs s1 => vs.length ≤ sizeLine ∧ mk (.lst vs) s1 Q) E) :=
  PE.imp (pe_lst h) fun σ H Q ⟨ρ, σ', s, L, S, q⟩ => ⟨ρ, σ', s, L, S, M _ _ _ _ _ _ (fun ds s1 q ρ1 H1 vs p1 k1 rs S1 =>
    ⟨by rw [← rs.length]; exact q.1, fun p hp => mk_new S1 rs (mk_mono (fun _ _ h => Lift.mono p1 k1 h) q.2) hp⟩) (fun _ _ _ h => h) q⟩
/-- a slice's part -/
def tPo (B : Tb) (W : WQ) (m : SE) : TO := fun σV H Q => ∃ (ρ : List Addr) (σ : Sl) (s : Sto), RelL B H ρ σ σV ∧ RelS B H ρ s ∧ m σ s (fun d s1 => ∃ lo, partD d = some lo ∧ ∀ ρ' H', ρ <+: ρ' → Keep H H' → RelS B H' ρ' s1 → Q lo H') (LiftX B H ρ σV W)
theorem PO.imp {X : Cx} {e : Option Expr} {t t' : TO} (h : PO X e t) (i : ∀ σ H Q, t' σ H Q → t σ H Q) : PO X e t' := ⟨fun pins s σ H Q I q => h.run pins s σ H Q I (i σ H Q q)⟩
theorem po_no : PO X none (tPo B W fun σ s Q E => Q (.kd 0) s) := PO.imp po_none fun σ H Q ⟨ρ, σ', s, L, S, lo, e, q⟩ => by
  cases e
  exact q ρ H (List.prefix_refl _) (Keep.refl _) S
theorem po_so {e : Expr} {m : SE} (M : MonoSE m) (h : PE X e (tO B W m)) : PO X (some e) (tPo B W m) := PO.imp (po_some h) fun σ H Q ⟨ρ, σ', s, L, S, q⟩ =>
  ⟨ρ, σ', s, L, S, M _ _ _ _ _ _ (fun d s1 q ρ1 H1 v p1 k1 r S1 => by
    obtain ⟨lo, e, q⟩ := q
    cases d <;> simp only [partD] at e
    case int i =>
      cases e
      exact ⟨i, r, q ρ1 H1 p1 k1 S1⟩
    case kd n => exact (show False from r).elim
    all_goals cases e) (fun _ _ _ h => h) q⟩
theorem pe_sl {a : Expr} {lo hi : Option Expr} {p2 pos : Pos} {ma ml mh : SE} (Ma : MonoSE ma) (Ml : MonoSE ml) (Mh : MonoSE mh) (hK : B.K = X.K) (ha : PE X a (tO B W ma)) (hl : PO X lo (tPo B W ml)) (hh : PO X hi (tPo B W mh)) :
    PE X (.Subscript a (.Slice lo hi none p2) pos) (tO B W fun σ s Q E => ma σ s (fun x s1 => ml σ s1 (fun y s2 => (partD y).isSome = true ∧ mh σ s2 (fun z s3 => (partD z).isSome = true ∧ xSl x y z s3 Q) E) E) E) :=
  PE.imp (pe_slice (sl_ok hK) ha hl hh) fun σ H Q ⟨ρ, σ', s, L, S, q⟩ => ⟨ρ, σ', s, L, S, Ma _ _ _ _ _ _ (fun x s1 q ρ1 H1 vx p1 k1 rx S1 =>
    ⟨ρ1, σ', s1, L.mono p1 k1, S1, Ml _ _ _ _ _ _ (fun y s2 q => by
      obtain ⟨l, el⟩ := Option.isSome_iff_exists.mp q.1
      refine ⟨l, el, fun ρ2 H2 p2 k2 S2 => ⟨ρ2, σ', s2, L.mono (p1.trans p2) (k1.trans k2), S2, Mh _ _ _ _ _ _ (fun z s3 q => ?_) (fun _ _ _ h => LiftX.mono (p1.trans p2) (k1.trans k2) h) q.2⟩⟩
      obtain ⟨u, eu⟩ := Option.isSome_iff_exists.mp q.1
      refine ⟨u, eu, fun ρ3 H3 p3 k3 S3 => ⟨x, y, z, s3, ρ3, rx.mono (p2.trans p3) (k2.trans k3), el, eu, S3, xSl_mono _ _ _ (fun _ _ h => Lift.mono ((p1.trans p2).trans p3) ((k1.trans k2).trans k3) h) q.2⟩⟩) (fun _ _ _ h => LiftX.mono p1 k1 h) q⟩) (fun _ _ _ h => h) q⟩
/-! ### calls -/
theorem tcb_imp {f : BF} {m : SA} (M : MonoSA m) {σ : L2.St} {H : Hp} {Q : VK} (h : tO B W (fun σ s Q E => m σ s (fun vs s1 => xBlt f vs s1 Q) E) σ H Q) : tCB (rB B f) (tAr B W m) σ H Q := by
  obtain ⟨ρ, σ', s, L, S, q⟩ := h
  exact ⟨ρ, σ', s, L, S, M _ _ _ _ _ _ (fun ds s1 q ρ1 H1 vs p1 k1 rs S1 => ⟨ds, s1, ρ1, rs, S1, xBlt_mono f ds (fun _ _ h => Lift.mono p1 k1 h) q⟩) (fun _ _ _ h => h) q⟩
theorem bm_imp {mf : MF} {T : String} (hT : T = mT mf) {mo : SE} {m : SA} (Mo : MonoSE mo) (M : MonoSA m) {σ : L2.St} {H : Hp} {Q : VK}
    (h : tO B W (fun σ s Q E => mo σ s (fun x s1 => mTy mf x s1 ∧ m σ s1 (fun vs s2 => xMeth mf x vs s2 Q) E) E) σ H Q) : tBM X.K T (rM B mf) (tO B W mo) (tAr B W m) σ H Q := by
  obtain ⟨ρ, σ', s, L, S, q⟩ := h
  refine ⟨ρ, σ', s, L, S, Mo _ _ _ _ _ _ (fun x s1 q ρ1 H1 vx p1 k1 rx S1 => ⟨?_, ?_⟩) (fun _ _ _ h => h) q⟩
  · rw [hT]
    exact mTy_ok rx S1 q.1
  · exact ⟨ρ1, σ', s1, L.mono p1 k1, S1, M _ _ _ _ _ _ (fun ds s2 q ρ2 H2 vs p2 k2 rs S2 => ⟨x, ds, s2, ρ2, rx.mono p2 k2, rs, S2, xMeth_mono mf x ds (fun _ _ h => Lift.mono (p1.trans p2) (k1.trans k2) h) q⟩) (fun _ _ _ h => LiftX.mono p1 k1 h) q.2⟩
theorem bm0_imp {mf : MF} {T : String} (hT : T = mT mf) {mo : SE} (Mo : MonoSE mo) {σ : L2.St} {H : Hp} {Q : VK}
    (h : tO B W (fun σ s Q E => mo σ s (fun x s1 => mTy mf x s1 ∧ xMeth mf x [] s1 Q) E) σ H Q) : tBM0 X.K T (rM B mf) (tO B W mo) σ H Q := by
  obtain ⟨ρ, σ', s, L, S, q⟩ := h
  refine ⟨ρ, σ', s, L, S, Mo _ _ _ _ _ _ (fun x s1 q ρ1 H1 vx p1 k1 rx S1 => ⟨?_, ?_⟩) (fun _ _ _ h => h) q⟩
  · rw [hT]
    exact mTy_ok rx S1 q.1
  · exact ⟨x, [], s1, ρ1, rx, rfl, S1, xMeth_mono mf x [] (fun _ _ h => Lift.mono p1 k1 h) q.2⟩
/-- a def's promise, from its plain meaning -/
def spD (B : Tb) (RX : Nat → List (Nat × D) → Value → Option Addr → Hp → List Addr → Prop) (G : FS) (f : Nat) : Sp := fun vs H Q E => ∃ (ρ : List Addr) (ds : List D) (s : Sto), RelDs B H ρ ds vs ∧ RelS B H ρ s ∧
  G f ds s (Lift B H ρ Q) fun c fs s' => ∀ ρ' H' cls d, ρ <+: ρ' → Keep H H' → RelS B H' ρ' s' → RX c fs cls d H' ρ' → E cls d H'
end
end PX

/-! PX: targets, what is walked, statements. -/
namespace PX
open PySem PySem.Spec PyProof.Rows L2
theorem br_cases {o : Option Bool} {A A' : Prop} (h : br o A A') : ∃ b, o = some b ∧ if b = true then A else A' := by
  match o, h with
  | some true, h => exact ⟨true, rfl, by rw [if_pos rfl]; exact h⟩
  | some false, h => exact ⟨false, rfl, by rw [if_neg Bool.false_ne_true]; exact h⟩
section
variable {X : Cx} {B : Tb} {W : WQ} (hK : B.K = X.K)
theorem RelL.ofSet {H : Hp} {ρ : List Addr} {σ : Sl} {σV : L2.St} (L : RelL B H ρ σ σV) : σV.length = σ.length := L.len.symm
/-! ### targets -/
def gT (B : Tb) (t : TG) : L2.TG := fun v σV H Q => ∃ (ρ : List Addr) (σ : Sl) (d : D), RelL B H ρ σ σV ∧ RelD B H ρ d v ∧ xTg t d σ fun σ' => ∀ σV', RelL B H ρ σ' σV' → Q σV' H
def gTs (B : Tb) (ts : List TG) : TGs := fun vs σV H Q => ∃ (ρ : List Addr) (σ : Sl) (ds : List D), RelL B H ρ σ σV ∧ RelDs B H ρ ds vs ∧ xTgs ts ds σ fun σ' => ∀ σV', RelL B H ρ σ' σV' → Q σV' H
theorem PG.imp {e : Expr} {t t' : L2.TG} (h : PG X e t) (i : ∀ v σ H Q, t' v σ H Q → t v σ H Q) : PG X e t' := ⟨fun pins s σ H v u Q I r q => h.run pins s σ H v u Q I r (i v σ H Q q)⟩
theorem PGs.imp {es : List Expr} {t t' : TGs} (h : PGs X es t) (i : ∀ v σ H Q, t' v σ H Q → t v σ H Q) : PGs X es t' := ⟨fun pins s σ H v u Q I r q => h.run pins s σ H v u Q I r (i v σ H Q q)⟩
theorem pg_nm {e : Expr} {i : Nat} (h : PG X e (gName i)) : PG X e (gT B (.nm i)) := PG.imp h fun v σV H Q ⟨ρ, σ, d, L, r, q⟩ => q _ (L.set r i)
theorem pgs_nl : PGs X [] (gTs B []) := PGs.imp pgs_nil fun vs σV H Q ⟨ρ, σ, ds, L, r, q⟩ => by
  cases ds with
  | nil => exact ⟨r, q _ L⟩
  | cons d ds => exact (show False from q).elim
theorem pgs_cn {e : Expr} {es : List Expr} {t : TG} {ts : List TG} (h1 : PG X e (gT B t)) (h2 : PGs X es (gTs B ts)) (hs : (assignEach (e :: es) X.env).map (·.2) = assign e X.env :: (assignEach es X.env).map (·.2)) : PGs X (e :: es) (gTs B (t :: ts)) :=
  PGs.imp (pgs_cons h1 h2 hs) fun vs σV H Q ⟨ρ, σ, ds, L, r, q⟩ => by
    cases ds with
    | nil => exact (show False from q).elim
    | cons d ds =>
      obtain ⟨v, rr, rfl, r1, r2⟩ := r
      exact ⟨v, rr, rfl, ρ, σ, d, L, r1, xTg_mono t (fun σ' h σV' L' => ⟨ρ, σ', ds, L', r2, h⟩) q⟩
theorem pg_tp {es : List Expr} {k : Nat} {ts : List TG} {pos : Pos} (hc : X.calm = true) (hK : B.K = X.K) (h : PGs X es (gTs B ts)) (hl : ts.length = es.length) (hn : (assignEach es X.env).length = es.length) (hst : (assignEach es X.env).findIdx? (·.1) = none) :
    PG X (.Tuple es k pos) (gT B (.tp ts)) := PG.imp (pg_tup hc h hn hst) fun v σV H Q ⟨ρ, σ, d, L, r, q⟩ => by
  cases d <;> try exact (show False from q).elim
  rename_i xs
  have q : xTgs ts xs σ fun σ' => ∀ σV', RelL B H ρ σ' σV' → Q σV' H := q
  obtain ⟨a, vs, rfl, sq, z, d⟩ := r
  have hx : ∀ (ts : List TG) (xs : List D) (σ : Sl) (Q : Sl → Prop), xTgs ts xs σ Q → ts.length = xs.length := by
    intro ts
    induction ts with
    | nil => intro xs σ Q q; cases xs with
      | nil => rfl
      | cons _ _ => exact (show False from q).elim
    | cons t ts ih => intro xs σ Q q; cases xs with
      | nil => exact (show False from q).elim
      | cons x xs =>
        have hnest : ∀ (t : TG) (d : D) (σ : Sl) (Q : Sl → Prop), xTg t d σ Q → ∃ σ', Q σ' := by
          intro t
          refine TG.rec (motive_1 := fun t => ∀ (d : D) (σ : Sl) (Q : Sl → Prop), xTg t d σ Q → ∃ σ', Q σ') (motive_2 := fun ts => ∀ (ds : List D) (σ : Sl) (Q : Sl → Prop), xTgs ts ds σ Q → ∃ σ', Q σ') ?_ ?_ ?_ ?_ t
          · intro i d σ Q q; exact ⟨_, q⟩
          · intro ts ih d σ Q q
            cases d <;> first | exact ih _ σ Q q | exact (show False from q).elim
          · intro ds σ Q q
            cases ds with
            | nil => exact ⟨_, q⟩
            | cons _ _ => exact (show False from q).elim
          · intro t ts ih1 ih2 ds σ Q q
            cases ds with
            | nil => exact (show False from q).elim
            | cons d ds =>
              obtain ⟨σ', h⟩ := ih1 d σ _ q
              exact ih2 ds σ' Q h
        obtain ⟨σ', h⟩ := hnest t x σ _ q
        rw [List.length_cons, List.length_cons, ih xs σ' Q h]
  exact ⟨a, vs, rfl, hK ▸ sq, by rw [← d.length, ← hx _ _ _ _ q, hl], ρ, σ, xs, L, d, q⟩
/-! ### what is walked -/
/-- J hands out the items, while the list at o stays as it is -/
structure Srv (B : Tb) (J : It) (H0 : Hp) (ρ0 : List Addr) (items : List D) (o : Option Nat) : Prop where
  go : ∀ i H ρ s, ρ0 <+: ρ → Keep H0 H → RelS B H ρ s → chk o items s → i < items.length → J.go i H
  yld : ∀ i H ρ s x H', ρ0 <+: ρ → Keep H0 H → RelS B H ρ s → chk o items s → i < items.length → J.yld i H x H' → ∃ d, items[i]? = some d ∧ RelS B H' ρ s ∧ Keep H H' ∧ RelD B H' ρ d x
  stop : ∀ H ρ s, ρ0 <+: ρ → Keep H0 H → RelS B H ρ s → chk o items s → J.stop items.length H
def tIt (B : Tb) (W : WQ) (m : SA) (ik : IK) : TI := fun σV H R => ∃ (ρ : List Addr) (σ : Sl) (s : Sto), RelL B H ρ σ σV ∧ RelS B H ρ s ∧ m σ s (fun vs s1 => xIt ik vs s1 fun items o => ∀ ρ' H' J, ρ <+: ρ' → Keep H H' → RelS B H' ρ' s1 → Srv B J H' ρ' items o → R J H') (LiftX B H ρ σV W)
section
variable {H0 : Hp} {ρ0 : List Addr}
theorem srv_list {a : Addr} {n : Nat} {xs : List D} (hK : B.K = X.K) (e : ρ0[n]? = some a) : Srv B (Itl X.K a) H0 ρ0 xs (some n) where
  go := fun i H ρ s p k S c hi => by
    obtain ⟨vs, g, d⟩ := S.lstOf (pre_get p e) c
    exact ⟨vs, vs[i]'(by rw [← d.length]; exact hi), SqL.of g, List.getElem?_eq_getElem _⟩
  yld := fun i H ρ s x H' p k S c hi y => by
    obtain ⟨vs, g, d⟩ := S.lstOf (pre_get p e) c
    obtain ⟨rfl, y⟩ := y
    obtain ⟨z, h1, h2⟩ := d.getV (y vs (SqL.of g))
    exact ⟨z, h1, S, Keep.refl _, h2⟩
  stop := fun H ρ s p k S c => by
    obtain ⟨vs, g, d⟩ := S.lstOf (pre_get p e) c
    exact ⟨vs, SqL.of g, by rw [← d.length]; exact Nat.le_refl _⟩
theorem srv_fl {a : Addr} {vs : List V} {xs : List D} (hK : B.K = X.K) (f : FrzL B.K H0 a vs) (d : RelDs B H0 ρ0 xs vs) : Srv B (Itl X.K a) H0 ρ0 xs none where
  go := fun i H ρ s p k S c hi => ⟨vs, vs[i]'(by rw [← d.length]; exact hi), hK ▸ (k.frzL f).sq, List.getElem?_eq_getElem _⟩
  yld := fun i H ρ s x H' p k S c hi y => by
    obtain ⟨rfl, y⟩ := y
    obtain ⟨z, h1, h2⟩ := (d.mono p k).getV (y vs (hK ▸ (k.frzL f).sq))
    exact ⟨z, h1, S, Keep.refl _, h2⟩
  stop := fun H ρ s p k S c => ⟨vs, hK ▸ (k.frzL f).sq, by rw [← d.length]; exact Nat.le_refl _⟩
theorem srv_tup {a : Addr} {vs : List V} {xs : List D} (hK : B.K = X.K) (f : SqT B.K H0 a vs) (d : RelDs B H0 ρ0 xs vs) : Srv B (Itt X.K a) H0 ρ0 xs none where
  go := fun i H ρ s p k S c hi => ⟨vs, vs[i]'(by rw [← d.length]; exact hi), hK ▸ k.sqT f, List.getElem?_eq_getElem _⟩
  yld := fun i H ρ s x H' p k S c hi y => by
    obtain ⟨rfl, y⟩ := y
    obtain ⟨z, h1, h2⟩ := (d.mono p k).getV (y vs (hK ▸ k.sqT f))
    exact ⟨z, h1, S, Keep.refl _, h2⟩
  stop := fun H ρ s p k S c => ⟨vs, hK ▸ k.sqT f, by rw [← d.length]; exact Nat.le_refl _⟩
theorem srv_str {a : List Nat} (z : StrOk a) : Srv B (Its ⟨a.toArray⟩) H0 ρ0 (a.map fun c => .str [c]) none where
  go := fun i H ρ s p k S c hi => by
    rw [List.length_map] at hi
    show i < a.toArray.size
    rw [List.size_toArray]
    exact hi
  yld := fun i H ρ s x H' p k S c hi y => by
    obtain ⟨rfl, ch, h1, rfl⟩ := y
    have h2 : a[i]? = some ch := by simpa using h1
    exact ⟨.str [ch], by rw [List.getElem?_map, h2]; rfl, S, Keep.refl _, rfl, z.sub (fun c hc => by rw [List.mem_singleton.mp hc]; exact List.mem_of_getElem? h2) (List.length_pos_of_mem (List.mem_of_getElem? h2))⟩
  stop := fun H ρ s p k S c => by
    show a.toArray.size ≤ _
    rw [List.size_toArray, List.length_map]
    exact Nat.le_refl _
theorem srv_rng {lo hi : Int} : Srv B (Itr lo (hi - lo).toNat) H0 ρ0 (rngL lo hi) none where
  go := fun i H ρ s p k S c h => by
    unfold rngL at h
    rw [List.length_map, List.length_range] at h
    exact h
  yld := fun i H ρ s x H' p k S c h y => by
    obtain ⟨rfl, rfl⟩ := y
    unfold rngL at h ⊢
    rw [List.length_map, List.length_range] at h
    exact ⟨.int (lo + i), by rw [List.getElem?_map, List.getElem?_range h]; rfl, S, Keep.refl _, rfl⟩
  stop := fun H ρ s p k S c => by
    unfold rngL
    rw [List.length_map, List.length_range]
    exact Nat.le_refl _
end
/-- a value is walked -/
theorem iter_seq {tg : Expr} {pins : List (Addr × Obj)} {σV : L2.St} {H : Hp} {s0 : Shared} {v : V} {u : Value} {d : D} {ρ : List Addr} {s : Sto} {R : It → Hp → Prop} {E : Value → Shared → Prop} (hK : B.K = X.K) (I : Inv X pins σV H s0) (ru : RelV v u) (r : RelD B H ρ d v) (S : RelS B H ρ s)
    (h : xIt .seq [d] s fun items o => ∀ J, Srv B J H ρ items o → R J H) : wpAny (model X.prog X.w) X.A (pyIter u) (PIE X pins σV tg R) E s0 := by
  cases d <;> simp only [xIt] at h
  case str a =>
    obtain ⟨rfl, z⟩ := r
    obtain ⟨t, rfl⟩ := ru
    have q := h _ (srv_str z)
    cases ha : (⟨a.toArray⟩ : Str).cps.all (· < 128)
    · exact wpAny_pyIter_wide ha (pi_one (tk := s0.toks) I _ (turn_str _ _ t "str_iterator" (.inr rfl)) ⟨_, Heap.get?_push_size _ rfl, rfl, rfl⟩ q)
    · exact wpAny_pyIter_ascii ha (pi_one (tk := s0.toks) I _ (turn_str _ _ t "str_ascii_iterator" (.inl rfl)) ⟨_, Heap.get?_push_size _ rfl, rfl, rfl⟩ q)
  case tup xs =>
    obtain ⟨a, vs, rfl, sq, z, d⟩ := r
    cases ru
    have q := h _ (srv_tup hK sq d)
    obtain ⟨its, rv, p, hz⟩ := I.tuple (hK ▸ sq)
    exact wpAny_pyIter_tuple (show s0.heap.IsTuple a its.toArray from p) (pi_one (tk := s0.toks) I _ (turn_tuple a _) ⟨_, Heap.get?_push_size _ rfl, rfl, rfl⟩ q)
  case fl xs =>
    obtain ⟨a, vs, rfl, f, d⟩ := r
    cases ru
    have q := h _ (srv_fl hK f d)
    obtain ⟨its, rv, p, hz⟩ := I.list (hK ▸ f.sq)
    exact wpAny_pyIter_list p.isList (pi_one (tk := s0.toks) I _ (turn_list a _) ⟨_, Heap.get?_push_size _ rfl, rfl, rfl⟩ q)
  case ref n =>
    obtain ⟨a, rfl, e⟩ := r
    cases ru
    split at h
    · rename_i xs hs
      have q := h _ (srv_list hK e)
      obtain ⟨vs, g, d⟩ := S.lstOf e hs
      obtain ⟨its, rv, p, hz⟩ := I.list (SqL.of g)
      exact wpAny_pyIter_list p.isList (pi_one (tk := s0.toks) I _ (turn_list a _) ⟨_, Heap.get?_push_size _ rfl, rfl, rfl⟩ q)
    · exact h.elim
  all_goals exact h.elim
theorem PI.imp {tg e : Expr} {t t' : TI} (h : PI X tg e t) (i : ∀ σ H R, t' σ H R → t σ H R) : PI X tg e t' := ⟨fun pins s σ H R I q => h.run pins s σ H R I (i σ H R q)⟩
theorem pi_sq {tg e : Expr} {m : SE} (M : MonoSE m) (hK : B.K = X.K) (h : PE X e (tO B W m)) : PI X tg e (tIt B W (fun σ s Q E => m σ s (fun d s1 => Q [d] s1) E) .seq) := by
  refine ⟨fun pins s0 σV H R I ⟨ρ, σ, s, L, S, q⟩ => ?_⟩
  refine thn (h.run pins s0 σV H (fun v H1 => ∃ ρ1 d s1, RelD B H1 ρ1 d v ∧ RelS B H1 ρ1 s1 ∧ xIt .seq [d] s1 fun items o => ∀ J, Srv B J H1 ρ1 items o → R J H1) I ⟨ρ, σ, s, L, S, M _ _ _ _ _ _ (fun d s1 q ρ1 H1 v p1 k1 r S1 => ?_) (fun _ _ _ h => h) q⟩) fun u s1 ⟨v, H1, I1, ru, ρ1, d, st, r, S1, q⟩ => iter_seq hK I1 ru r S1 q
  exact ⟨ρ1, d, s1, r, S1, xIt_mono _ _ (fun l o h J => h ρ1 H1 J p1 k1 S1) q⟩
theorem pi_r1 {tg : Expr} {m : SA} {iter : Expr} (M : MonoSA m) (h : PI X tg iter (iRng1 (tAr B W m))) : PI X tg iter (tIt B W m .rng1) := PI.imp h fun σV H R ⟨ρ, σ, s, L, S, q⟩ =>
  ⟨ρ, σ, s, L, S, M _ _ _ _ _ _ (fun ds s1 q ρ1 H1 vs p1 k1 rs S1 => by
    unfold xIt at q
    split at q <;> rename_i e1 <;> try cases e1
    · rename_i j
      obtain ⟨w, rfl, r⟩ := rel1 rs
      cases int_of r
      refine ⟨j, rfl, q.1.2.2.1, q.1.2.2.2, ?_⟩
      have := q.2 ρ1 H1 (Itr 0 (j - 0).toNat) p1 k1 S1 srv_rng
      rw [Int.sub_zero] at this
      exact this
    all_goals exact q.elim) (fun _ _ _ h => h) q⟩
theorem pi_r2 {tg : Expr} {m : SA} {iter : Expr} (M : MonoSA m) (h : PI X tg iter (iRng2 (tAr B W m))) : PI X tg iter (tIt B W m .rng2) := PI.imp h fun σV H R ⟨ρ, σ, s, L, S, q⟩ =>
  ⟨ρ, σ, s, L, S, M _ _ _ _ _ _ (fun ds s1 q ρ1 H1 vs p1 k1 rs S1 => by
    unfold xIt at q
    split at q <;> rename_i e1 <;> try cases e1
    · rename_i i j
      obtain ⟨w, w', rfl, r, r'⟩ := rel2 rs
      cases int_of r
      cases int_of r'
      exact ⟨i, j, rfl, q.1, q.2 ρ1 H1 (Itr i (j - i).toNat) p1 k1 S1 srv_rng⟩
    all_goals exact q.elim) (fun _ _ _ h => h) q⟩
/-! ### statements -/
def LiftN (B : Tb) (H : Hp) (ρ : List Addr) (W : WQ) (N : Ends) : En where
  nx := fun σ s' => ∀ ρ' H' σV, ρ <+: ρ' → Keep H H' → RelL B H' ρ' σ σV → RelS B H' ρ' s' → N.nx σV H'
  rt := Lift B H ρ N.rt
  bk := fun σ s' => ∀ ρ' H' σV, ρ <+: ρ' → Keep H H' → RelL B H' ρ' σ σV → RelS B H' ρ' s' → N.bk σV H'
  ct := fun σ s' => ∀ ρ' H' σV, ρ <+: ρ' → Keep H H' → RelL B H' ρ' σ σV → RelS B H' ρ' s' → N.ct σV H'
  ex := fun c fs σ s' => ∀ ρ' H' σV, ρ <+: ρ' → Keep H H' → RelL B H' ρ' σ σV → RelS B H' ρ' s' → W c fs σV H' ρ' s'
def MonoSS (m : SS) : Prop := ∀ σ s N N', En.le N N' → m σ s N → m σ s N'
def tS (B : Tb) (W : WQ) (m : SS) : TS := fun N σV H => ∃ (ρ : List Addr) (σ : Sl) (s : Sto), RelL B H ρ σ σV ∧ RelS B H ρ s ∧ m σ s (LiftN B H ρ W N)
theorem LiftN.le {H H' : Hp} {ρ ρ' : List Addr} {N : Ends} (p : ρ <+: ρ') (k : Keep H H') : En.le (LiftN B H ρ W N) (LiftN B H' ρ' W N) where
  nx := fun σ s h ρ2 H2 σV p2 k2 => h ρ2 H2 σV (p.trans p2) (k.trans k2)
  rt := fun d s h => Lift.mono p k h
  bk := fun σ s h ρ2 H2 σV p2 k2 => h ρ2 H2 σV (p.trans p2) (k.trans k2)
  ct := fun σ s h ρ2 H2 σV p2 k2 => h ρ2 H2 σV (p.trans p2) (k.trans k2)
  ex := fun c fs σ s h ρ2 H2 σV p2 k2 => h ρ2 H2 σV (p.trans p2) (k.trans k2)
/-- what an expression's exception wishes, from the statement's -/
theorem ex_of {H : Hp} {ρ : List Addr} {σ : Sl} {σV : L2.St} {N : Ends} (L : RelL B H ρ σ σV) {c : Nat} {fs : List (Nat × D)} {s : Sto} (h : (LiftN B H ρ W N).ex c fs σ s) : LiftX B H ρ σV W c fs s :=
  fun ρ' H' p k S => h ρ' H' σV p k (L.mono p k) S
theorem pss_nl : PSs X [] (tS B W fun σ s N => N.nx σ s) := PSs.imp pss_nil fun N σV H ⟨ρ, σ, s, L, S, q⟩ => q ρ H σV (List.prefix_refl _) (Keep.refl _) L S
theorem pss_cn {st : Stmt} {rest : List Stmt} {m1 m2 : SS} (M1 : MonoSS m1) (M2 : MonoSS m2) (h1 : PS X st (tS B W m1)) (h2 : PSs X rest (tS B W m2)) : PSs X (st :: rest) (tS B W fun σ s N => m1 σ s { N with nx := fun σ s => m2 σ s N }) :=
  PSs.imp (pss_cons h1 h2) fun N σV H ⟨ρ, σ, s, L, S, q⟩ => ⟨ρ, σ, s, L, S, M1 _ _ { LiftN B H ρ W N with nx := fun σ s => m2 σ s (LiftN B H ρ W N) } _ ⟨fun σ s h ρ2 H2 σV2 p2 k2 L2 S2 => ⟨ρ2, σ, s, L2, S2, M2 _ _ _ _ (LiftN.le p2 k2) h⟩, fun _ _ h => h, fun _ _ h => h, fun _ _ h => h, fun _ _ _ _ h => h⟩ q⟩
theorem ps_br {pos : Pos} : PS X (.Break pos) (tS B W fun σ s N => N.bk σ s) := PS.imp ps_break fun N σV H ⟨ρ, σ, s, L, S, q⟩ => q ρ H σV (List.prefix_refl _) (Keep.refl _) L S
theorem ps_ct {pos : Pos} : PS X (.Continue pos) (tS B W fun σ s N => N.ct σ s) := PS.imp ps_continue fun N σV H ⟨ρ, σ, s, L, S, q⟩ => q ρ H σV (List.prefix_refl _) (Keep.refl _) L S
theorem ps_ps {pos : Pos} : PS X (.Pass pos) (tS B W fun σ s N => N.nx σ s) := PS.imp ps_pass fun N σV H ⟨ρ, σ, s, L, S, q⟩ => q ρ H σV (List.prefix_refl _) (Keep.refl _) L S
theorem ps_ex {e : Expr} {m : SE} {pos : Pos} (M : MonoSE m) (h : PE X e (tO B W m)) (hs : swapsWith e none pos.line X.env = pure false) : PS X (.Expr e pos) (tS B W fun σ s N => m σ s (fun _ s1 => N.nx σ s1) (fun c fs s1 => N.ex c fs σ s1)) :=
  PS.imp (ps_expr h hs) fun N σV H ⟨ρ, σ, s, L, S, q⟩ => ⟨ρ, σ, s, L, S, M _ _ _ _ _ _ (fun d s1 h ρ2 H2 v p k r S2 => h ρ2 H2 σV p k (L.mono p k) S2) (fun _ _ _ h => ex_of L h) q⟩
theorem ps_rt {e : Expr} {m : SE} {pos : Pos} (M : MonoSE m) (h : PE X e (tO B W m)) : PS X (.Return (some e) pos) (tS B W fun σ s N => m σ s N.rt (fun c fs s1 => N.ex c fs σ s1)) :=
  PS.imp (ps_ret h) fun N σV H ⟨ρ, σ, s, L, S, q⟩ => ⟨ρ, σ, s, L, S, M _ _ _ _ _ _ (fun _ _ h => h) (fun _ _ _ h => ex_of L h) q⟩
theorem ps_rtN {pos : Pos} : PS X (.Return none pos) (tS B W fun σ s N => N.rt .non s) := PS.imp ps_retN fun N σV H ⟨ρ, σ, s, L, S, q⟩ => Lift.here q rfl S
theorem ps_as {tg e : Expr} {t : TG} {m : SE} {pos : Pos} (M : MonoSE m) (he : PE X e (tO B W m)) (hg : PG X tg (gT B t)) (hp : ∀ {g : L2.TG}, PG X tg g → PS X (.Assign [tg] e pos) (tAsg (tO B W m) g)) :
    PS X (.Assign [tg] e pos) (tS B W fun σ s N => m σ s (fun x s1 => xTg t x σ fun σ' => N.nx σ' s1) (fun c fs s1 => N.ex c fs σ s1)) :=
  PS.imp (hp hg) fun N σV H ⟨ρ, σ, s, L, S, q⟩ => ⟨ρ, σ, s, L, S, M _ _ _ _ _ _ (fun d s1 h ρ2 H2 v p k r S2 => ⟨ρ2, σ, d, L.mono p k, r, xTg_mono t (fun σ' h σV' L' => h ρ2 H2 σV' p k L' S2) h⟩) (fun _ _ _ h => ex_of L h) q⟩
theorem ps_nmset {e : Expr} {i : Nat} {x : Str} {py pos : Pos} {m : SE} (M : MonoSE m) (h : PS X (.Assign [.Name x py] e pos) (tAsg (tO B W m) (gName i))) :
    PS X (.Assign [.Name x py] e pos) (tS B W fun σ s N => m σ s (fun d s1 => xTg (.nm i) d σ fun σ' => N.nx σ' s1) (fun c fs s1 => N.ex c fs σ s1)) :=
  PS.imp h fun N σV H ⟨ρ, σ, s, L, S, q⟩ => ⟨ρ, σ, s, L, S, M _ _ _ _ _ _ (fun d s1 h ρ2 H2 v p k r S2 => h ρ2 H2 _ p k ((L.mono p k).set r i) S2) (fun _ _ _ h => ex_of L h) q⟩
/-- o[i] = v -/
def rSet (B : Tb) : TSet := fun vx vy vz H Q => ∃ (x y z : D) (s : Sto) (ρ : List Addr), RelD B H ρ x vx ∧ RelD B H ρ y vy ∧ RelD B H ρ z vz ∧ RelS B H ρ s ∧ xAset x y z s fun s' => ∀ ρ' H', ρ <+: ρ' → Keep H H' → RelS B H' ρ' s' → Q H'
theorem set_ok : PSet X (rSet B) := by
  intro pins s0 σV H vx vy vz ov iv u Q I r1 r2 r3 h
  obtain ⟨x, y, z, s, ρ, d1, d2, d3, S, h⟩ := h
  unfold xAset at h
  split at h
  · rename_i n k
    obtain ⟨a, rfl, e⟩ := d1
    cases int_of d2
    split at h
    · rename_i xs hs
      obtain ⟨vs, g, d⟩ := S.lstOf e hs
      split at h
      · rename_i j hj
        refine set_list pins s0 σV H _ _ _ ov iv u Q I r1 r2 r3 ⟨a, vs, k, j, rfl, rfl, g, by rw [← d.length]; exact hj, ?_⟩
        exact h ρ _ (List.prefix_refl _) (.lst g) (S.setL e hs g (RelDs.set d3 j d))
      · exact h.elim
    · exact h.elim
  · exact h.elim
theorem ps_aset {o i e : Expr} {mo mi me : SE} {p1 pos : Pos} (Mo : MonoSE mo) (Mi : MonoSE mi) (Me : MonoSE me) (he : PE X e (tO B W me)) (hp : PS X (.Assign [.Subscript o i p1] e pos) (tAsg (tO B W me) (gSub (tO B W mo) (tO B W mi) (rSet B)))) :
    PS X (.Assign [.Subscript o i p1] e pos) (tS B W fun σ s N => me σ s (fun v s1 => mo σ s1 (fun x s2 => mi σ s2 (fun y s3 => xAset x y v s3 fun s4 => N.nx σ s4) (fun c fs s1 => N.ex c fs σ s1)) (fun c fs s1 => N.ex c fs σ s1)) (fun c fs s1 => N.ex c fs σ s1)) :=
  PS.imp hp fun N σV H ⟨ρ, σ, s, L, S, q⟩ => ⟨ρ, σ, s, L, S, Me _ _ _ _ _ _ (fun dv s1 q ρ1 H1 vv p1 k1 rv S1 =>
    ⟨ρ1, σ, s1, L.mono p1 k1, S1, Mo _ _ _ _ _ _ (fun dx s2 q ρ2 H2 vx p2 k2 rx S2 =>
      ⟨ρ2, σ, s2, L.mono (p1.trans p2) (k1.trans k2), S2, Mi _ _ _ _ _ _ (fun dy s3 q ρ3 H3 vy p3 k3 ry S3 =>
        ⟨dx, dy, dv, s3, ρ3, rx.mono p3 k3, ry, rv.mono (p2.trans p3) (k2.trans k3), S3, xAset_mono _ _ _ (fun s4 h ρ4 H4 p4 k4 S4 => h ρ4 H4 σV (((p1.trans p2).trans p3).trans p4) (((k1.trans k2).trans k3).trans k4) (L.mono (((p1.trans p2).trans p3).trans p4) (((k1.trans k2).trans k3).trans k4)) S4) q⟩)
        (fun _ _ _ h => LiftX.mono (p1.trans p2) (k1.trans k2) (ex_of L h)) q⟩) (fun _ _ _ h => LiftX.mono p1 k1 (ex_of L h)) q⟩) (fun _ _ _ h => ex_of L h) q⟩
theorem ps_ag {e : Expr} {i : Nat} {x : Str} {op : Operator} {p1 pos : Pos} {m : SE} (M : MonoSE m) (h : PS X (.AugAssign (.Name x p1) op e pos) (tAug i (tO B W m) (rO B (xIp op)))) :
    PS X (.AugAssign (.Name x p1) op e pos) (tS B W fun σ s N => match σ[i]? with
    | some (some x) => m σ s (fun y s1 => xIp op x y s1 fun z s2 => N.nx (σ.set i (some z)) s2) (fun c fs s1 => N.ex c fs σ s1)
    | _ => False) := PS.imp h fun N σV H ⟨ρ, σ, s, L, S, q⟩ => by
  dsimp only at q
  split at q
  · rename_i d hd
    obtain ⟨v, h1, h2⟩ := L.at_ i d hd
    refine ⟨v, h1, ρ, σ, s, L, S, M _ _ _ _ _ _ (fun y s1 q ρ1 H1 vy p1 k1 ry S1 => ?_) (fun _ _ _ h => ex_of L h) q⟩
    exact ⟨d, y, s1, ρ1, h2.mono p1 k1, ry, S1, xIp_mono op _ _ (fun z s2 h ρ2 H2 vz p2 k2 rz S2 => h ρ2 H2 _ (p1.trans p2) (k1.trans k2) ((L.mono (p1.trans p2) (k1.trans k2)).set rz i) S2) q⟩
  · exact q.elim
theorem ps_iff {c : Expr} {a b : List Stmt} {mc : SE} {ma mb : SS} {pos : Pos} (Mc : MonoSE mc) (Ma : MonoSS ma) (Mb : MonoSS mb) (hc : PT X c (tT B W mc)) (ha : PSs X a (tS B W ma)) (hb : PSs X b (tS B W mb)) :
    PS X (.If c a b pos) (tS B W fun σ s N => mc σ s (fun x s1 => br (tru s1 x) (ma σ s1 N) (mb σ s1 N)) (fun c fs s1 => N.ex c fs σ s1)) :=
  PS.imp (ps_if hc ha hb) fun N σV H ⟨ρ, σ, s, L, S, q⟩ => ⟨ρ, σ, s, L, S, Mc _ _ _ _ _ _ (fun x s1 q => by
    obtain ⟨c, e, q⟩ := br_cases q
    rw [e]
    intro ρ1 H1 p1 k1 S1
    cases c with
    | true =>
      rw [if_pos rfl] at q ⊢
      exact ⟨ρ1, σ, s1, L.mono p1 k1, S1, Ma _ _ _ _ (LiftN.le p1 k1) q⟩
    | false =>
      rw [if_neg Bool.false_ne_true] at q ⊢
      exact ⟨ρ1, σ, s1, L.mono p1 k1, S1, Mb _ _ _ _ (LiftN.le p1 k1) q⟩) (fun _ _ _ h => ex_of L h) q⟩
end
end PX

/-! PX: loops, comprehensions, calls of defs. -/
namespace PX
open PySem PySem.Spec PyProof.Rows L2
section
variable {X : Cx} {B : Tb} {W : WQ} (hK : B.K = X.K)
theorem ps_wh {c : Expr} {body : List Stmt} {mc : SE} {mb : SS} {pos : Pos} (hp : PassesOwn (model X.prog X.w) X.A X.env X.xe) (Mc : MonoSE mc) (Mb : MonoSS mb) (hc : PT X c (tT B W mc)) (hb : PSs X body (tS B W mb)) :
    PS X (.While c body [] pos) (tS B W fun σ s N => whlGo mc mb N σ s) :=
  PS.imp (ps_while hp hc hb) fun N σV H ⟨ρ, σ, s, L, S, Wp, ⟨m0, w0⟩, q⟩ => by
    refine ⟨fun m σV2 H2 => ∃ ρ2 σ2 s2, ρ <+: ρ2 ∧ Keep H H2 ∧ RelL B H2 ρ2 σ2 σV2 ∧ RelS B H2 ρ2 s2 ∧ Wp m σ2 s2, ⟨m0, ρ, σ, s, List.prefix_refl _, Keep.refl _, L, S, w0⟩, ?_⟩
    rintro m σV2 H2 ⟨ρ2, σ2, s2, p2, k2, L2, S2, w2⟩
    refine ⟨ρ2, σ2, s2, L2, S2, Mc _ _ _ _ _ _ (fun d s3 q => ?_) (fun _ _ _ h => LiftX.mono (List.prefix_refl _) (Keep.refl _) (ex_of L2 (LiftN.le p2 k2 |>.ex _ _ _ _ h))) (q m σ2 s2 w2)⟩
    obtain ⟨b, e, q⟩ := br_cases q
    rw [e]
    intro ρ3 H3 p3 k3 S3
    cases b with
    | true =>
      rw [if_pos rfl] at q ⊢
      refine ⟨fun σ' H' => ∃ m', m' < m ∧ ∃ ρ2 σ2 s2, ρ <+: ρ2 ∧ Keep H H2 ∧ Keep H H' ∧ RelL B H' ρ2 σ2 σ' ∧ RelS B H' ρ2 s2 ∧ Wp m' σ2 s2, fun σ' H' ⟨m', hm, ρ4, σ4, s4, p4, _, k4, L4, S4, w4⟩ => ⟨m', hm, ρ4, σ4, s4, p4, k4, L4, S4, w4⟩, ?_⟩
      have P := p2.trans p3
      have KK := k2.trans k3
      refine ⟨ρ3, σ2, s3, L2.mono p3 k3, S3, Mb _ _ _ _ ⟨?_, ?_, ?_, ?_, ?_⟩ q⟩
      · rintro σ4 s4 ⟨m', hm, w4⟩ ρ4 H4 σV4 p4 k4 L4 S4
        exact ⟨m', hm, ρ4, σ4, s4, P.trans p4, k2, KK.trans k4, L4, S4, w4⟩
      · exact fun d s h => Lift.mono P KK h
      · exact fun σ s h => (LiftN.le (W := W) (N := N) P KK).nx σ s h
      · rintro σ4 s4 ⟨m', hm, w4⟩ ρ4 H4 σV4 p4 k4 L4 S4
        exact ⟨m', hm, ρ4, σ4, s4, P.trans p4, k2, KK.trans k4, L4, S4, w4⟩
      · exact fun c fs σ s h => (LiftN.le (W := W) (N := N) P KK).ex c fs σ s h
    | false =>
      rw [if_neg Bool.false_ne_true] at q ⊢
      exact q ρ3 H3 σV2 (p2.trans p3) (k2.trans k3) (L2.mono p3 k3) S3
/-- a for's turns, by the walk's invariant -/
theorem for_of {J : It} {tg : TG} {o : Option Nat} {items : List D} {mb : SS} {N : Ends} {NN : En} {H1 : Hp} {ρ1 : List Addr} {σ1 : Sl} {s1 : Sto} {σV1 : L2.St} (Mb : MonoSS mb) (hN : En.le NN (LiftN B H1 ρ1 W N)) (V : Srv B J H1 ρ1 items o)
    (L1 : RelL B H1 ρ1 σ1 σV1) (S1 : RelS B H1 ρ1 s1) (q : forGo tg o items mb NN items σ1 s1) :
    ∃ W' : Nat → Nat → L2.St → Hp → Prop, (∃ m, W' 0 m σV1 H1) ∧ ∀ i m σ H, W' i m σ H → (J.stop i H ∧ N.nx σ H) ∨ (J.go i H ∧ ∃ Nx : L2.St → Hp → Prop, (∀ σ' H', Nx σ' H' → ∃ m', m' < m ∧ W' (i + 1) m' σ' H') ∧
      ∀ x H', J.yld i H x H' → gT B tg x σ H' fun σ2 H2 => tS B W mb { N with nx := Nx, ct := Nx, bk := N.nx } σ2 H2) := by
  refine ⟨fun i m σV2 H2 => m = items.length - i ∧ i ≤ items.length ∧ ∃ ρ2 σ2 s2, ρ1 <+: ρ2 ∧ Keep H1 H2 ∧ RelL B H2 ρ2 σ2 σV2 ∧ RelS B H2 ρ2 s2 ∧ forGo tg o items mb NN (items.drop i) σ2 s2,
    ⟨_, rfl, Nat.zero_le _, ρ1, σ1, s1, List.prefix_refl _, Keep.refl _, L1, S1, q⟩, ?_⟩
  rintro i m σV2 H2 ⟨rfl, hi, ρ2, σ2, s2, p2, k2, L2, S2, q⟩
  by_cases hlt : i < items.length
  · rw [List.drop_eq_getElem_cons hlt] at q
    obtain ⟨c, q⟩ := q
    refine .inr ⟨V.go i H2 ρ2 s2 p2 k2 S2 c hlt, fun σ' H' => ∃ ρ3 σ3 s3, ρ1 <+: ρ3 ∧ Keep H1 H' ∧ RelL B H' ρ3 σ3 σ' ∧ RelS B H' ρ3 s3 ∧ forGo tg o items mb NN (items.drop (i + 1)) σ3 s3,
      fun σ' H' h => ⟨items.length - (i + 1), by omega, rfl, hlt, h⟩, fun x H' y => ?_⟩
    obtain ⟨d, hd, S3, k3, r⟩ := V.yld i H2 ρ2 s2 x H' p2 k2 S2 c hlt y
    have e : items[i] = d := Option.some.inj ((List.getElem?_eq_getElem hlt).symm.trans hd)
    rw [e] at q
    refine ⟨ρ2, σ2, d, L2.mono (List.prefix_refl _) k3, r, xTg_mono tg (fun σ' h σV' L' => ⟨ρ2, σ', s2, L', S3, Mb _ _ _ _ ⟨?_, ?_, ?_, ?_, ?_⟩ h⟩) q⟩
    · exact fun σ4 s4 h ρ4 H4 σV4 p4 k4 L4 S4 => ⟨ρ4, σ4, s4, p2.trans p4, (k2.trans k3).trans k4, L4, S4, h⟩
    · exact fun d s h => Lift.mono p2 (k2.trans k3) (hN.rt d s h)
    · exact fun σ s h => (LiftN.le (W := W) (N := N) p2 (k2.trans k3)).nx σ s (hN.nx σ s h)
    · exact fun σ4 s4 h ρ4 H4 σV4 p4 k4 L4 S4 => ⟨ρ4, σ4, s4, p2.trans p4, (k2.trans k3).trans k4, L4, S4, h⟩
    · exact fun c fs σ s h => (LiftN.le (W := W) (N := N) p2 (k2.trans k3)).ex c fs σ s (hN.ex c fs σ s h)
  · have e : i = items.length := by omega
    subst e
    rw [List.drop_length] at q
    exact .inl ⟨V.stop H2 ρ2 s2 p2 k2 S2 q.1, hN.nx _ _ q.2 ρ2 H2 σV2 p2 k2 L2 S2⟩
theorem ps_fr {tg iter : Expr} {body : List Stmt} {t : TG} {ik : IK} {m : SA} {mb : SS} {pos : Pos} (hp : PassesOwn (model X.prog X.w) X.A X.env X.xe) (hc : X.calm = true) (M : MonoSA m) (Mb : MonoSS mb) (hi : PI X tg iter (tIt B W m ik)) (hg : PG X tg (gT B t)) (hb : PSs X body (tS B W mb))
    (hs : ∀ x, foldedSetIterable iter X.env x = pure x) :
    PS X (.For tg iter body [] pos) (tS B W fun σ s N => m σ s (fun vs s1 => xIt ik vs s1 fun items o => forGo t o items mb N items σ s1) (fun c fs s1 => N.ex c fs σ s1)) :=
  PS.imp (ps_for hp hc hi hg hb hs) fun N σV H ⟨ρ, σ, s, L, S, q⟩ => ⟨ρ, σ, s, L, S, M _ _ _ _ _ _ (fun vs s1 h => xIt_mono ik vs (fun items o q ρ1 H1 J p1 k1 S1 V =>
    for_of Mb (LiftN.le p1 k1) V (L.mono p1 k1) S1 q) h) (fun _ _ _ h => ex_of L h) q⟩
/-! ### comprehensions -/
def subT (vs : List Nat) : TG → Bool
  | .nm i => vs.contains i
  | .tp ts => subTs vs ts
where subTs (vs : List Nat) : List TG → Bool
  | [] => true
  | t :: ts => subT vs t && subTs vs ts
theorem wipe_set {σ : L2.St} {i : Nat} {x : Option V} : ∀ {vs : List Nat}, i ∈ vs → wipe (σ.set i x) vs = wipe σ vs
  | [], h => by simp at h
  | v :: vs, h => by
    unfold wipe
    by_cases hv : i ∈ vs
    · rw [wipe_set hv]
    · have e : i = v := (List.mem_cons.mp h).resolve_right hv
      subst e
      have hw : ∀ (vs : List Nat) (σ : L2.St), i ∉ vs → wipe (σ.set i x) vs = (wipe σ vs).set i x := by
        intro vs
        induction vs with
        | nil => intro σ _; rfl
        | cons w vs ih =>
          intro σ hn
          have h1 : i ≠ w := fun z => hn (by rw [z]; exact List.mem_cons_self)
          have h2 : i ∉ vs := fun z => hn (List.mem_cons_of_mem _ z)
          unfold wipe
          rw [ih σ h2, List.set_comm _ _ h1]
      rw [hw vs σ hv, List.set_set]
theorem wipe_idem {σ : L2.St} : ∀ vs : List Nat, wipe (wipe σ vs) vs = wipe σ vs := by
  intro vs
  apply List.ext_getElem?
  intro j
  have hout : ∀ (vs : List Nat) (σ : L2.St), j ∉ vs → (wipe σ vs)[j]? = σ[j]? := by
    intro vs
    induction vs with
    | nil => intro σ _; rfl
    | cons w vs ih =>
      intro σ hn
      have h1 : w ≠ j := fun z => hn (by rw [z]; exact List.mem_cons_self)
      unfold wipe
      rw [List.getElem?_set_ne h1, ih σ fun z => hn (List.mem_cons_of_mem _ z)]
  have hin : ∀ (vs : List Nat) (σ : L2.St), j ∈ vs → (wipe σ vs)[j]? = if j < σ.length then some none else none := by
    intro vs
    induction vs with
    | nil => intro σ h; simp at h
    | cons w vs ih =>
      intro σ h
      unfold wipe
      by_cases e : w = j
      · subst e
        rw [List.getElem?_set]
        simp [wipe_length]
      · rw [List.getElem?_set_ne e]
        exact ih σ ((List.mem_cons.mp h).resolve_left fun z => e z.symm)
  by_cases h : j ∈ vs
  · rw [hin vs _ h, hin vs _ h, wipe_length]
  · rw [hout vs _ h]
/-- a target in a comprehension: only the slots vs are stored -/
def gW (B : Tb) (vs : List Nat) (t : TG) : L2.TG := fun v σV H Q => ∃ (ρ : List Addr) (σ : Sl) (d : D), RelL B H ρ σ σV ∧ RelD B H ρ d v ∧ xTg t d σ fun σ' => ∀ σV', RelL B H ρ σ' σV' → wipe σV' vs = wipe σV vs → Q σV' H
def gWs (B : Tb) (vs : List Nat) (ts : List TG) : TGs := fun ws σV H Q => ∃ (ρ : List Addr) (σ : Sl) (ds : List D), RelL B H ρ σ σV ∧ RelDs B H ρ ds ws ∧ xTgs ts ds σ fun σ' => ∀ σV', RelL B H ρ σ' σV' → wipe σV' vs = wipe σV vs → Q σV' H
theorem pgw_nm {e : Expr} {i : Nat} {vs : List Nat} (hi : i ∈ vs) (h : PG X e (gName i)) : PG X e (gW B vs (.nm i)) := PG.imp h fun v σV H Q ⟨ρ, σ, d, L, r, q⟩ => q _ (L.set r i) (wipe_set hi)
theorem pgws_nl {vs : List Nat} : PGs X [] (gWs B vs []) := PGs.imp pgs_nil fun ws σV H Q ⟨ρ, σ, ds, L, r, q⟩ => by
  cases ds with
  | nil => exact ⟨r, q _ L rfl⟩
  | cons d ds => exact (show False from q).elim
theorem pgws_cn {e : Expr} {es : List Expr} {t : TG} {ts : List TG} {vs : List Nat} (h1 : PG X e (gW B vs t)) (h2 : PGs X es (gWs B vs ts)) (hs : (assignEach (e :: es) X.env).map (·.2) = assign e X.env :: (assignEach es X.env).map (·.2)) : PGs X (e :: es) (gWs B vs (t :: ts)) :=
  PGs.imp (pgs_cons h1 h2 hs) fun ws σV H Q ⟨ρ, σ, ds, L, r, q⟩ => by
    cases ds with
    | nil => exact (show False from q).elim
    | cons d ds =>
      obtain ⟨v, rr, rfl, r1, r2⟩ := r
      exact ⟨v, rr, rfl, ρ, σ, d, L, r1, xTg_mono t (fun σ' h σV' L' ew => ⟨ρ, σ', ds, L', r2, xTgs_mono ts (fun σ2 h σV2 L2 ew2 => h σV2 L2 (ew2.trans ew)) h⟩) q⟩
theorem lenTg : (∀ (t : TG) (d : D) (σ : Sl) (Q : Sl → Prop), xTg t d σ Q → ∃ σ', Q σ') := by
  intro t
  refine TG.rec (motive_1 := fun t => ∀ (d : D) (σ : Sl) (Q : Sl → Prop), xTg t d σ Q → ∃ σ', Q σ') (motive_2 := fun ts => ∀ (ds : List D) (σ : Sl) (Q : Sl → Prop), xTgs ts ds σ Q → ∃ σ', Q σ') ?_ ?_ ?_ ?_ t
  · intro i d σ Q q; exact ⟨_, q⟩
  · intro ts ih d σ Q q
    cases d <;> first | exact ih _ σ Q q | exact (show False from q).elim
  · intro ds σ Q q
    cases ds with
    | nil => exact ⟨_, q⟩
    | cons _ _ => exact (show False from q).elim
  · intro t ts ih1 ih2 ds σ Q q
    cases ds with
    | nil => exact (show False from q).elim
    | cons d ds =>
      obtain ⟨σ', h⟩ := ih1 d σ _ q
      exact ih2 ds σ' Q h
theorem lenTgs : ∀ (ts : List TG) (xs : List D) (σ : Sl) (Q : Sl → Prop), xTgs ts xs σ Q → ts.length = xs.length
  | [], [], _, _, _ => rfl
  | [], _ :: _, _, _, q => (show False from q).elim
  | _ :: _, [], _, _, q => (show False from q).elim
  | t :: ts, x :: xs, σ, Q, q => by
    obtain ⟨σ', h⟩ := lenTg t x σ _ q
    rw [List.length_cons, List.length_cons, lenTgs ts xs σ' Q h]
theorem pgw_tp {es : List Expr} {k : Nat} {ts : List TG} {vs : List Nat} {pos : Pos} (hc : X.calm = true) (hK : B.K = X.K) (h : PGs X es (gWs B vs ts)) (hl : ts.length = es.length) (hn : (assignEach es X.env).length = es.length) (hst : (assignEach es X.env).findIdx? (·.1) = none) :
    PG X (.Tuple es k pos) (gW B vs (.tp ts)) := PG.imp (pg_tup hc h hn hst) fun v σV H Q ⟨ρ, σ, d, L, r, q⟩ => by
  cases d <;> try exact (show False from q).elim
  rename_i xs
  have q : xTgs ts xs σ fun σ' => ∀ σV', RelL B H ρ σ' σV' → wipe σV' vs = wipe σV vs → Q σV' H := q
  obtain ⟨a, vs, rfl, sq, z, d⟩ := r
  exact ⟨a, vs, rfl, hK ▸ sq, by rw [← d.length, ← lenTgs _ _ _ _ q, hl], ρ, σ, xs, L, d, q⟩
/-- a clause's tests -/
def tTi (B : Tb) (m : Sl → Sto → (Bool → Sto → Prop) → Prop) : TT := fun σV H Q => ∃ (ρ : List Addr) (σ : Sl) (s : Sto), RelL B H ρ σ σV ∧ RelS B H ρ s ∧ m σ s (LiftB B H ρ Q)
theorem PTs.imp {es : List Expr} {t t' : TT} (h : PTs X es t) (i : ∀ σ H Q, t' σ H Q → t σ H Q) : PTs X es t' := ⟨fun pins s σ H Q I q => h.run pins s σ H Q I (i σ H Q q)⟩
abbrev W0 : WQ := fun _ _ _ _ _ _ => False
theorem pts_nl : PTs X [] (tTi B fun σ s K => K true s) := PTs.imp pts_nil fun σV H Q ⟨ρ, σ, s, L, S, q⟩ => q.here S
theorem pts_on {c : Expr} {m : SE} (M : MonoSE m) (h : PT X c (tT B W0 m)) : PTs X [c] (tTi B fun σ s K => m σ s (fun x s1 => br (tru s1 x) (K true s1) (K false s1)) (fun _ _ _ => False)) :=
  PTs.imp (pts_one h) fun σV H Q ⟨ρ, σ, s, L, S, q⟩ => ⟨ρ, σ, s, L, S, M _ _ _ _ _ _ (fun x s1 q => by
    obtain ⟨c, e, q⟩ := br_cases q
    rw [e]
    cases c with
    | true => rw [if_pos rfl] at q; exact q
    | false => rw [if_neg Bool.false_ne_true] at q; exact q) (fun _ _ _ h => h.elim) q⟩
theorem RelL.wipeB {H : Hp} {ρ : List Addr} {σ : Sl} {σV : L2.St} (L : RelL B H ρ σ σV) (vs : List Nat) : RelL B H ρ (wipeS σ vs) (L2.wipe σV vs) := L.wipe vs
theorem lc_of {J : It} {tg : TG} {o : Option Nat} {items : List D} {vs : List Nat} {mt : Sl → Sto → (Bool → Sto → Prop) → Prop} {me : SE} {K : Sto → Prop} {Q : VK} {H1 : Hp} {ρ1 : List Addr} {σ1 : Sl} {s1 : Sto} {σV1 : L2.St} {Dn : Addr}
    (Mt : ∀ σ s K K', (∀ b s, K b s → K' b s) → mt σ s K → mt σ s K') (Me : MonoSE me) (V : Srv B J H1 ρ1 items o) (L1 : RelL B H1 ρ1 σ1 σV1) (S1 : RelS B H1 ρ1 s1) (hD : H1 Dn = none)
    (hK : ∀ ρ2 H2 s2, ρ1 <+: ρ2 → Keep H1 H2 → RelS B H2 ρ2 s2 → ρ2[s1.length]? = some Dn → K s2 → Q (.ref Dn) H2)
    (q : lcGo tg o items s1.length mt (fun σ' s' K => me σ' s' K (fun _ _ _ => False)) vs σ1 items (s1 ++ [.lst []]) K) :
    ∃ W' : Nat → Nat → Hp → Prop, (∃ m, W' 0 m (upd H1 Dn (.lst []))) ∧ ∀ i m H, W' i m H → (J.stop i H ∧ Q (.ref Dn) H) ∨ (J.go i H ∧ ∃ Nx : Hp → Prop, (∀ H', Nx H' → ∃ m', m' < m ∧ W' (i + 1) m' H') ∧
      ∀ x H', J.yld i H x H' → gW B vs tg x (wipe σV1 vs) H' fun σ2 H2 => wipe σ2 vs = wipe σV1 vs ∧ tTi B mt σ2 H2 fun b H3 =>
        if b = true then tO B W0 me σ2 H3 fun y H4 => ∃ acc, H4 Dn = some (.lst acc) ∧ acc.length < sizeLine ∧ Nx (upd H4 Dn (.lst (acc ++ [y]))) else Nx H3) := by
  have kD : Keep H1 (upd H1 Dn (.lst [])) := .new hD
  have pD : ρ1 <+: ρ1 ++ [Dn] := List.prefix_append _ _
  have eD : (ρ1 ++ [Dn])[s1.length]? = some Dn := by
    rw [← S1.len, List.getElem?_append_right (Nat.le_refl _), Nat.sub_self]
    rfl
  have S0 : RelS B (upd H1 Dn (.lst [])) (ρ1 ++ [Dn]) (s1 ++ [Ob.lst []]) := S1.push hD (show RelO B _ _ _ (Ob.lst []) from ⟨[], upd_same, rfl⟩)
  refine ⟨fun i m H2 => m = items.length - i ∧ i ≤ items.length ∧ ∃ ρ2 s2, (ρ1 ++ [Dn]) <+: ρ2 ∧ Keep H1 H2 ∧ RelL B H2 ρ2 σ1 σV1 ∧ RelS B H2 ρ2 s2 ∧ lcGo tg o items s1.length mt (fun σ' s' K => me σ' s' K (fun _ _ _ => False)) vs σ1 (items.drop i) s2 K,
    ⟨_, rfl, Nat.zero_le _, ρ1 ++ [Dn], s1 ++ [Ob.lst []], List.prefix_refl _, kD, L1.mono pD kD, S0, q⟩, ?_⟩
  rintro i m H2 ⟨rfl, hi, ρ2, s2, p2, k2, L2, S2, q⟩
  have p1 := pD.trans p2
  have e2 : ρ2[s1.length]? = some Dn := pre_get p2 eD
  by_cases hlt : i < items.length
  · rw [List.drop_eq_getElem_cons hlt] at q
    obtain ⟨c, q⟩ := q
    refine .inr ⟨V.go i H2 ρ2 s2 p1 k2 S2 c hlt, fun H' => ∃ ρ3 s3, (ρ1 ++ [Dn]) <+: ρ3 ∧ Keep H1 H' ∧ RelL B H' ρ3 σ1 σV1 ∧ RelS B H' ρ3 s3 ∧ lcGo tg o items s1.length mt (fun σ' s' K => me σ' s' K (fun _ _ _ => False)) vs σ1 (items.drop (i + 1)) s3 K,
      fun H' h => ⟨items.length - (i + 1), by omega, rfl, hlt, h⟩, fun x H' y => ?_⟩
    obtain ⟨d, hd, S3, k3, r⟩ := V.yld i H2 ρ2 s2 x H' p1 k2 S2 c hlt y
    have e : items[i] = d := Option.some.inj ((List.getElem?_eq_getElem hlt).symm.trans hd)
    rw [e] at q
    have L3 := L2.mono (List.prefix_refl _) k3
    refine ⟨ρ2, wipeS σ1 vs, d, L3.wipe vs, r, xTg_mono tg (fun σ' h σV' L' ew => ⟨ew.trans (wipe_idem vs), ρ2, σ', s2, L', S3, Mt _ _ _ _ (fun b s4 h ρ4 H4 p4 k4 S4 => ?_) h⟩) q⟩
    have K4 := (k2.trans k3).trans k4
    cases b with
    | false =>
      dsimp only at h ⊢
      rw [if_neg Bool.false_ne_true] at h ⊢
      exact ⟨ρ4, s4, p2.trans p4, K4, L3.mono p4 k4, S4, h⟩
    | true =>
      dsimp only at h ⊢
      rw [if_pos rfl] at h ⊢
      refine ⟨ρ4, σ', s4, L'.mono p4 k4, S4, Me _ _ _ _ _ _ (fun y5 s5 h ρ5 H5 v5 p5 k5 r5 S5 => ?_) (fun _ _ _ h => h.elim) h⟩
      split at h
      · rename_i acc hs
        have e5 : ρ5[s1.length]? = some Dn := pre_get (p4.trans p5) e2
        obtain ⟨av, g, da⟩ := S5.lstOf e5 hs
        have k6 : Keep H5 (upd H5 Dn (.lst (av ++ [v5]))) := .lst g
        exact ⟨av, g, by rw [← da.length]; exact h.1, ρ5, _, (p2.trans p4).trans p5, (K4.trans k5).trans k6, ((L3.mono p4 k4).mono p5 k5).mono (List.prefix_refl _) k6, S5.setL e5 hs g (da.append (rel_one r5)), h.2⟩
      · exact h.elim
  · have e : i = items.length := by omega
    subst e
    rw [List.drop_length] at q
    exact .inl ⟨V.stop H2 ρ2 s2 p1 k2 S2 q.1, hK ρ2 H2 s2 p1 k2 S2 e2 q.2⟩
theorem lc_imp {tg : TG} {ik : IK} {m : SA} {vs : List Nat} {mt : Sl → Sto → (Bool → Sto → Prop) → Prop} {me : SE} (M : MonoSA m) (Mt : ∀ σ s K K', (∀ b s, K b s → K' b s) → mt σ s K → mt σ s K') (Me : MonoSE me) {σV : L2.St} {H : Hp} {Q : VK}
    (h : tO B W (fun σ s Q E => m σ s (fun ds s1 => xIt ik ds s1 fun items o => lcGo tg o items s1.length mt (fun σ' s' K => me σ' s' K (fun _ _ _ => False)) vs σ items (s1 ++ [.lst []]) fun s' => Q (.ref s1.length) s') E) σV H Q) :
    tLc (tIt B W m ik) (gW B vs tg) (tTi B mt) (tO B W0 me) vs σV H Q := by
  obtain ⟨ρ, σ, s, L, S, q⟩ := h
  refine ⟨ρ, σ, s, L, S, M _ _ _ _ _ _ (fun ds s1 h => xIt_mono ik ds (fun items o q ρ1 H1 J p1 k1 S1 V Dn hD => ?_) h) (fun _ _ _ h => h) q⟩
  exact lc_of Mt Me V (L.mono p1 k1) S1 hD (fun ρ2 H2 s2 p2 k2 S2 e2 h => h ρ2 H2 (.ref Dn) (p1.trans p2) (k1.trans k2) ⟨Dn, rfl, e2⟩ S2) q
end
end PX

/-! PX: the translation of a def's body, and its soundness. -/
namespace PX
open PySem PySem.Spec PyProof.Rows L2
/-- a global name: a def (its number, its arity), a constant -/
inductive GE where
  | fn (id ar : Nat) | cst (d : D) | blt
structure TE where
  N : List Str
  sc : List (Str × NameKind)
  st : List (Str × NameKind)
  gl : List (Str × GE)
def TE.slot (te : TE) (x : Str) : Option Nat :=
  match te.sc.lookup x with
  | some .local | some .cell | some .free => te.N.findIdx? (· == x)
  | _ => none
def TE.stor (te : TE) (x : Str) : Option Nat :=
  match te.st.lookup x with
  | some .local | some .cell => te.slot x
  | _ => none
def TE.glob (te : TE) (x : Str) : Option GE :=
  match te.sc.lookup x with
  | some .globalImplicit => te.gl.lookup x
  | _ => none
def strC (x : Str) : Bool := decide (x.cps.toList.length ≤ sizeLine) && x.cps.toList.all (· < 1114112)
def litOf : Const → Option D
  | .none => some .non
  | .bool b => some (.bl b)
  | .int i => some (.int i)
  | .str x => if strC x then some (.str x.cps.toList) else none
  | _ => none
def tok : Expr → Bool
  | .IfExp _ _ _ _ => false
  | _ => true
def isSlice : Expr → Bool
  | .Slice _ _ _ _ => true
  | _ => false
def isTup : Expr → Bool
  | .Tuple _ _ _ => true
  | _ => false
def opOk : Operator → Bool
  | .Add | .Sub | .Mult | .FloorDiv | .Mod | .Pow => true
  | _ => false
def bfOf (x : Str) (n : Nat) : Option BF :=
  if n = 1 then
    if x = "len" then some .len else if x = "int" then some .int else if x = "abs" then some .abs else if x = "str" then some .str
    else if x = "tuple" then some .tuple else if x = "list" then some .list else none
  else if n = 2 then (if x = "max" then some .max2 else if x = "min" then some .min2 else none)
  else none
def mfOf (x : Str) (n : Nat) : Option MF :=
  if n = 0 then (if x = "pop" then some .pop0 else if x = "reverse" then some .reverse else none)
  else if n = 1 then (if x = "append" then some .append else if x = "extend" then some .extend else if x = "join" then some .join else none)
  else none
def relab (scope : Scope) (te : TE) : List (Str × NameKind) := scope.names.map fun (n, k) => if (k == .free && te.sc.lookup n == some .cell) then (n, .cell) else (n, k)
/-- the own names of a comprehension's block, with their slots -/
def ownOf (scope : Scope) (te : TE) : List (Str × Nat) := scope.names.filterMap fun (n, k) => if k == .local || k == .cell then (te.N.findIdx? (· == n)).map fun i => (n, i) else none
mutual
def trG (te : TE) : Nat → Expr → Option TG
  | 0, _ => none
  | n + 1, .Name x _ => (te.stor x).map .nm
  | n + 1, .Tuple es _ _ => (trGs te n es).map .tp
  | _, _ => none
def trGs (te : TE) : Nat → List Expr → Option (List TG)
  | 0, _ => none
  | n + 1, [] => some []
  | n + 1, e :: es => match trG te n e, trGs te n es with
    | some t, some ts => some (t :: ts)
    | _, _ => none
end
/-- no call without arguments (it might be super()) -/
def noCall0 : Expr → Bool
  | .Call _ [] _ _ => false
  | _ => true
def isSet : Expr → Bool
  | .Set _ _ _ => true
  | _ => false
def tyNm (k : Nat) : String := if k = 0 then "int" else if k = 1 then "bool" else if k = 2 then "str" else if k = 3 then "tuple" else if k = 4 then "list" else "NoneType"
def tyCode (x : Str) : Option Nat := if x = "int" then some 0 else if x = "bool" then some 1 else if x = "str" then some 2 else if x = "tuple" then some 3 else if x = "list" then some 4 else none
/-- isinstance(e, T) -/
def isiArgs (te : TE) (x : Str) : List Expr → Option (Expr × Nat)
  | [e, .Name T _] => if x = ("isinstance" : Str) then match te.glob x, te.glob T, tyCode T with
    | some .blt, some .blt, some t => some (e, t)
    | _, _, _ => none
    else none
  | _ => none
def rangeArgs (te : TE) : Expr → Option (List Expr)
  | .Call (.Name x _) es [] _ => if x = ("range" : Str) then (match te.glob x with
    | some .blt => some es
    | _ => none) else none
  | _ => none
mutual
def trE : Nat → TE → Expr → Option EX
  | 0, _, _ => none
  | n + 1, te, .Constant c _ _ => (litOf c).map .lit
  | n + 1, te, .Name x _ => if x == ("__debug__" : Str) || x == ("__classdict__" : Str) then none else match te.slot x with
    | some i => some (.var i)
    | none => match te.glob x with
      | some (.cst d) => some (.lit d)
      | _ => none
  | n + 1, te, .BinOp a op b _ => if opOk op then match trE n te a, trE n te b with
    | some x, some y => some (.bin op x y)
    | _, _ => none
    else none
  | n + 1, te, .UnaryOp .USub a _ => (trE n te a).map .neg
  | n + 1, te, .UnaryOp .Not a _ => if tok a then (trE n te a).map .not else none
  | n + 1, te, .Compare a [op] [b] _ => if behindInMarks op b then none else match trE n te a, trE n te b with
    | some x, some y => some (.cmp op x y)
    | _, _ => none
  | n + 1, te, .Compare a [op, op'] [b, c] _ => if lastMarks [op, op'] [b, c] then none else match trE n te a, trE n te b, trE n te c with
    | some x, some y, some z => some (.chn op op' x y z)
    | _, _, _ => none
  | n + 1, te, .BoolOp op vs _ => trL n te op vs
  | n + 1, te, .IfExp c a b _ => if tok c then match trE n te c, trE n te a, trE n te b with
    | some x, some y, some z => some (.ite x y z)
    | _, _, _ => none
    else none
  | n + 1, te, .Tuple es _ _ => (trEs n te es).map .tup
  | n + 1, te, .List es _ => (trEs n te es).map .lst
  | n + 1, te, .Subscript a (.Slice lo hi none _) _ => match trE n te a, trO n te lo, trO n te hi with
    | some x, some y, some z => some (.sl x y z)
    | _, _, _ => none
  | n + 1, te, .Subscript a b _ => if isSlice b then none else match trE n te a, trE n te b with
    | some x, some y => some (.ix x y)
    | _, _ => none
  | n + 1, te, .Call (.Name x _) es [] _ => if x == ("__debug__" : Str) || x == ("__name__" : Str) then none else match isiArgs te x es with
    | some (e, t) => (trE n te e).map fun m => .blt (.isi t) [m]
    | none => match te.glob x with
      | some (.fn id ar) => if es.length = ar then (trEs n te es).map (.call id) else none
      | some .blt => match bfOf x es.length, trEs n te es with
        | some f, some xs => some (.blt f xs)
        | _, _ => none
      | _ => none
  | n + 1, te, .Call (.Attribute o m ap) es [] cp => if (ap.endLine == cp.line) = true ∧ es.length < 20 ∧ noCall0 o = true then match mfOf m es.length, trE n te o, trEs n te es with
    | some f, some x, some xs => some (.meth f x xs)
    | _, _, _ => none
    else none
  | n + 1, te, .ListComp elt [⟨tg, it, ifs, 0⟩] scope _ =>
    let own := ownOf scope te
    let te2 : TE := { te with sc := relab scope te, st := scope.names }
    if blkC te.N ⟨.function, te.sc, false, false, []⟩ scope own then match trI n te it, trG te2 n tg, trEs n te2 ifs, trE n te2 elt with
      | some (ik, its), some t, some cs, some e => if subT (own.map (·.2)) t && ifs.length ≤ 1 && ifs.all tok then some (.lc (own.map (·.2)) t ik its cs e) else none
      | _, _, _, _ => none
    else none
  | _, _, _ => none
def trEs : Nat → TE → List Expr → Option (List EX)
  | 0, _, _ => none
  | n + 1, te, [] => some []
  | n + 1, te, e :: es => match trE n te e, trEs n te es with
    | some x, some xs => some (x :: xs)
    | _, _ => none
def trL : Nat → TE → BoolOp → List Expr → Option EX
  | 0, _, _, _ => none
  | n + 1, te, op, [] => none
  | n + 1, te, op, [e] => if tok e then trE n te e else none
  | n + 1, te, op, e :: e2 :: es => if tok e then match trE n te e, trL n te op (e2 :: es) with
    | some x, some y => some (match op with | .And => .and x y | .Or => .or x y)
    | _, _ => none
    else none
def trO : Nat → TE → Option Expr → Option EX
  | 0, _, _ => none
  | n + 1, te, none => some (.lit (.kd 0))
  | n + 1, te, some e => trE n te e
def trI : Nat → TE → Expr → Option (IK × List EX)
  | 0, _, _ => none
  | n + 1, te, e => match rangeArgs te e with
    | some es => match trEs n te es with
      | some [a] => some (.rng1, [a])
      | some [a, b] => some (.rng2, [a, b])
      | _ => none
    | none => if isSet e then none else (trE n te e).map fun m => (.seq, [m])
end
/-- name = [.. for ..] on one line: the model's own road -/
def swB (te : TE) (scope : Scope) (pos : Pos) (x : Str) (py : Pos) : Bool :=
  te.sc.lookup x == some .local && py.line == pos.line && !(scope.names.any fun (n, k) => n == x && (k == .local || k == .cell))
def noComp : Expr → Bool
  | .ListComp _ _ _ _ | .SetComp _ _ _ _ | .DictComp _ _ _ _ _ => false
  | _ => true
mutual
def trS : Nat → TE → Stmt → Option ST
  | 0, _, _ => none
  | n + 1, te, .Expr e _ => if noComp e then (trE n te e).map .expr else none
  | n + 1, te, .Assign [.Name x py] e pos => match te.stor x, trE n te e with
    | some i, some m => some (.asg (.nm i) m)
    | _, _ => none
  | n + 1, te, .Assign [.Tuple ts k p] e _ => if isTup e then none else match trG te n (.Tuple ts k p), trE n te e with
    | some t, some m => some (.asg t m)
    | _, _ => none
  | n + 1, te, .Assign [.Subscript o i _] e _ => if isSlice i then none else match trE n te o, trE n te i, trE n te e with
    | some x, some y, some z => some (.aset x y z)
    | _, _, _ => none
  | n + 1, te, .AugAssign (.Name x _) op e _ => match op, te.stor x, trE n te e with
    | .Add, some i, some m => some (.aug i .Add m)
    | .Sub, some i, some m => some (.aug i .Sub m)
    | _, _, _ => none
  | n + 1, te, .If c a b _ => if tok c then match trE n te c, trSs n te a, trSs n te b with
    | some x, some y, some z => some (.ite x y z)
    | _, _, _ => none
    else none
  | n + 1, te, .While c b [] _ => if tok c then match trE n te c, trSs n te b with
    | some x, some y => some (.whl x y)
    | _, _ => none
    else none
  | n + 1, te, .For tg it b [] _ => match trG te n tg, trI n te it, trSs n te b with
    | some t, some (ik, its), some y => some (.for_ t ik its y)
    | _, _, _ => none
  | n + 1, te, .Return (some e) _ => (trE n te e).map .ret
  | n + 1, te, .Return none _ => some (.ret (.lit .non))
  | n + 1, te, .Break _ => some .brk
  | n + 1, te, .Continue _ => some .cnt
  | n + 1, te, .Pass _ => some .pass
  | _, _, _ => none
def trSs : Nat → TE → List Stmt → Option (List ST)
  | 0, _, _ => none
  | n + 1, te, [] => some []
  | n + 1, te, s :: r => match trS n te s, trSs n te r with
    | some x, some xs => some (x :: xs)
    | _, _ => none
end
end PX

/-! PX: the translation is sound. -/
namespace PX
open PySem PySem.Spec PyProof.Rows L2
abbrev RXT := Nat → List (Nat × D) → Value → Option Addr → Hp → List Addr → Prop
def exW (B : Tb) (RX : RXT) (W : WQ) (σ : L2.St) : XK := fun cls d H => ∃ (c : Nat) (fs : List (Nat × D)) (ρ : List Addr) (s : Sto), RX c fs cls d H ρ ∧ RelS B H ρ s ∧ W c fs σ H ρ s
structure Ok (B : Tb) (G : FS) (RX : RXT) (CXx : CXT) (k : Nat) (te : TE) (X : Cx) (W : WQ) : Prop where
  K : B.K = X.K
  un : X.A.units + 65 < cLine
  calm : X.calm = true
  N : X.N = te.N
  nd : te.N.Nodup
  kd : X.env.scope.kind = .function
  sc : X.env.scope.names = te.sc
  st : ∀ x i, te.stor x = some i → Loc X.env.scope x ∧ (X.fn x = true ∨ X.env.scope.names.lookup x = some .local)
  room : Room k X.A
  fns : ∀ x id ar, te.gl.lookup x = some (.fn id ar) → ∃ (fa : Addr) (fd : FuncData) (ps : List Str), X.mg x = some (.ref fa) ∧ PySem.W.keepIn X.K (.ref fa) = true ∧ Binds X.K fd ps [] ∧ ps.length = ar ∧ FnOk X.prog X.w X.K X.mg X.base CXx k fa fd ps (spD B RX G id)
  csts : ∀ x d, te.gl.lookup x = some (.cst d) → ∃ v u, X.mg x = some u ∧ RelV v u ∧ ∀ H ρ, RelD B H ρ d v
  blts : ∀ x, te.gl.lookup x = some .blt → X.mg x = none
  px : ∀ σ, PassesAt CXx X σ (exW B RX W σ)
  cx0 : ∀ outer H s e s', ¬ CXx outer H s (fun _ _ _ => False) e s'
  Gm : G.Mono
section
variable {B : Tb} {G : FS} {RX : RXT} {CXx : CXT} {k : Nat} {te : TE} {X : Cx} {W : WQ}
theorem find_slot {N : List Str} {x : Str} {i : Nat} (h : N.findIdx? (· == x) = some i) : N[i]? = some x := by
  rw [List.findIdx?_eq_some_iff_getElem] at h
  obtain ⟨hi, e, _⟩ := h
  rw [List.getElem?_eq_getElem hi]
  exact congrArg some (by simpa using e)
theorem Ok.slot (o : Ok B G RX CXx k te X W) {x : Str} {i : Nat} (h : te.slot x = some i) : X.N[i]? = some x ∧ Vis X.env.scope x := by
  unfold TE.slot at h
  unfold Vis
  rw [o.N, o.sc]
  split at h
  · rename_i e; exact ⟨find_slot h, .inl e⟩
  · rename_i e; exact ⟨find_slot h, .inr (.inl e)⟩
  · rename_i e; exact ⟨find_slot h, .inr (.inr e)⟩
  · cases h
theorem stor_slot {x : Str} {i : Nat} (h : te.stor x = some i) : te.slot x = some i := by
  unfold TE.stor at h
  split at h
  · exact h
  · exact h
  · cases h
theorem Ok.glob (o : Ok B G RX CXx k te X W) {x : Str} {g : GE} (h : te.glob x = some g) : Gl X x ∧ te.gl.lookup x = some g := by
  unfold TE.glob at h
  split at h
  · rename_i e
    refine ⟨?_, h⟩
    show X.env.scope.names.lookup x = _
    rw [o.sc]
    exact e
  · cases h
theorem MonoX (hG : G.Mono) (e : EX) : MonoSE (fun σ s Q E => xE G e σ s Q E) := fun σ s Q Q' E E' hQ hE h => xE_mono hG e hQ hE h
theorem MonoXs (hG : G.Mono) (es : List EX) : MonoSA (fun σ s Q E => xEs G es σ s Q E) := fun σ s Q Q' E E' hQ hE h => xEs_mono hG es hQ hE h
theorem MonoSt (hG : G.Mono) (e : ST) : MonoSS (fun σ s N => xS G e σ s N) := fun σ s N N' hN h => xS_mono hG e hN h
theorem MonoSts (hG : G.Mono) (e : List ST) : MonoSS (fun σ s N => xSs G e σ s N) := fun σ s N N' hN h => xSs_mono hG e hN h
/-- the reading of a term -/
abbrev rE (B : Tb) (G : FS) (W : WQ) (e : EX) : L2.TE := tO B W fun σ s Q E => xE G e σ s Q E
abbrev rT (B : Tb) (G : FS) (W : WQ) (e : EX) : TT := tT B W fun σ s Q E => xE G e σ s Q E
abbrev rA (B : Tb) (G : FS) (W : WQ) (es : List EX) : TA := tAr B W fun σ s Q E => xEs G es σ s Q E
/-- f(), where what is raised is wished for at the caller's slots -/
theorem pe_callSD0 {CX : CXT} {k : Nat} {f : Addr} {fd : FuncData} {ps : List Str} {sp : Sp} {dvs : List V} {ds : List Value} {E : L2.St → XK} {x : Str} {p pos : Pos} (F : FnOk X.prog X.w X.K X.mg X.base CX k f fd ps sp) (hr : Room k X.A) (hg : Gl X x) (hm : X.mg x = some (.ref f)) (hk : PySem.W.keepIn X.K (.ref f) = true) (hb : Binds X.K fd ps ds) (hd : Vals dvs ds) (hx : ∀ σ, PassesAt CX X σ (E σ))
    (hdb : (x == ("__debug__" : Str)) = false) : PE X (.Call (.Name x p) [] [] pos) (tCallSD sp dvs E tNil) := by
  refine ⟨fun pins s σ H Q I h => ?_⟩
  refine wpAny_Call_Name_kw (ld_glob I hg hm ?_ hdb)
  exact PySem.W.callWith_K0 I.kIn hk (run_fnSD (us := []) F hr hb hd (hx σ) I .nil h)
theorem star_ok {n : Nat} {e : Expr} {x : EX} (h : trE n te e = some x) (es : List Expr) (env : Env) : starEach (e :: es) env = (false, eval e env) :: starEach es env := by
  cases e <;> first | rfl | (cases n <;> simp [trE] at h)
theorem star_all : ∀ {es : List Expr} {xs : List EX} (n : Nat), trEs n te es = some xs → ∀ (pos : Pos) (env : Env), (backTo pos (starEach es env)).any (·.1) = false ∧ (backTo pos (starEach es env)).all (fun x => !x.1) = true ∧ xs.length = es.length
  | [], xs, 0, h, pos, env => by simp [trEs] at h
  | [], xs, n + 1, h, pos, env => by
    simp [trEs] at h
    subst h
    exact ⟨rfl, rfl, rfl⟩
  | e :: es, xs, 0, h, pos, env => by simp [trEs] at h
  | e :: es, xs, n + 1, h, pos, env => by
    simp only [trEs] at h
    split at h
    · rename_i y ys h1 h2
      cases h
      obtain ⟨g1, g2, g3⟩ := star_all n h2 pos env
      rw [star_ok h1]
      refine ⟨?_, ?_, by rw [List.length_cons, List.length_cons, g3]⟩
      · show (false || (backTo pos (starEach es env)).any (·.1)) = false
        rw [g1]
        rfl
      · show (!false && (backTo pos (starEach es env)).all (fun x => !x.1)) = true
        rw [g2]
        rfl
    · cases h
theorem trEs_len : ∀ (n : Nat) {es : List Expr} {xs : List EX}, trEs n te es = some xs → xs.length = es.length
  | 0, es, xs, h => by simp [trEs] at h
  | n + 1, [], xs, h => by
    simp [trEs] at h
    subst h
    rfl
  | n + 1, e :: es, xs, h => by
    simp only [trEs] at h
    split at h
    · rename_i y ys h1 h2
      cases h
      rw [List.length_cons, List.length_cons, trEs_len n h2]
    · cases h
theorem one_arg {n : Nat} {es : List Expr} {a : EX} (h : trEs n te es = some [a]) : ∃ e, es = [e] ∧ ∀ es env, starEach (e :: es) env = (false, eval e env) :: starEach es env := by
  cases n with
  | zero => simp [trEs] at h
  | succ n =>
    match es, h with
    | [], h => simp [trEs] at h
    | [e], h =>
      simp only [trEs] at h
      split at h
      · rename_i h1 h2; exact ⟨e, rfl, star_ok h1⟩
      · cases h
    | e :: e2 :: es, h =>
      simp only [trEs] at h
      split at h
      · rename_i y ys h1 h2
        cases h
        have := trEs_len n h2
        simp at this
      · cases h
theorem two_arg {n : Nat} {es : List Expr} {a b : EX} (h : trEs n te es = some [a, b]) : ∃ e e2, es = [e, e2] ∧ (∀ es env, starEach (e :: es) env = (false, eval e env) :: starEach es env) ∧ ∀ es env, starEach (e2 :: es) env = (false, eval e2 env) :: starEach es env := by
  cases n with
  | zero => simp [trEs] at h
  | succ n =>
    match es, h with
    | [], h => simp [trEs] at h
    | e :: es, h =>
      simp only [trEs] at h
      split at h
      · rename_i y ys h1 h2
        cases h
        obtain ⟨e2, rfl, s2⟩ := one_arg h2
        exact ⟨e, e2, rfl, star_ok h1, s2⟩
      · cases h
theorem truth_ok {e : Expr} (X : Cx) (h : tok e = true) (h1 : ∀ a p, e ≠ .UnaryOp .Not a p) (h2 : ∀ op vs p, e ≠ .BoolOp op vs p) (h3 : ∀ a ops cs p, e ≠ .Compare a ops cs p) : ∀ whole, isTrue e X.env whole = (do let v ← whole; standAt e.pos; holding [v] (truthy v)) := by
  intro whole
  cases e <;> first
    | rfl
    | exact absurd rfl (h2 _ _ _)
    | exact absurd rfl (h3 _ _ _ _)
    | (simp [tok] at h; done)
    | skip
  case UnaryOp op a p => cases op <;> first | rfl | exact absurd rfl (h1 _ _)
theorem ixPlain {b : Expr} (h : isSlice b = false) : PlainIx b := by
  intro o i
  cases b <;> first | rfl | simp [isSlice] at h
/-! ### a comprehension's block -/
theorem relab_keep {names : List (Str × NameKind)} {te : TE} {x : Str} {kk : NameKind} (hk : kk ≠ .free) (h : names.lookup x = some kk) :
    (names.map fun (n, k) => if (k == .free && te.sc.lookup n == some .cell) = true then (n, NameKind.cell) else (n, k)).lookup x = some kk := by
  induction names with
  | nil => simp at h
  | cons y r ih =>
    obtain ⟨n, k⟩ := y
    rw [List.lookup_cons] at h
    rw [List.map_cons, List.lookup_cons]
    have e1 : (if (k == NameKind.free && te.sc.lookup n == some NameKind.cell) = true then (n, NameKind.cell) else (n, k)).1 = n := by split <;> rfl
    rw [e1]
    cases hx : x == n with
    | true =>
      rw [hx] at h
      have e2 : k = kk := Option.some.inj h
      subst e2
      rw [if_neg (by
        intro z
        rw [Bool.and_eq_true] at z
        exact hk (by simpa using z.1))]
    | false =>
      rw [hx] at h
      exact ih h
theorem Ok.blk (o : Ok B G RX CXx k te X W) {scope : Scope} {own : List (Str × Nat)} (hb : blkC te.N ⟨.function, te.sc, false, false, []⟩ scope own = true) (s : Shared) (H : Hp) (C : Addr) (cl : List (Str × Addr)) (fp : List Addr) :
    Ok B G RX CXx k { te with sc := relab scope te, st := scope.names } (X.blk s H scope (compEnvC scope cl C X.env) fp) W0 := by
  have hk : scope.kind = .function := by
    have := (blkOk_by hb).kind
    exact this
  have hsc : (relabel scope X.env).names = relab scope te := by
    unfold relabel relab
    simp only
    congr 1
    funext ⟨n, kk⟩
    have e1 : (X.env.scope.kind == ScopeKind.function) = true := by rw [o.kd]; rfl
    have e2 : X.env.kindOf n = te.sc.lookup n := by
      show X.env.scope.names.lookup n = _
      rw [o.sc]
    rw [e1, e2, Bool.and_true]
  refine ⟨o.K, o.un, o.calm, o.N, o.nd, hk, hsc, fun x i h => ?_, o.room, o.fns, o.csts, o.blts, fun σ => ?_, o.cx0, o.Gm⟩
  · unfold TE.stor at h
    unfold L2.Loc
    show ((relabel scope X.env).names.lookup x = _ ∨ (relabel scope X.env).names.lookup x = _) ∧ ((scope.names.lookup x == some .cell) = true ∨ (relabel scope X.env).names.lookup x = _)
    rw [hsc]
    simp only at h
    split at h
    · rename_i e
      have := relab_keep (te := te) (kk := .local) (by decide) e
      exact ⟨.inl this, .inr this⟩
    · rename_i e
      have := relab_keep (te := te) (kk := .cell) (by decide) e
      exact ⟨.inr this, .inl (by rw [e]; rfl)⟩
    · cases h
  · have e : exW B RX W0 σ = fun _ _ _ => False := by
      funext cls d H
      exact propext ⟨fun ⟨_, _, _, _, _, _, w⟩ => w, fun h => h.elim⟩
    rw [e]
    exact fun pins H s e s' I c => (o.cx0 _ _ _ _ _ c).elim
/-! ### the induction -/
section
variable (B : Tb) (G : FS) (RX : RXT) (CXx : CXT) (k : Nat)
def PEs (n : Nat) : Prop := ∀ te X W e ir, Ok B G RX CXx k te X W → trE n te e = some ir → PE X e (rE B G W ir) ∧ (tok e = true → PT X e (rT B G W ir))
def PLs (n : Nat) : Prop := ∀ te X W op es ir pos, Ok B G RX CXx k te X W → trL n te op es = some ir → PE X (.BoolOp op es pos) (rE B G W ir) ∧ PW X (.BoolOp op es pos) (rT B G W ir)
def PAs (n : Nat) : Prop := ∀ te X W es irs, Ok B G RX CXx k te X W → trEs n te es = some irs → PA X es (rA B G W irs) ∧ (W = W0 → es.length ≤ 1 → es.all tok = true → PTs X es (tTi B fun σ s K => xIf G irs σ s K))
def POs (n : Nat) : Prop := ∀ te X W e ir, Ok B G RX CXx k te X W → trO n te e = some ir → PO X e (tPo B W fun σ s Q E => xE G ir σ s Q E)
def PIs (n : Nat) : Prop := ∀ te X W tg e ik its, Ok B G RX CXx k te X W → trI n te e = some (ik, its) → PI X tg e (tIt B W (fun σ s Q E => xEs G its σ s Q E) ik) ∧ ∀ x, foldedSetIterable e X.env x = pure x
end
variable {n : Nat}
theorem pas_succ (he : PEs B G RX CXx k n) (ha : PAs B G RX CXx k n) : PAs B G RX CXx k (n + 1) := by
  intro te X W es irs o h
  cases es with
  | nil =>
    simp only [trEs] at h
    cases h
    exact ⟨pa_nl, fun _ _ _ => pts_nl⟩
  | cons e es =>
    simp only [trEs] at h
    split at h
    · rename_i x xs h1 h2
      cases h
      refine ⟨pa_cn (MonoX o.Gm x) (MonoXs o.Gm xs) (he te X W e x o h1).1 (ha te X W es xs o h2).1 (star_ok h1 es X.env), fun hw hlen hall => ?_⟩
      subst hw
      have e0 : es = [] := List.eq_nil_of_length_eq_zero (by
        rw [List.length_cons] at hlen
        omega)
      subst e0
      have e1 : xs = [] := List.eq_nil_of_length_eq_zero (trEs_len n h2)
      subst e1
      have ht : tok e = true := by simpa using hall
      exact pts_on (MonoX o.Gm x) ((he te X W0 e x o h1).2 ht)
    · cases h
theorem pos_succ (he : PEs B G RX CXx k n) : POs B G RX CXx k (n + 1) := by
  intro te X W e ir o h
  cases e with
  | none =>
    simp only [trO] at h
    cases h
    exact po_no
  | some e =>
    simp only [trO] at h
    exact po_so (MonoX o.Gm ir) (he te X W e ir o h).1
theorem pls_succ (he : PEs B G RX CXx k n) (hl : PLs B G RX CXx k n) : PLs B G RX CXx k (n + 1) := by
  intro te X W op es ir pos o h
  match es, h with
  | [], h => simp [trL] at h
  | [e], h =>
    simp only [trL] at h
    split at h
    · rename_i ht
      obtain ⟨g1, g2⟩ := he te X W e ir o h
      refine ⟨pe_one g1, ?_⟩
      cases op with
      | And => exact pw_and1 (g2 ht)
      | Or => exact pw_or1 (g2 ht)
    · cases h
  | e :: e2 :: es, h =>
    simp only [trL] at h
    split at h
    · rename_i ht
      split at h
      · rename_i x y h1 h2
        cases h
        obtain ⟨g1, g2⟩ := he te X W e x o h1
        obtain ⟨g3, g4⟩ := hl te X W op (e2 :: es) y pos o h2
        cases op with
        | And => exact ⟨pe_an o.K (MonoX o.Gm x) (MonoX o.Gm y) g1 g3, pw_an o.K (MonoX o.Gm x) (MonoX o.Gm y) (g2 ht) g4⟩
        | Or => exact ⟨pe_orr o.K (MonoX o.Gm x) (MonoX o.Gm y) g1 g3, pw_orr o.K (MonoX o.Gm x) (MonoX o.Gm y) (g2 ht) g4⟩
      · cases h
    · cases h
theorem pis_succ (he : PEs B G RX CXx k n) (ha : PAs B G RX CXx k n) : PIs B G RX CXx k (n + 1) := by
  intro te X W tg e ik its o h
  simp only [trI] at h
  split at h
  · rename_i es hr
    unfold rangeArgs at hr
    split at hr
    · rename_i x p es' pos
      split at hr
      · rename_i hx
        subst hx
        split at hr
        · rename_i hg
          cases hr
          obtain ⟨g1, g2⟩ := o.glob hg
          have hm := o.blts _ g2
          split at h
          · rename_i a h1
            cases h
            obtain ⟨e1, rfl, s1⟩ := one_arg h1
            exact ⟨pi_r1 (MonoXs o.Gm [a]) (pi_range1 g1 hm (ha te X W _ _ o h1).1 (s1 [] X.env)), fun _ => rfl⟩
          · rename_i a b h1
            cases h
            obtain ⟨e1, e2, rfl, s1, s2⟩ := two_arg h1
            exact ⟨pi_r2 (MonoXs o.Gm [a, b]) (pi_range2 g1 hm (ha te X W _ _ o h1).1 ((s1 [e2] X.env).trans (by rw [s2 [] X.env]; rfl)) (s2 [] X.env)), fun _ => rfl⟩
          · cases h
        · cases hr
      · cases hr
    · cases hr
  · split at h
    · cases h
    · rename_i hs
      cases e1 : trE n te e with
      | none => rw [e1] at h; cases h
      | some m =>
        rw [e1] at h
        cases h
        refine ⟨pi_sq (MonoX o.Gm m) o.K (he te X W e m o e1).1, fun x => ?_⟩
        cases e <;> first | rfl | simp [isSet] at hs
/-- a built-in's call -/
theorem bf_call {f : BF} {x : Str} {p pos : Pos} {e : Expr} {es : List Expr} {xs : List EX} (o : Ok B G RX CXx k te X W) (hf : bfOf x (e :: es).length = some f) (hg : Gl X x) (hm : X.mg x = none) (ha : PA X (e :: es) (rA B G W xs))
    (s1 : starEach (e :: es) X.env = (false, eval e X.env) :: starEach es X.env) (s2 : (backTo pos (starEach es X.env)).any (·.1) = false) :
    PE X (.Call (.Name x p) (e :: es) [] pos) (tO B W fun σ s Q E => xEs G xs σ s (fun vs s1 => xBlt f vs s1 Q) E) := by
  have M := MonoXs o.Gm xs
  unfold bfOf at hf
  split at hf
  · split at hf
    · rename_i hx; subst hx; cases hf
      exact PE.imp (pe_callB (bf_len o.K) hg hm PySem.boot_len ha (by decide +kernel) (by decide +kernel) s1 s2) fun _ _ _ h => tcb_imp M h
    · split at hf
      · rename_i hx; subst hx; cases hf
        exact PE.imp (pe_callTy bf_int hg hm PyProof.Rows.boot_int ha (by decide +kernel) (by decide +kernel) s1 s2) fun _ _ _ h => tcb_imp M h
      · split at hf
        · rename_i hx; subst hx; cases hf
          exact PE.imp (pe_callB bf_abs hg hm PyProof.Rows.boot_abs ha (by decide +kernel) (by decide +kernel) s1 s2) fun _ _ _ h => tcb_imp M h
        · split at hf
          · rename_i hx; subst hx; cases hf
            exact PE.imp (pe_callTy bf_str hg hm PyProof.Rows.boot_str ha (by decide +kernel) (by decide +kernel) s1 s2) fun _ _ _ h => tcb_imp M h
          · split at hf
            · rename_i hx; subst hx; cases hf
              exact PE.imp (pe_callTy (bf_tuple o.K) hg hm PyProof.Rows.boot_tuple ha (by decide +kernel) (by decide +kernel) s1 s2) fun _ _ _ h => tcb_imp M h
            · split at hf
              · rename_i hx; subst hx; cases hf
                exact PE.imp (pe_callTy (bf_list o.K) hg hm PyProof.Rows.boot_list ha (by decide +kernel) (by decide +kernel) s1 s2) fun _ _ _ h => tcb_imp M h
              · cases hf
  · split at hf
    · split at hf
      · rename_i hx; subst hx; cases hf
        exact PE.imp (pe_callB (bf_max o.calm) hg hm PyProof.Rows.boot_max ha (by decide +kernel) (by decide +kernel) s1 s2) fun _ _ _ h => tcb_imp M h
      · split at hf
        · rename_i hx; subst hx; cases hf
          exact PE.imp (pe_callB (bf_min o.calm) hg hm PyProof.Rows.boot_min ha (by decide +kernel) (by decide +kernel) s1 s2) fun _ _ _ h => tcb_imp M h
        · cases hf
    · cases hf
theorem base_ok {o : Expr} {m : Str} (X : Cx) (h : noCall0 o = true) : attributeBase o m X.env (eval o X.env) = eval o X.env := by
  cases o <;> try rfl
  rename_i f args kws pos
  cases args with
  | nil => simp [noCall0] at h
  | cons a r => cases f <;> rfl
/-- a built-in method's call -/
theorem mf_call {f : MF} {m : Str} {ap cp : Pos} {o : Expr} {es : List Expr} {mo : EX} {xs : List EX} (ok : Ok B G RX CXx k te X W) (hf : mfOf m es.length = some f) (hl : (ap.endLine == cp.line) = true) (hn : es.length < 20) (h0 : noCall0 o = true)
    (ho : PE X o (rE B G W mo)) (ha : PA X es (rA B G W xs)) (h1 : trEs n te es = some xs) :
    PE X (.Call (.Attribute o m ap) es [] cp) (tO B W fun σ s Q E => xE G mo σ s (fun x s1 => mTy f x s1 ∧ xEs G xs σ s1 (fun vs s2 => xMeth f x vs s2 Q) E) E) := by
  have M := MonoXs ok.Gm xs
  have Mo := MonoX ok.Gm mo
  match es, h1 with
  | [], h1 =>
    have e0 : xs = [] := List.eq_nil_of_length_eq_zero (trEs_len n h1)
    subst e0
    simp only [List.length_nil, mfOf, if_true] at hf
    split at hf
    · rename_i hx; subst hx; cases hf
      exact PE.imp (pe_bm0 PySem.F.plainAttrs_list PySem.F.slot_list_pop PySem.F.type_list_pop mf_pop0 ho (base_ok X h0) hl) fun _ _ _ h => bm0_imp rfl Mo h
    · split at hf
      · rename_i hx; subst hx; cases hf
        exact PE.imp (pe_bm0 PySem.F.plainAttrs_list PySem.F.slot_list_reverse PySem.F.type_list_reverse mf_reverse ho (base_ok X h0) hl) fun _ _ _ h => bm0_imp rfl Mo h
      · cases hf
  | e :: es, h1 =>
    cases n with
    | zero => simp [trEs] at h1
    | succ n =>
      simp only [trEs] at h1
      split at h1
      · rename_i y ys g1 g2
        cases h1
        have s1 := star_ok g1 es X.env
        obtain ⟨s2, s3, _⟩ := star_all n g2 cp X.env
        have hfew : ((backTo cp (starEach (e :: es) X.env)).all (fun x => !x.1) && (backToKw cp (keywordEach [] X.env)).all (fun x => x.1.isSome)
            && decide ((e :: es).length + ([] : List Keyword).length + (if ([] : List Keyword).isEmpty then 0 else 1) < 30)) = true := by
          rw [s1]
          show ((!false && (backTo cp (starEach es X.env)).all (fun x => !x.1)) && true && decide ((e :: es).length + 0 + 0 < 30)) = true
          rw [s3, decide_eq_true (by omega)]
          rfl
        have hlen : ¬ (e :: es).length = 0 := by simp
        unfold mfOf at hf
        rw [if_neg hlen] at hf
        split at hf
        · split at hf
          · rename_i hx; subst hx; cases hf
            exact PE.imp (pe_bm PySem.F.plainAttrs_list PySem.F.slot_list_append PySem.F.type_list_append mf_append ho ha (base_ok X h0) hfew hl s1 s2) fun _ _ _ h => bm_imp rfl Mo M h
          · split at hf
            · rename_i hx; subst hx; cases hf
              exact PE.imp (pe_bm PySem.F.plainAttrs_list PySem.F.slot_list_extend PySem.F.type_list_extend mf_extend ho ha (base_ok X h0) hfew hl s1 s2) fun _ _ _ h => bm_imp rfl Mo M h
            · split at hf
              · rename_i hx; subst hx; cases hf
                exact PE.imp (pe_bm PySem.F.plainAttrs_str PySem.F.slot_str_join PySem.F.type_str_join (mf_join ok.K) ho ha (base_ok X h0) hfew hl s1 s2) fun _ _ _ h => bm_imp rfl Mo M h
              · cases hf
        · cases hf
      · cases h1
theorem ty_of {H : Hp} {ρ : List Addr} {s : Sto} {x : D} {v : V} {t : Nat} (hK : B.K = X.K) (r : RelD B H ρ x v) (S : RelS B H ρ s) (h : tyD s x = some t) : TyX X.K H v (.type (tyNm t)) := by
  cases x <;> simp only [tyD] at h
  case non => cases h; cases (show v = .non from r); exact .base .non
  case bl b => cases h; cases (show v = .bl b from r); exact .base (.bl b)
  case int i => cases h; cases int_of r; exact .base (.int i)
  case str a => cases h; obtain ⟨rfl, _⟩ := r; exact .base (.str _)
  case tup xs =>
    cases h
    obtain ⟨a, vs, rfl, q, _⟩ := r
    rcases q with (q | ⟨ob, q⟩) | ⟨ob, its, n, q, c, _⟩
    · exact .base (.tup q)
    · exact .fTuple q
    · exact .kTuple (hK ▸ q) c
  case fl xs =>
    cases h
    obtain ⟨a, vs, rfl, q, _⟩ := r
    rcases q with ⟨ob, q⟩ | ⟨ob, its, n, q, c, _⟩
    · exact .base (.frz q)
    · exact .kList (hK ▸ q) c
  case ref n =>
    obtain ⟨a, rfl, e⟩ := r
    split at h
    · rename_i xs hs
      cases h
      obtain ⟨vs, g, _⟩ := S.lstOf e hs
      exact .base (.lst g)
    · cases h
  all_goals cases h
theorem tyD_lt {s : Sto} {x : D} {t : Nat} (h : tyD s x = some t) : t < 6 := by
  cases x <;> simp only [tyD] at h
  case ref n =>
    split at h
    · cases h; decide
    · cases h
  all_goals first | (cases h; decide) | cases h
theorem kit_tab (K : PySem.W.Frag) : ∀ a : Fin 6, ∀ b : Fin 5, PySem.W.kitOne K (.type (tyNm a)) (.type (tyNm b)) = some (a.val == b.val || (a.val == 1 && b.val == 0)) := by
  intro a b
  exact kit_ty (by
    revert a b
    decide +kernel)
theorem isi_call {x : Str} {p pos : Pos} {es : List Expr} {e : Expr} {t : Nat} {m : EX} (o : Ok B G RX CXx k te X W) (h : isiArgs te x es = some (e, t)) (he : PE X e (rE B G W m)) (hs : ∀ es env, starEach (e :: es) env = (false, eval e env) :: starEach es env) :
    PE X (.Call (.Name x p) es [] pos) (rE B G W (.blt (.isi t) [m])) := by
  unfold isiArgs at h
  split at h
  · rename_i e' T pT
    split at h
    · rename_i hx
      subst hx
      split at h
      · rename_i t' h1 h2 h3
        cases h
        obtain ⟨g1, g2⟩ := o.glob h1
        obtain ⟨g3, g4⟩ := o.glob h2
        have hT : ∃ b : Fin 5, T = (tyNm b : Str) ∧ t = b.val ∧ bootBuiltins T = some (.type (tyNm b)) ∧ T ≠ "__name__" ∧ (T == ("__debug__" : Str)) = false := by
          unfold tyCode at h3
          split at h3
          · rename_i hx; subst hx; cases h3; exact ⟨0, rfl, rfl, by decide +kernel, by decide +kernel, by decide +kernel⟩
          · split at h3
            · rename_i hx; subst hx; cases h3; exact ⟨1, rfl, rfl, by decide +kernel, by decide +kernel, by decide +kernel⟩
            · split at h3
              · rename_i hx; subst hx; cases h3; exact ⟨2, rfl, rfl, by decide +kernel, by decide +kernel, by decide +kernel⟩
              · split at h3
                · rename_i hx; subst hx; cases h3; exact ⟨3, rfl, rfl, by decide +kernel, by decide +kernel, by decide +kernel⟩
                · split at h3
                  · rename_i hx; subst hx; cases h3; exact ⟨4, rfl, rfl, by decide +kernel, by decide +kernel, by decide +kernel⟩
                  · cases h3
        obtain ⟨b, -, rfl, hv, hn1, hn2⟩ := hT
        have A : PA X [e, .Name T pT] (tCons (rE B G W m) (tCons (tC (.ty (tyNm b))) tNil)) := pa_cons he (pa_cons (pe_bltn g3 (o.blts _ g4) hv rfl hn1 hn2) pa_nil rfl) (hs _ _)
        refine PE.imp (pe_callB call_isi g1 (o.blts _ g2) (by decide +kernel) A (by decide +kernel) (by decide +kernel) (hs _ _) rfl) fun σ H Q ⟨ρ, σ', s, L, S, q⟩ => ?_
        refine ⟨ρ, σ', s, L, S, MonoX o.Gm m _ _ _ _ _ _ (fun x s1 q ρ1 H1 v p1 k1 r S1 => ?_) (fun _ _ _ h => h) q⟩
        have q : xBlt (.isi b) [x] s1 (Lift B H ρ Q) := q
        simp only [xBlt, isiD] at q
        cases e1 : tyD s1 x with
        | none => rw [e1] at q; exact q.elim
        | some a =>
          rw [e1] at q
          exact ⟨v, .ty (tyNm b), .type (tyNm a), .type (tyNm b), _, rfl, .ty _, ty_of o.K r S1 e1, kit_tab X.K ⟨a, tyD_lt e1⟩ b, Lift.here (Lift.mono p1 k1 q) rfl S1⟩
      · cases h
    · cases h
  · cases h
/-- targets -/
theorem trG_shape {n : Nat} {e : Expr} {t : TG} (h : trG te n e = some t) (es : List Expr) (env : Env) : assignEach (e :: es) env = (false, assign e env) :: assignEach es env := by
  cases n with
  | zero => simp [trG] at h
  | succ n => cases e <;> first | rfl | simp [trG] at h
theorem nm_ok (o : Ok B G RX CXx k te X W) {x : Str} {p : Pos} {i : Nat} (h : te.stor x = some i) : PG X (.Name x p) (gName i) :=
  let ⟨h1, h2⟩ := o.st x i h
  pg_name (by rw [o.N]; exact o.nd) (o.slot (stor_slot h)).1 h1 h2
mutual
theorem gw_ok (vs : List Nat) : ∀ (n : Nat) {te : TE} {X : Cx} {W : WQ} {e : Expr} {t : TG}, Ok B G RX CXx k te X W → trG te n e = some t → subT vs t = true → PG X e (gW B vs t)
  | 0, te, X, W, e, t, o, h, s => by simp [trG] at h
  | n + 1, te, X, W, e, t, o, h, s => by
    cases e <;> try (simp [trG] at h; done)
    case Name x p =>
      simp only [trG] at h
      cases e1 : te.stor x with
      | none => rw [e1] at h; cases h
      | some i =>
        rw [e1] at h
        cases h
        exact pgw_nm (by simpa [subT] using s) (nm_ok o e1)
    case Tuple es kk p =>
      simp only [trG] at h
      cases e1 : trGs te n es with
      | none => rw [e1] at h; cases h
      | some ts =>
        rw [e1] at h
        cases h
        obtain ⟨g1, g2, g3, g4⟩ := gws_ok vs n o e1 (by simpa [subT] using s)
        exact pgw_tp o.calm o.K g1 g2 g3 g4
theorem gws_ok (vs : List Nat) : ∀ (n : Nat) {te : TE} {X : Cx} {W : WQ} {es : List Expr} {ts : List TG}, Ok B G RX CXx k te X W → trGs te n es = some ts → subT.subTs vs ts = true →
    PGs X es (gWs B vs ts) ∧ ts.length = es.length ∧ (assignEach es X.env).length = es.length ∧ (assignEach es X.env).findIdx? (·.1) = none
  | 0, te, X, W, es, ts, o, h, s => by simp [trGs] at h
  | n + 1, te, X, W, [], ts, o, h, s => by
    simp [trGs] at h
    subst h
    exact ⟨pgws_nl, rfl, rfl, rfl⟩
  | n + 1, te, X, W, e :: es, ts, o, h, s => by
    simp only [trGs] at h
    split at h
    · rename_i t ts' h1 h2
      cases h
      simp only [subT.subTs, Bool.and_eq_true] at s
      obtain ⟨g1, g2, g3, g4⟩ := gws_ok vs n o h2 s.2
      have sh := trG_shape h1 es X.env
      refine ⟨pgws_cn (gw_ok vs n o h1 s.1) g1 (by rw [sh]; rfl), by rw [List.length_cons, List.length_cons, g2], by rw [sh, List.length_cons, List.length_cons, g3], ?_⟩
      rw [sh, List.findIdx?_cons, g4]
      rfl
    · cases h
end
mutual
theorem gt_ok : ∀ (n : Nat) {te : TE} {X : Cx} {W : WQ} {e : Expr} {t : TG}, Ok B G RX CXx k te X W → trG te n e = some t → PG X e (gT B t)
  | 0, te, X, W, e, t, o, h => by simp [trG] at h
  | n + 1, te, X, W, e, t, o, h => by
    cases e <;> try (simp [trG] at h; done)
    case Name x p =>
      simp only [trG] at h
      cases e1 : te.stor x with
      | none => rw [e1] at h; cases h
      | some i =>
        rw [e1] at h
        cases h
        exact pg_nm (nm_ok o e1)
    case Tuple es kk p =>
      simp only [trG] at h
      cases e1 : trGs te n es with
      | none => rw [e1] at h; cases h
      | some ts =>
        rw [e1] at h
        cases h
        obtain ⟨g1, g2, g3, g4⟩ := gts_ok n o e1
        exact pg_tp o.calm o.K g1 g2 g3 g4
theorem gts_ok : ∀ (n : Nat) {te : TE} {X : Cx} {W : WQ} {es : List Expr} {ts : List TG}, Ok B G RX CXx k te X W → trGs te n es = some ts →
    PGs X es (gTs B ts) ∧ ts.length = es.length ∧ (assignEach es X.env).length = es.length ∧ (assignEach es X.env).findIdx? (·.1) = none
  | 0, te, X, W, es, ts, o, h => by simp [trGs] at h
  | n + 1, te, X, W, [], ts, o, h => by
    simp [trGs] at h
    subst h
    exact ⟨pgs_nl, rfl, rfl, rfl⟩
  | n + 1, te, X, W, e :: es, ts, o, h => by
    simp only [trGs] at h
    split at h
    · rename_i t ts' h1 h2
      cases h
      obtain ⟨g1, g2, g3, g4⟩ := gts_ok n o h2
      have sh := trG_shape h1 es X.env
      refine ⟨pgs_cn (gt_ok n o h1) g1 (by rw [sh]; rfl), by rw [List.length_cons, List.length_cons, g2], by rw [sh, List.length_cons, List.length_cons, g3], ?_⟩
      rw [sh, List.findIdx?_cons, g4]
      rfl
    · cases h
end
theorem lit_ok {c : Const} {d : D} {kk : Nat} {pos : Pos} (h : litOf c = some d) : PE X (.Constant c kk pos) (rE B G W (.lit d)) := by
  cases c <;> simp only [litOf] at h <;> try cases h
  case none => exact pe_lit pe_non fun _ _ => rfl
  case bool b => exact pe_lit pe_bl fun _ _ => rfl
  case int i => exact pe_lit pe_int fun _ _ => rfl
  case str x =>
    split at h
    · rename_i hc
      cases h
      unfold strC at hc
      rw [Bool.and_eq_true] at hc
      refine pe_lit pe_str fun _ _ => ⟨by rw [Array.toArray_toList], of_decide_eq_true hc.1, fun c hcm => ?_⟩
      exact of_decide_eq_true (List.all_eq_true.mp hc.2 c hcm)
    · cases h
theorem binop_ok (o : Ok B G RX CXx k te X W) {op : Operator} (h : opOk op = true) : OpR X (binaryOp op) (rO B (xBin op)) := by
  cases op <;> simp only [opOk] at h
  case Add => exact or_add o.K
  case Sub => exact or_sub
  case Mult => exact or_mul
  case FloorDiv => exact or_fdiv
  case Mod => exact or_mod
  case Pow => exact or_pow
  all_goals cases h
theorem mono_if (hG : G.Mono) (cs : List EX) : ∀ σ s K K', (∀ b s, K b s → K' b s) → xIf G cs σ s K → xIf G cs σ s K' := fun σ s K K' hK h => xIf_mono hG cs hK h
theorem pes_succ (he : PEs B G RX CXx k n) (hl : PLs B G RX CXx k n) (ha : PAs B G RX CXx k n) (ho : POs B G RX CXx k n) (hi : PIs B G RX CXx k n) : PEs B G RX CXx k (n + 1) := by
  intro te X W e ir o h
  -- a term whose test is its truth
  have plain : ∀ {e : Expr} {ir : EX}, (∀ a p, e ≠ .UnaryOp .Not a p) → (∀ op vs p, e ≠ .BoolOp op vs p) → (∀ a ops cs p, e ≠ .Compare a ops cs p) → PE X e (rE B G W ir) → PE X e (rE B G W ir) ∧ (tok e = true → PT X e (rT B G W ir)) :=
    fun {e ir} h1 h2 h3 p => ⟨p, fun ht => pt_tr o.K (MonoX o.Gm ir) p (truth_ok X ht h1 h2 h3)⟩
  cases e <;> try (simp [trE] at h; done)
  case Constant c kk pos =>
    simp only [trE] at h
    cases e1 : litOf c with
    | none => rw [e1] at h; cases h
    | some d =>
      rw [e1] at h
      cases h
      exact plain (by intro a p z; cases z) (by intro a b c z; cases z) (by intro a b c d z; cases z) (lit_ok e1)
  case Name x pos =>
    simp only [trE] at h
    split at h
    · cases h
    · rename_i hx
      rw [Bool.or_eq_true, not_or] at hx
      have x1 : (x == ("__debug__" : Str)) = false := by simpa using hx.1
      have x2 : (x == ("__classdict__" : Str)) = false := by simpa using hx.2
      refine plain (by intro a p z; cases z) (by intro a b c z; cases z) (by intro a b c d z; cases z) ?_
      split at h
      · rename_i i hs
        cases h
        obtain ⟨g1, g2⟩ := o.slot hs
        exact pe_vr (pe_var g1 g2 x1 x2)
      · split at h
        · rename_i d hg
          cases h
          obtain ⟨g1, g2⟩ := o.glob hg
          obtain ⟨v, u, g3, g4, g5⟩ := o.csts _ _ g2
          exact pe_lit (pe_glob g1 g3 g4 x1) g5
        · cases h
  case BinOp a op b pos =>
    simp only [trE] at h
    split at h
    · rename_i hop
      split at h
      · rename_i x y h1 h2
        cases h
        exact plain (by intro a p z; cases z) (by intro a b c z; cases z) (by intro a b c d z; cases z) (pe_bin (MonoX o.Gm x) (MonoX o.Gm y) (binop_ok o hop) (he te X W a x o h1).1 (he te X W b y o h2).1)
      · cases h
    · cases h
  case UnaryOp op a pos =>
    cases op <;> try (simp [trE] at h; done)
    case Not =>
      simp only [trE] at h
      split at h
      · rename_i ht
        cases e1 : trE n te a with
        | none => rw [e1] at h; cases h
        | some x =>
          rw [e1] at h
          cases h
          obtain ⟨g1, g2⟩ := he te X W a x o e1
          exact ⟨pe_nt o.K (MonoX o.Gm x) g1, fun _ => pt_nt o.K (MonoX o.Gm x) (g2 ht)⟩
      · cases h
    case USub =>
      simp only [trE] at h
      cases e1 : trE n te a with
      | none => rw [e1] at h; cases h
      | some x =>
        rw [e1] at h
        cases h
        exact plain (by intro a p z; cases z) (by intro a b c z; cases z) (by intro a b c d z; cases z) (pe_ng (MonoX o.Gm x) (he te X W a x o e1).1)
  case Compare a ops cs pos =>
    match ops, cs, h with
    | [op], [b], h =>
      simp only [trE] at h
      split at h
      · cases h
      · rename_i hm
        split at h
        · rename_i x y h1 h2
          cases h
          have hm' : behindInMarks op b = false := by simpa using hm
          exact ⟨pe_cm (MonoX o.Gm x) (MonoX o.Gm y) (or_cmp o.K o.un op) (he te X W a x o h1).1 (he te X W b y o h2).1 hm', fun _ => pt_cm (MonoX o.Gm x) (MonoX o.Gm y) (or_cmp o.K o.un op) (he te X W a x o h1).1 (he te X W b y o h2).1 hm'⟩
        · cases h
    | [op, op'], [b, c], h =>
      simp only [trE] at h
      split at h
      · cases h
      · rename_i hm
        split at h
        · rename_i x y z h1 h2 h3
          cases h
          have hm' : lastMarks [op, op'] [b, c] = false := by simpa using hm
          exact ⟨pe_chn (MonoX o.Gm x) (MonoX o.Gm y) (MonoX o.Gm z) (or_cmp o.K o.un op) (or_cmp o.K o.un op') (he te X W a x o h1).1 (he te X W b y o h2).1 (he te X W c z o h3).1 hm',
            fun _ => pt_chn (MonoX o.Gm x) (MonoX o.Gm y) (MonoX o.Gm z) (or_cmp o.K o.un op) (or_cmp o.K o.un op') (he te X W a x o h1).1 (he te X W b y o h2).1 (he te X W c z o h3).1 hm'⟩
        · cases h
    | [], _, h => simp [trE] at h
    | [_], [], h => simp [trE] at h
    | [_], _ :: _ :: _, h => simp [trE] at h
    | [_, _], [], h => simp [trE] at h
    | [_, _], [_], h => simp [trE] at h
    | [_, _], _ :: _ :: _ :: _, h => simp [trE] at h
    | _ :: _ :: _ :: _, _, h => simp [trE] at h
  case BoolOp op vs pos =>
    simp only [trE] at h
    obtain ⟨g1, g2⟩ := hl te X W op vs ir pos o h
    exact ⟨g1, fun _ => PW.pt g2⟩
  case IfExp c a b pos =>
    simp only [trE] at h
    split at h
    · rename_i ht
      split at h
      · rename_i x y z h1 h2 h3
        cases h
        exact ⟨pe_it o.K (MonoX o.Gm x) (MonoX o.Gm y) (MonoX o.Gm z) ((he te X W c x o h1).2 ht) (he te X W a y o h2).1 (he te X W b z o h3).1, fun z => by simp [tok] at z⟩
      · cases h
    · cases h
  case Tuple es kk pos =>
    simp only [trE] at h
    cases e1 : trEs n te es with
    | none => rw [e1] at h; cases h
    | some xs =>
      rw [e1] at h
      cases h
      exact plain (by intro a p z; cases z) (by intro a b c z; cases z) (by intro a b c d z; cases z) (pe_tp (MonoXs o.Gm xs) (ha te X W es xs o e1).1)
  case List es pos =>
    simp only [trE] at h
    cases e1 : trEs n te es with
    | none => rw [e1] at h; cases h
    | some xs =>
      rw [e1] at h
      cases h
      exact plain (by intro a p z; cases z) (by intro a b c z; cases z) (by intro a b c d z; cases z) (pe_ls (MonoXs o.Gm xs) (ha te X W es xs o e1).1)
  case Subscript a b pos =>
    refine plain (by intro a p z; cases z) (by intro a b c z; cases z) (by intro a b c d z; cases z) ?_
    by_cases hs : ∃ lo hi p2, b = .Slice lo hi none p2
    · obtain ⟨lo, hi, p2, rfl⟩ := hs
      simp only [trE] at h
      split at h
      · rename_i x y z h1 h2 h3
        cases h
        exact pe_sl (MonoX o.Gm x) (MonoX o.Gm y) (MonoX o.Gm z) o.K (he te X W a x o h1).1 (ho te X W lo y o h2) (ho te X W hi z o h3)
      · cases h
    · have hb : trE (n + 1) te (.Subscript a b pos) = if isSlice b then none else match trE n te a, trE n te b with
        | some x, some y => some (.ix x y)
        | _, _ => none := by
        cases b <;> try rfl
        rename_i lo hi st p2
        cases st with
        | none => exact absurd ⟨lo, hi, p2, rfl⟩ hs
        | some e => rfl
      rw [hb] at h
      split at h
      · cases h
      · rename_i hsl
        split at h
        · rename_i x y h1 h2
          cases h
          exact pe_ixx (MonoX o.Gm x) (MonoX o.Gm y) o.K (he te X W a x o h1).1 (he te X W b y o h2).1 (ixPlain (by simpa using hsl))
        · cases h
  case Call f es kws pos =>
    refine plain (by intro a p z; cases z) (by intro a b c z; cases z) (by intro a b c d z; cases z) ?_
    cases kws with
    | cons kw r => cases f <;> simp [trE] at h
    | nil =>
      cases f <;> try (simp [trE] at h; done)
      case Name x p =>
        simp only [trE] at h
        split at h
        · cases h
        · rename_i hx
          rw [Bool.or_eq_true, not_or] at hx
          have x1 : (x == ("__debug__" : Str)) = false := by simpa using hx.1
          split at h
          · rename_i e t hisi
            cases e1 : trE n te e with
            | none => rw [e1] at h; cases h
            | some m =>
              rw [e1] at h
              cases h
              exact isi_call o hisi (he te X W e m o e1).1 (star_ok e1)
          split at h
          · rename_i id ar hg
            split at h
            · rename_i har
              cases e1 : trEs n te es with
              | none => rw [e1] at h; cases h
              | some xs =>
                rw [e1] at h
                cases h
                obtain ⟨g1, g2⟩ := o.glob hg
                obtain ⟨fa, fd, ps, m1, m2, m3, m4, F⟩ := o.fns _ _ _ g2
                have px := o.px
                have A := (ha te X W es xs o e1).1
                have fin : ∀ σ H Q, rE B G W (.call id xs) σ H Q → tCallSD (spD B RX G id) [] (exW B RX W) (rA B G W xs) σ H Q := fun σ H Q ⟨ρ, σ', s, L, S, q⟩ =>
                  ⟨ρ, σ', s, L, S, MonoXs o.Gm xs _ _ _ _ _ _ (fun ds s1 q ρ1 H1 vs p1 k1 rs S1 => by
                    show spD B RX G id (vs ++ []) H1 Q (exW B RX W σ)
                    rw [List.append_nil]
                    exact ⟨ρ1, ds, s1, rs, S1, o.Gm _ _ _ _ _ _ _ (fun _ _ h => Lift.mono p1 k1 h) (fun c fs s2 h ρ2 H2 cls d p2 k2 S2 rx => ⟨c, fs, ρ2, s2, rx, S2, h ρ2 H2 (p1.trans p2) (k1.trans k2) S2⟩) q⟩) (fun _ _ _ h => h) q⟩
                match es, e1, A with
                | [], e1, A =>
                  have e0 : xs = [] := List.eq_nil_of_length_eq_zero (trEs_len n e1)
                  subst e0
                  exact PE.imp (pe_callSD0 F o.room g1 m1 m2 m3 .nil px x1) fun σ H Q h => by
                    obtain ⟨ρ, σ', s, L, S, q⟩ := fin σ H Q h
                    exact q ρ H [] (List.prefix_refl _) (Keep.refl _) rfl S
                | e :: es, e1, A =>
                  cases n with
                  | zero => simp [trEs] at e1
                  | succ n =>
                    simp only [trEs] at e1
                    split at e1
                    · rename_i y ys g3 g4
                      have s1 := star_ok g3 es X.env
                      obtain ⟨s2, _, _⟩ := star_all n g4 pos X.env
                      exact PE.imp (pe_callSD F o.room g1 m1 m2 m3 .nil px A x1 s1 s2) fin
                    · cases e1
            · cases h
          · rename_i hg
            split at h
            · rename_i f xs hf e1
              cases h
              obtain ⟨g1, g2⟩ := o.glob hg
              have A := (ha te X W es xs o e1).1
              match es, e1, A, hf with
              | [], e1, A, hf => simp [bfOf] at hf
              | e :: es, e1, A, hf =>
                cases n with
                | zero => simp [trEs] at e1
                | succ n =>
                  simp only [trEs] at e1
                  split at e1
                  · rename_i y ys g3 g4
                    have s1 := star_ok g3 es X.env
                    obtain ⟨s2, _, _⟩ := star_all n g4 pos X.env
                    exact bf_call o hf g1 (o.blts _ g2) A s1 s2
                  · cases e1
            · cases h
          · cases h
      case Attribute oo m ap =>
        simp only [trE] at h
        split at h
        · rename_i hc
          split at h
          · rename_i f x xs hf h1 h2
            cases h
            exact mf_call o hf hc.1 hc.2.1 hc.2.2 (he te X W oo x o h1).1 (ha te X W es xs o h2).1 h2
          · cases h
        · cases h
  case ListComp elt gs scope pos =>
    refine plain (by intro a p z; cases z) (by intro a b c z; cases z) (by intro a b c d z; cases z) ?_
    match gs, h with
    | [], h => simp [trE] at h
    | _ :: _ :: _, h => simp [trE] at h
    | [⟨tg, it, ifs, as⟩], h =>
      by_cases has : as = 0
      · subst has
        simp only [trE] at h
        split at h
        · rename_i hb
          split at h
          · rename_i ik its t cs e h1 h2 h3 h4
            split at h
            · rename_i hc
              cases h
              rw [Bool.and_eq_true, Bool.and_eq_true] at hc
              have hbk : blkC X.N X.env.scope scope (ownOf scope te) = true := by
                rw [o.N]
                unfold blkC at hb ⊢
                rw [o.sc]
                exact hb
              have O := fun s H C cl fp => o.blk hb s H C cl fp
              obtain ⟨i1, i2⟩ := hi te X W tg it ik its o h1
              refine PE.imp (pe_lc (tt := tTi B fun σ s K => xIf G cs σ s K) (te := tO B W0 fun σ s Q E => xE G e σ s Q E) (g := gW B ((ownOf scope te).map (·.2)) t) o.calm (by rw [o.N]; exact o.nd) i1 (blkOk_by hbk)
                (fun s H C cl fp => gw_ok _ n (O s H C cl fp) h2 hc.1.1) (fun s H C cl fp => ?_) (fun s H C cl fp => (he _ _ _ _ _ (O s H C cl fp) h4).1) i2) fun σ H Q h => lc_imp (MonoXs o.Gm its) (mono_if o.Gm cs) (MonoX o.Gm e) h
              exact (ha _ _ _ _ _ (O s H C cl fp) h3).2 rfl (by simpa using hc.1.2) hc.2
            · cases h
          · cases h
        · cases h
      · match as, has, h with
        | .ofNat 0, has, h => exact absurd rfl has
        | .ofNat (m + 1), _, h =>
          have e0 : trE (n + 1) te (.ListComp elt [⟨tg, it, ifs, Int.ofNat (m + 1)⟩] scope pos) = none := rfl
          rw [e0] at h
          cases h
        | .negSucc m, _, h => simp [trE] at h
theorem zero_all : PEs B G RX CXx k 0 ∧ PLs B G RX CXx k 0 ∧ PAs B G RX CXx k 0 ∧ POs B G RX CXx k 0 ∧ PIs B G RX CXx k 0 :=
  ⟨fun te X W e ir o h => by simp [trE] at h, fun te X W op es ir pos o h => by simp [trL] at h, fun te X W es irs o h => by simp [trEs] at h, fun te X W e ir o h => by simp [trO] at h, fun te X W tg e ik its o h => by simp [trI] at h⟩
theorem snd_all : ∀ n, PEs B G RX CXx k n ∧ PLs B G RX CXx k n ∧ PAs B G RX CXx k n ∧ POs B G RX CXx k n ∧ PIs B G RX CXx k n
  | 0 => zero_all
  | n + 1 => let ⟨he, hl, ha, ho, hi⟩ := snd_all n
    ⟨pes_succ he hl ha ho hi, pls_succ he hl, pas_succ he ha, pos_succ he, pis_succ he ha⟩
/-! ### statements -/
theorem no_sw {e : Expr} (h : noComp e = true) (t : Option Expr) (l : Nat) (env : Env) : swapsWith e t l env = pure false := by
  cases e <;> first | rfl | simp [noComp] at h
theorem sw_false {elt : Expr} {gs : List Comprehension} {scope : Scope} {pos py : Pos} {y : Str} {l : Nat} (o : Ok B G RX CXx k te X W) (h : swB te scope pos y py = false) : swapsWith (.ListComp elt gs scope pos) (some (.Name y py)) l X.env = pure false := by
  have hb : X.env.blockKind = .function := by unfold Env.blockKind; rw [o.kd]; rfl
  have hk : X.env.kindOf y = te.sc.lookup y := by
    show X.env.scope.names.lookup y = _
    rw [o.sc]
  unfold swB at h
  unfold swapsWith
  simp only [hb, hk, Expr.pos]
  rw [show ((ScopeKind.function == ScopeKind.function) : Bool) = true from rfl, Bool.true_and, h]
theorem sw_tr {elt : Expr} {gs : List Comprehension} {scope : Scope} {pos py : Pos} {y : Str} {l : Nat} (o : Ok B G RX CXx k te X W) (h : swB te scope pos y py = true) : swapsWith (.ListComp elt gs scope pos) (some (.Name y py)) l X.env = pure true := by
  have hb : X.env.blockKind = .function := by unfold Env.blockKind; rw [o.kd]; rfl
  have hk : X.env.kindOf y = te.sc.lookup y := by
    show X.env.scope.names.lookup y = _
    rw [o.sc]
  unfold swB at h
  unfold swapsWith
  simp only [hb, hk, Expr.pos]
  rw [show ((ScopeKind.function == ScopeKind.function) : Bool) = true from rfl, Bool.true_and, h]
/-- name = value -/
theorem set_ok' (o : Ok B G RX CXx k te X W) {x : Str} {py pos : Pos} {e : Expr} {i n : Nat} {m : EX} (hs : te.stor x = some i) (h : trE (n + 1) te e = some m) : PS X (.Assign [.Name x py] e pos) (tAsg (rE B G W m) (gName i)) := by
  obtain ⟨he, hl, ha, ho, hi⟩ := snd_all (B := B) (G := G) (RX := RX) (CXx := CXx) (k := k) (n + 1)
  obtain ⟨s1, s2⟩ := o.st x i hs
  have hN : X.N.Nodup := by rw [o.N]; exact o.nd
  have hx := (o.slot (stor_slot hs)).1
  have plain : swapsWith e (some (.Name x py)) pos.line X.env = pure false → PS X (.Assign [.Name x py] e pos) (tAsg (rE B G W m) (gName i)) := fun hw =>
    ps_set hN hx s1 (he te X W e m o h).1 hw s2
  by_cases hc : noComp e = true
  · exact plain (no_sw hc _ _ _)
  · cases e <;> try (simp [noComp] at hc; done)
    case ListComp elt gs scope lpos =>
      cases hsw : swB te scope lpos x py with
      | false => exact plain (sw_false o hsw)
      | true =>
        have hlo : X.env.scope.names.lookup x = some .local := by
          unfold swB at hsw
          rw [Bool.and_eq_true, Bool.and_eq_true] at hsw
          rw [o.sc]
          simpa using hsw.1.1
        match gs, h with
        | [], h => simp [trE] at h
        | _ :: _ :: _, h => simp [trE] at h
        | [⟨tg, it, ifs, as⟩], h =>
          by_cases has : as = 0
          · subst has
            simp only [trE] at h
            split at h
            · rename_i hb
              split at h
              · rename_i ik its t cs e h1 h2 h3 h4
                split at h
                · rename_i hc
                  cases h
                  rw [Bool.and_eq_true, Bool.and_eq_true] at hc
                  obtain ⟨he, hl, ha, ho, hi⟩ := snd_all (B := B) (G := G) (RX := RX) (CXx := CXx) (k := k) n
                  have hbk : blkC X.N X.env.scope scope (ownOf scope te) = true := by
                    rw [o.N]
                    unfold blkC at hb ⊢
                    rw [o.sc]
                    exact hb
                  have O := fun s H C cl fp => o.blk hb s H C cl fp
                  obtain ⟨i1, i2⟩ := hi te X W tg it ik its o h1
                  refine PS.imp (ps_setLc (tt := tTi B fun σ s K => xIf G cs σ s K) (te := tO B W0 fun σ s Q E => xE G e σ s Q E) (g := gW B ((ownOf scope te).map (·.2)) t) o.calm hN hx hlo (sw_tr o hsw) i1 (blkOk_by hbk)
                    (fun s H C cl fp => gw_ok _ n (O s H C cl fp) h2 hc.1.1) (fun s H C cl fp => (ha _ _ _ _ _ (O s H C cl fp) h3).2 rfl (by simpa using hc.1.2) hc.2) (fun s H C cl fp => (he _ _ _ _ _ (O s H C cl fp) h4).1) i2) fun D σ H h => ?_
                  exact lc_imp (W := W) (MonoXs o.Gm its) (mono_if o.Gm cs) (MonoX o.Gm e) h
                · cases h
              · cases h
            · cases h
          · match as, has, h with
            | .ofNat 0, has, h => exact absurd rfl has
            | .ofNat (m + 1), _, h =>
              have e0 : trE (n + 1) te (.ListComp elt [⟨tg, it, ifs, Int.ofNat (m + 1)⟩] scope lpos) = none := rfl
              rw [e0] at h
              cases h
            | .negSucc m, _, h => simp [trE] at h
    all_goals simp [trE] at h
/-- a body -/
structure OkS (B : Tb) (G : FS) (RX : RXT) (CXx : CXT) (k : Nat) (te : TE) (X : Cx) (W : WQ) : Prop extends Ok B G RX CXx k te X W where
  po : PassesOwn (model X.prog X.w) X.A X.env X.xe
abbrev rS' (B : Tb) (G : FS) (W : WQ) (e : ST) : TS := tS B W fun σ s N => xS G e σ s N
abbrev rSs (B : Tb) (G : FS) (W : WQ) (e : List ST) : TS := tS B W fun σ s N => xSs G e σ s N
def PSS (B : Tb) (G : FS) (RX : RXT) (CXx : CXT) (k n : Nat) : Prop := (∀ te X W st ir, OkS B G RX CXx k te X W → trS n te st = some ir → PS X st (rS' B G W ir)) ∧ (∀ te X W st ir, OkS B G RX CXx k te X W → trSs n te st = some ir → PSs X st (rSs B G W ir))
theorem sts_succ (ih : PSS B G RX CXx k n) : PSS B G RX CXx k (n + 1) := by
  obtain ⟨ih1, ih2⟩ := ih
  obtain ⟨he, hl, ha, ho, hi⟩ := snd_all (B := B) (G := G) (RX := RX) (CXx := CXx) (k := k) n
  refine ⟨fun te X W st ir o h => ?_, fun te X W st ir o h => ?_⟩
  · cases st <;> try (simp [trS] at h; done)
    case Return e pos =>
      cases e with
      | none =>
        simp only [trS] at h
        cases h
        exact ps_rtN
      | some e =>
        simp only [trS] at h
        cases e1 : trE n te e with
        | none => rw [e1] at h; cases h
        | some m =>
          rw [e1] at h
          cases h
          exact ps_rt (MonoX o.Gm m) (he te X W e m o.toOk e1).1
    case Assign ts e pos =>
      cases ts with
      | nil => simp [trS] at h
      | cons tg r =>
       cases r with
       | cons t2 r2 =>
        have e0 : trS (n + 1) te (.Assign (tg :: t2 :: r2) e pos) = none := by cases tg <;> rfl
        rw [e0] at h
        cases h
       | nil =>
        cases tg <;> try (simp [trS] at h; done)
        case Name x py =>
          simp only [trS] at h
          split at h
          · rename_i i m h1 h2
            cases h
            cases n with
            | zero => simp [trE] at h2
            | succ n => exact ps_nmset (MonoX o.Gm m) (set_ok' o.toOk h1 h2)
          · cases h
        case Tuple ts kk p =>
          simp only [trS] at h
          split at h
          · cases h
          · rename_i ht
            split at h
            · rename_i t m h1 h2
              cases h
              refine ps_as (MonoX o.Gm m) (he te X W e m o.toOk h2).1 (gt_ok n o.toOk h1) fun {g} hg => ps_asg (he te X W e m o.toOk h2).1 hg ?_ ?_ rfl
              · cases e <;> rfl
              · cases e <;> first | rfl | simp [isTup] at ht
            · cases h
        case Subscript oo i p =>
          simp only [trS] at h
          split at h
          · cases h
          · rename_i hsl
            split at h
            · rename_i x y z h1 h2 h3
              cases h
              have hA : ∀ v, assign (.Subscript oo i p) X.env v = (do
                  let ov ← holding [v] (eval oo X.env)
                  let iv ← holding [v, ov] (eval i X.env)
                  standAt p
                  holding [v, ov, iv] (setItem ov iv v)
                  release [v, ov, iv] []) := by
                intro v
                cases i <;> first | rfl | simp [isSlice] at hsl
              refine ps_aset (MonoX o.Gm x) (MonoX o.Gm y) (MonoX o.Gm z) (he te X W e z o.toOk h3).1 (ps_asg (he te X W e z o.toOk h3).1 (pg_sub (he te X W oo x o.toOk h1).1 (he te X W i y o.toOk h2).1 set_ok hA) ?_ ?_ rfl)
              · cases e <;> rfl
              · cases e <;> rfl
            · cases h
    case AugAssign t op e pos =>
      cases t <;> try (simp [trS] at h; done)
      case Name x p =>
        simp only [trS] at h
        split at h
        · rename_i i m h1 h2
          cases h
          obtain ⟨s1, s2⟩ := o.st x i h1
          exact ps_ag (MonoX o.Gm m) (ps_aug (by rw [o.N]; exact o.nd) (o.slot (stor_slot h1)).1 s1 (he te X W e m o.toOk h2).1 or_iadd s2)
        · rename_i i m h1 h2
          cases h
          obtain ⟨s1, s2⟩ := o.st x i h1
          exact ps_ag (MonoX o.Gm m) (ps_aug (by rw [o.N]; exact o.nd) (o.slot (stor_slot h1)).1 s1 (he te X W e m o.toOk h2).1 or_isub s2)
        · cases h
    case For tg it b oe pos =>
      cases oe with
      | cons _ _ => simp [trS] at h
      | nil =>
        simp only [trS] at h
        split at h
        · rename_i t ik its y h1 h2 h3
          cases h
          obtain ⟨i1, i2⟩ := hi te X W tg it ik its o.toOk h2
          exact ps_fr o.po o.calm (MonoXs o.Gm its) (MonoSts o.Gm y) i1 (gt_ok n o.toOk h1) (ih2 te X W b y o h3) i2
        · cases h
    case While c b oe pos =>
      cases oe with
      | cons _ _ => simp [trS] at h
      | nil =>
        simp only [trS] at h
        split at h
        · rename_i ht
          split at h
          · rename_i x y h1 h2
            cases h
            exact ps_wh o.po (MonoX o.Gm x) (MonoSts o.Gm y) ((he te X W c x o.toOk h1).2 ht) (ih2 te X W b y o h2)
          · cases h
        · cases h
    case If c a b pos =>
      simp only [trS] at h
      split at h
      · rename_i ht
        split at h
        · rename_i x y z h1 h2 h3
          cases h
          exact ps_iff (MonoX o.Gm x) (MonoSts o.Gm y) (MonoSts o.Gm z) ((he te X W c x o.toOk h1).2 ht) (ih2 te X W a y o h2) (ih2 te X W b z o h3)
        · cases h
      · cases h
    case Expr e pos =>
      simp only [trS] at h
      split at h
      · rename_i hc
        cases e1 : trE n te e with
        | none => rw [e1] at h; cases h
        | some m =>
          rw [e1] at h
          cases h
          exact ps_ex (MonoX o.Gm m) (he te X W e m o.toOk e1).1 (no_sw hc _ _ _)
      · cases h
    case Pass => simp only [trS] at h; cases h; exact ps_ps
    case Break => simp only [trS] at h; cases h; exact ps_br
    case Continue => simp only [trS] at h; cases h; exact ps_ct
  · cases st with
    | nil =>
      simp only [trSs] at h
      cases h
      exact pss_nl
    | cons st r =>
      simp only [trSs] at h
      split at h
      · rename_i x xs h1 h2
        cases h
        exact pss_cn (m1 := fun σ s N => xS G x σ s N) (m2 := fun σ s N => xSs G xs σ s N) (MonoSt o.Gm x) (MonoSts o.Gm xs) (ih1 te X W st x o h1) (ih2 te X W r xs o h2)
      · cases h
theorem sts_all : ∀ n, PSS B G RX CXx k n
  | 0 => ⟨fun te X W st ir o h => by simp [trS] at h, fun te X W st ir o h => by simp [trSs] at h⟩
  | n + 1 => sts_succ (sts_all n)
end
end PX

/-! PX: the defs of a text keep their plain meanings. -/
namespace PX
open PySem PySem.Spec PyProof.Rows L2
/-- one def: its name, its statement, its slots, its parameters, its plain body -/
structure DefT where
  name : Str
  st : Stmt
  N : List Str
  ps : List Str
  fn : Fn
def teOf (gl : List (Str × GE)) (d : DefT) : TE := ⟨d.N, (defScope d.st).names, (defScope d.st).names, gl⟩
/-- a def as it stands in the text -/
structure DefOk (gl : List (Str × GE)) (d : DefT) : Prop where
  sc : FnScope d.N d.ps (defScope d.st)
  tr : trSs 60 (teOf gl d) (defBody d.st) = some d.fn.body
  ar : d.fn.ar = d.ps.length
  sl : d.fn.sl = d.N.length
  bd : ∀ (kV doc pm : Value) (an : Option Addr) (cdv ct : Value) (us : List Value), us.length = d.ps.length → bindArgs (PySem.W.fnOf d.name d.name (defArgs d.st) (defBody d.st) (defScope d.st) .none kV doc pm an cdv ct) ⟨us, []⟩ = pure (d.ps.zip us)
/-- .. and behind the top -/
def FnFact (K : PySem.W.Frag) (d : DefT) : Prop := ∃ (f : Addr) (fd : FuncData), PySem.W.nsIn K mainGlobals d.name = some (some (.ref f)) ∧ Fun K d.name d.name d.st f fd
theorem fact_mk {K : PySem.W.Frag} {d : DefT} {f : Addr} {oc : Value} {od an : Option Addr} {osl : Array (Option Value)} {kV doc pm cdv ct : Value} (a : PySem.W.nsIn K mainGlobals d.name = some (some (.ref f)))
    (l : K.lookup f = some ⟨oc, od, .func (PySem.W.fnOf d.name d.name (defArgs d.st) (defBody d.st) (defScope d.st) .none kV doc pm an cdv ct), osl⟩)
    (c : PySem.W.codeIn K cdv d.name = true) (k : PySem.W.keepIn K (.ref f) = true) : FnFact K d := ⟨f, _, a, fun_mk l c k⟩
def RX0 : RXT := fun _ _ _ _ _ _ => False
/-- what a table and its globals must bear -/
structure TabOk (K : PySem.W.Frag) (B : Tb) (tbl : List DefT) (gl : List (Str × GE)) : Prop where
  hK : B.K = K
  defs : ∀ d ∈ tbl, DefOk gl d
  facts : ∀ d ∈ tbl, FnFact K d
  fns : ∀ x id ar, gl.lookup x = some (.fn id ar) → ∃ d, tbl[id]? = some d ∧ d.name = x ∧ d.ps.length = ar
  csts : ∀ x d, gl.lookup x = some (.cst d) → ∃ v u, PySem.W.nsIn K mainGlobals x = some (some u) ∧ RelV v u ∧ ∀ H ρ, RelD B H ρ d v
  blts : ∀ x, gl.lookup x = some .blt → PySem.W.nsIn K mainGlobals x = some none
def Tof (tbl : List DefT) : Nat → Option Fn := fun i => (tbl[i]?).map (·.fn)
theorem start_rel {B : Tb} {H : Hp} {ρ : List Addr} {N : List Str} {ds : List D} {vs : List V} (r : RelDs B H ρ ds vs) (hl : ds.length ≤ N.length) : RelL B H ρ (ds.map some ++ List.replicate (N.length - ds.length) none) (L2.start N vs) := by
  have l := r.length
  refine ⟨?_, fun i d e => ?_⟩
  · unfold L2.start
    simp only [List.length_append, List.length_map, List.length_replicate, l]
  · by_cases hi : i < ds.length
    · rw [List.getElem?_append_left (by simpa using hi), List.getElem?_map] at e
      cases e2 : ds[i]? with
      | none => rw [e2] at e; cases e
      | some x =>
        rw [e2] at e
        cases e
        obtain ⟨v, h1, h2⟩ := r.get e2
        refine ⟨v, ?_, h2⟩
        unfold L2.start
        rw [List.getElem?_append_left (by rw [List.length_map, ← l]; exact hi), List.getElem?_map, h1]
        rfl
    · rw [List.getElem?_append_right (by simpa using hi), List.getElem?_replicate] at e
      split at e <;> cases e
theorem fns_ok {P : Program} {w : World} {K : PySem.W.Frag} {mg : Str → Option Value} {B : Tb} {tbl : List DefT} {gl : List (Str × GE)} {h : Heap} (T : TabOk K B tbl gl) (KX : K.In h) (hmg : h.Ns mainGlobals mg) :
    ∀ (k id : Nat) (d : DefT), tbl[id]? = some d → ∃ (f : Addr) (fd : FuncData), mg d.name = some (.ref f) ∧ PySem.W.keepIn K (.ref f) = true ∧ Binds K fd d.ps [] ∧ (∀ (s : Shared) (us : List Value), us.length = d.ps.length → BindsTo s fd ⟨us, []⟩ (d.ps.zip us)) ∧ ∀ base : Heap, FnOk P w K mg base CX0 k f fd d.ps (spD B RX0 (Lv (Tof tbl) k) id)
  | 0, id, d, hd => by
    have hm : d ∈ tbl := List.mem_of_getElem? hd
    obtain ⟨f, fd, a, F⟩ := T.facts d hm
    have O := T.defs d hm
    refine ⟨f, fd, PySem.W.mg_of KX hmg a, F.kp, F.binds O.bd, fun s us hl => ?_, fun base => ⟨fun vs H Q E ⟨_, _, _, _, _, z⟩ => z.elim, fun A outer s H args us vs Q E _ _ _ _ ⟨_, _, _, _, _, z⟩ => z.elim⟩⟩
    obtain ⟨oc, od, kV, doc, pm, an, cdv, ct, osl, rfl, lk, hcd⟩ := F.ex
    exact .of_eq (O.bd kV doc pm an cdv ct us hl)
  | k + 1, id, d, hd => by
    have hm : d ∈ tbl := List.mem_of_getElem? hd
    obtain ⟨f, fd, a, F⟩ := T.facts d hm
    have O := T.defs d hm
    have hT : Tof tbl id = some d.fn := by unfold Tof; rw [hd]; rfl
    refine ⟨f, fd, PySem.W.mg_of KX hmg a, F.kp, F.binds O.bd, fun s us hl => ?_, fun base => F.ok O.sc (fun vs H Q E hh => ?_) fun cdv A outer s H vs Q E hr hh => ?_⟩
    · obtain ⟨oc, od, kV, doc, pm, an, cdv, ct, osl, rfl, lk, hcd⟩ := F.ex
      exact .of_eq (O.bd kV doc pm an cdv ct us hl)
    · obtain ⟨ρ, ds, s, r, S, q⟩ := hh
      simp only [Lv, hT] at q
      rw [← r.length, q.1, O.ar]
    · obtain ⟨ρ, ds, st, r, S, q⟩ := hh
      simp only [Lv, hT] at q
      have hN : d.ps.length ≤ d.N.length := by
        have := congrArg List.length O.sc.pre
        rw [List.length_take] at this
        omega
      have hW : WQ := fun c fs _ H' ρ' s' => ∀ cls dd, RX0 c fs cls dd H' ρ' → E cls dd H'
      refine ⟨rSs B (Lv (Tof tbl) k) (fun c fs _ H' ρ' s' => ∀ cls dd, RX0 c fs cls dd H' ρ' → E cls dd H') d.fn.body, ?_, ?_⟩
      · refine (sts_all (B := B) (G := Lv (Tof tbl) k) (RX := RX0) (CXx := CX0) (k := k) 60).2 (teOf gl d) _ _ _ _ ?_ O.tr
        refine ⟨⟨T.hK, ?_, rfl, rfl, O.sc.nd, O.sc.kind, rfl, fun x i hx => ?_, hr, fun x id2 ar hx => ?_, fun x dd hx => ?_, fun x hx => PySem.W.mg_none_of KX hmg (T.blts x hx), fun σ pins H s e s' I c => c.elim, fun _ _ _ _ _ c => c, Lv_mono _ k⟩, PassesOwn.never⟩
        · have := hr.un
          show (A.deeper (envOfC d.name (defScope d.st) s.heap.objs.size f cdv)).units + 65 < cLine
          omega
        · refine ⟨?_, .inl rfl⟩
          unfold TE.stor at hx
          show (defScope d.st).names.lookup x = _ ∨ (defScope d.st).names.lookup x = _
          simp only [teOf] at hx
          split at hx
          · rename_i e; exact .inl e
          · rename_i e; exact .inr e
          · cases hx
        · obtain ⟨d2, h1, h2, h3⟩ := T.fns x id2 ar hx
          obtain ⟨f2, fd2, g1, g2, g3, _, g4⟩ := fns_ok T KX hmg k id2 d2 h1
          exact ⟨f2, fd2, d2.ps, h2 ▸ g1, g2, g3, h3, g4 base⟩
        · obtain ⟨v, u, h1, h2, h3⟩ := T.csts x dd hx
          exact ⟨v, u, PySem.W.mg_of KX hmg h1, h2, h3⟩
      · refine ⟨ρ, _, st, ?_, S, xSs_mono (Lv_mono _ k) d.fn.body (N' := LiftN B H ρ _ _) ⟨?_, ?_, ?_, ?_, ?_⟩ q.2⟩
        · rw [O.sl, O.ar]
          have e : d.ps.length = ds.length := by rw [q.1, O.ar]
          rw [e]
          exact start_rel r (by rw [q.1, O.ar]; exact hN)
        · exact fun σ s' h ρ' H' σV p kk L S' => h ρ' H' .non p kk rfl S'
        · exact fun dd s' h => h
        · exact fun σ s' h => h.elim
        · exact fun σ s' h => h.elim
        · exact fun c fs σ s' h ρ' H' σV p kk L S' cls dd rx => h ρ' H' cls dd p kk S' rx
/-- the law's promise -/
def spLaw (K : PySem.W.Frag) : Sp := fun vs H Q _ => ∃ (a : Addr) (ns : List Int), vs = [.ref a] ∧ SqL K H a (ns.map V.int) ∧ (∀ o, H a = some o → ∃ ob xs, o = .frz ob xs) ∧ ns.length ≤ 63 ∧ ∀ H', Q (.bl true) H'
theorem law_ok {P : Program} {w : World} {K : PySem.W.Frag} {mg : Str → Option Value} {B : Tb} {tbl : List DefT} {gl : List (Str × GE)} {h : Heap} (T : TabOk K B tbl gl) (KX : K.In h) (hmg : h.Ns mainGlobals mg) {k id : Nat} {d : DefT} {fa : Addr}
    (hd : tbl[id]? = some d) (hps : d.ps = ([("script" : Str)] : List Str)) (hfa : mg d.name = some (.ref fa)) (law : ∀ ns : List Int, ns.length ≤ 63 → Lv (Tof tbl) k id [.fl (ns.map .int)] [] (fun v _ => v = .bl true) (fun _ _ _ => False)) :
    ∃ fd : FuncData, (∀ (s : Shared) (v : Value), BindsTo s fd ⟨[v], []⟩ [("script", v)]) ∧ ∀ base : Heap, FnOk P w K mg base CX0 k fa fd ["script"] (spLaw K) := by
  obtain ⟨f, fd, g1, g2, g3, g4, F⟩ := fns_ok (P := P) (w := w) T KX hmg k id d hd
  rw [hfa] at g1
  cases g1
  rw [hps] at g4 F
  refine ⟨fd, fun s v => g4 s [v] rfl, fun base => (F base).imp fun vs H Q E ⟨a, ns, e, hS, hf, hl, q⟩ => ?_⟩
  subst e
  refine ⟨[], [.fl (ns.map .int)], [], ⟨.ref a, [], rfl, ⟨a, ns.map V.int, rfl, ?_, RelDs.ints⟩, rfl⟩, ⟨rfl, List.nodup_nil, fun n a o e => by simp at e⟩, Lv_mono _ k _ _ _ _ _ _ _ (fun v s hv ρ' H' v' p kk r S => ?_) (fun _ _ _ h => h.elim) (law ns hl)⟩
  · rcases hS with (hS | hS) | hS
    · obtain ⟨ob, xs, z⟩ := hf _ hS
      cases z
    · exact .inl hS
    · exact .inr (by rw [T.hK]; exact hS)
  · subst hv
    cases (show v' = .bl true from r)
    exact q H'
theorem walk_ok {l : PySem.W.OpenLaw} {q : Program} {loose : List Str} {XP : (Str → Option Value) → Heap → Prop} {YP : World → Heap → Prop} {d : DefRec} {K : Params → PySem.W.Frag} {k : Nat} (hn : l.most = some 63) (hdf : d.params.defaults = []) (hr : Room k callerA)
    (hY : ∀ (w : World) (h : Heap), YP w h → (K w.params).In h)
    (F : ∀ (w : World) (mg : Str → Option Value) (fa : Addr) (h : Heap), (K w.params).In h → h.Ns mainGlobals mg → mg d.name = some (.ref fa) →
      ∃ fd : FuncData, (∀ (s : Shared) (u : Value), BindsTo s fd ⟨[u], []⟩ [("script", u)]) ∧ ∀ base : Heap, (K w.params).In base → base.Ns mainGlobals mg → FnOk l.prog w (K w.params) mg base CX0 k fa fd ["script"] (spLaw (K w.params))) :
    PySem.W.WalkO q loose XP YP l.row.toRowW d [] (fun f vs => PySem.call f vs) :=
  L2.walk_of (n := 63) (k := k) (x := "script") (CX := fun _ => CX0) (sp := fun w => spLaw (K w.params)) hn (by decide) hdf hr hY F (fun _ H a ns hl ho hS => ⟨a, ns, rfl, hS, fun o e => by
    rcases ho a with z | ⟨ob, xs, z⟩
    · rw [z] at e; cases e
    · rw [z] at e; cases e; exact ⟨_, _, rfl⟩, hl, fun _ => rfl⟩) fun _ _ _ _ _ z => z
/-! the table's facts, as the top has written them -/
def FactsL (K : PySem.W.Frag) : List DefT → Prop
  | [] => True
  | d :: r => FnFact K d ∧ FactsL K r
theorem FactsL.all {K : PySem.W.Frag} : ∀ {tbl : List DefT}, FactsL K tbl → ∀ d ∈ tbl, FnFact K d
  | [], _, _, h => by cases h
  | d :: r, ⟨a, b⟩, x, h => by
    rcases List.mem_cons.mp h with rfl | h
    · exact a
    · exact FactsL.all b x h
def DefsL (gl : List (Str × GE)) : List DefT → Prop
  | [] => True
  | d :: r => DefOk gl d ∧ DefsL gl r
theorem DefsL.all {gl : List (Str × GE)} : ∀ {tbl : List DefT}, DefsL gl tbl → ∀ d ∈ tbl, DefOk gl d
  | [], _, _, h => by cases h
  | d :: r, ⟨a, b⟩, x, h => by
    rcases List.mem_cons.mp h with rfl | h
    · exact a
    · exact DefsL.all b x h
def glChk (tbl : List DefT) : List (Str × GE) → Bool
  | [] => true
  | (x, .fn id ar) :: r => (match tbl[id]? with
    | some d => d.name == x && d.ps.length == ar
    | none => false) && glChk tbl r
  | _ :: r => glChk tbl r
theorem lookup_mem {α : Type} : ∀ {gl : List (Str × α)} {x : Str} {g : α}, gl.lookup x = some g → (x, g) ∈ gl
  | [], _, _, h => by cases h
  | (y, g') :: r, x, g, h => by
    rw [List.lookup_cons] at h
    split at h
    · rename_i e
      cases h
      rw [beq_iff_eq] at e
      subst e
      exact List.mem_cons_self
    · exact List.mem_cons_of_mem _ (lookup_mem h)
theorem glChk.all {tbl : List DefT} : ∀ {gl : List (Str × GE)}, glChk tbl gl = true → ∀ x id ar, (x, GE.fn id ar) ∈ gl → ∃ d, tbl[id]? = some d ∧ d.name = x ∧ d.ps.length = ar
  | [], _, _, _, _, h => by cases h
  | (y, g) :: r, c, x, id, ar, h => by
    rcases List.mem_cons.mp h with e | h
    · cases e
      simp only [glChk, Bool.and_eq_true] at c
      have c := c.1
      split at c
      · rename_i d hd
        rw [Bool.and_eq_true, beq_iff_eq, beq_iff_eq] at c
        exact ⟨d, hd, c.1, c.2⟩
      · cases c
    · refine glChk.all ?_ x id ar h
      cases g <;> first | exact c | (simp only [glChk, Bool.and_eq_true] at c; exact c.2)
/-- the names of the table that are not defs -/
def NamesL (K : PySem.W.Frag) (B : Tb) : List (Str × GE) → Prop
  | [] => True
  | (x, .cst d) :: r => (∃ v u, PySem.W.nsIn K mainGlobals x = some (some u) ∧ RelV v u ∧ ∀ H ρ, RelD B H ρ d v) ∧ NamesL K B r
  | (x, .blt) :: r => PySem.W.nsIn K mainGlobals x = some none ∧ NamesL K B r
  | _ :: r => NamesL K B r
theorem NamesL.cst {K : PySem.W.Frag} {B : Tb} : ∀ {gl : List (Str × GE)}, NamesL K B gl → ∀ x d, (x, GE.cst d) ∈ gl → ∃ v u, PySem.W.nsIn K mainGlobals x = some (some u) ∧ RelV v u ∧ ∀ H ρ, RelD B H ρ d v
  | [], _, _, _, h => by cases h
  | (y, g) :: r, c, x, d, h => by
    rcases List.mem_cons.mp h with e | h
    · cases e
      exact c.1
    · refine NamesL.cst (B := B) ?_ x d h
      cases g <;> first | exact c | exact c.2
theorem NamesL.blt {K : PySem.W.Frag} {B : Tb} : ∀ {gl : List (Str × GE)}, NamesL K B gl → ∀ x, (x, GE.blt) ∈ gl → PySem.W.nsIn K mainGlobals x = some none
  | [], _, _, h => by cases h
  | (y, g) :: r, c, x, h => by
    rcases List.mem_cons.mp h with e | h
    · cases e
      exact c.1
    · refine NamesL.blt (B := B) ?_ x h
      cases g <;> first | exact c | exact c.2
theorem tab_mk {K : PySem.W.Frag} {B : Tb} {tbl : List DefT} {gl : List (Str × GE)} (hK : B.K = K) (D : DefsL gl tbl) (F : FactsL K tbl) (c : glChk tbl gl = true) (N : NamesL K B gl) : TabOk K B tbl gl :=
  ⟨hK, D.all, F.all, fun x id ar h => glChk.all c x id ar (lookup_mem h), fun x d h => N.cst x d (lookup_mem h), fun x h => N.blt x (lookup_mem h)⟩
/-! constants -/
theorem co_int {K : PySem.W.Frag} {B : Tb} {x : Str} {i : Int} {t : Tok} (h : PySem.W.nsIn K mainGlobals x = some (some (.int i t))) : ∃ v u, PySem.W.nsIn K mainGlobals x = some (some u) ∧ RelV v u ∧ ∀ H ρ, RelD B H ρ (.int i) v :=
  ⟨.int i, _, h, ⟨t, rfl⟩, fun _ _ => rfl⟩
def strChk (x : List Nat) : Bool := decide (x.length ≤ 100000) && x.all (fun c => decide (c < 1114112))
theorem strChk_ok {x : List Nat} (h : strChk x = true) : StrOk x := by
  rw [strChk, Bool.and_eq_true, decide_eq_true_eq, List.all_eq_true] at h
  exact ⟨Nat.le_trans h.1 (by decide), fun c hc => of_decide_eq_true (h.2 c hc)⟩
theorem co_str {K : PySem.W.Frag} {B : Tb} {x : Str} {a : List Nat} {s : Str} {t : Tok} (h : PySem.W.nsIn K mainGlobals x = some (some (.str s t))) (e : s = ⟨a.toArray⟩) (c : strChk a = true) : ∃ v u, PySem.W.nsIn K mainGlobals x = some (some u) ∧ RelV v u ∧ ∀ H ρ, RelD B H ρ (.str a) v :=
  ⟨.str s, _, h, ⟨t, rfl⟩, fun _ _ => ⟨by rw [e], strChk_ok c⟩⟩
/-- a tuple's items, as they stand in the module -/
def v1 : D → Value → Bool
  | .str a, .str s _ => s == ⟨a.toArray⟩ && strChk a
  | .int i, .int j _ => i == j
  | .non, .none => true
  | .bl a, .bool b => a == b
  | _, _ => false
theorem v1_ok {B : Tb} {d : D} {u : Value} (h : v1 d u = true) : ∃ v, RelV v u ∧ ∀ H ρ, RelD B H ρ d v := by
  unfold v1 at h
  split at h
  · rename_i a s t
    rw [Bool.and_eq_true, beq_iff_eq] at h
    exact ⟨.str s, ⟨t, rfl⟩, fun _ _ => ⟨by rw [h.1], strChk_ok h.2⟩⟩
  · rename_i i j t
    rw [beq_iff_eq] at h
    exact ⟨.int j, ⟨t, rfl⟩, fun _ _ => by rw [h]; rfl⟩
  · exact ⟨.non, rfl, fun _ _ => rfl⟩
  · rename_i a b
    rw [beq_iff_eq] at h
    exact ⟨.bl b, rfl, fun _ _ => by rw [h]; rfl⟩
  · cases h
def itsChk : List D → List Value → Bool
  | [], [] => true
  | d :: r, u :: q => v1 d u && itsChk r q
  | _, _ => false
theorem itsChk_ok {B : Tb} : ∀ (ds : List D) (us : List Value), itsChk ds us = true → ∃ vs, Vals vs us ∧ ∀ H ρ, RelDs B H ρ ds vs
  | [], [], _ => ⟨[], .nil, fun _ _ => rfl⟩
  | [], _ :: _, h => by simp [itsChk] at h
  | _ :: _, [], h => by simp [itsChk] at h
  | d :: r, u :: q, h => by
    rw [itsChk, Bool.and_eq_true] at h
    obtain ⟨v, r1, r2⟩ := v1_ok (B := B) h.1
    obtain ⟨vs, h1, h2⟩ := itsChk_ok (B := B) r q h.2
    exact ⟨v :: vs, .cons r1 h1, fun H ρ => ⟨_, _, rfl, r2 H ρ, h2 H ρ⟩⟩
theorem co_tup {K : PySem.W.Frag} {B : Tb} (hK : B.K = K) {x : Str} {ds : List D} {a : Addr} {od : Option Addr} {its : Array Value} {n : Nat} {sl : Array (Option Value)} (h : PySem.W.nsIn K mainGlobals x = some (some (.ref a)))
    (l : K.lookup a = some ⟨.type "tuple", od, .seq its n, sl⟩) (c : itsChk ds its.toList = true) (z : (decide (its.size ≤ 100000) && decide (ds.length ≤ 100000)) = true) : ∃ v u, PySem.W.nsIn K mainGlobals x = some (some u) ∧ RelV v u ∧ ∀ H ρ, RelD B H ρ (.tup ds) v := by
  obtain ⟨vs, h1, h2⟩ := itsChk_ok (B := B) _ _ c
  rw [Bool.and_eq_true, decide_eq_true_eq, decide_eq_true_eq] at z
  exact ⟨.ref a, _, h, rfl, fun H ρ => ⟨a, vs, rfl, .inr ⟨_, its, n, by rw [hK]; exact l, rfl, rfl, Nat.le_trans z.1 (by decide), h1⟩, Nat.le_trans z.2 (by decide), h2 H ρ⟩⟩
end PX

/-! PX: the steps of a run, as rows that dsimp takes. -/
namespace PX
open PySem
theorem r_add {i j : Int}{s : Sto} {Q : QE} : xBin .Add (.int i) (.int j) s Q = Q (.int (i + j)) s := rfl
theorem r_sub {i j : Int}{s : Sto} {Q : QE} : xBin .Sub (.int i) (.int j) s Q = Q (.int (i - j)) s := rfl
theorem r_mul {i j : Int}{s : Sto} {Q : QE} : xBin .Mult (.int i) (.int j) s Q = (mulOk i j ∧ Q (.int (i * j)) s) := rfl
theorem r_div {i j : Int}{s : Sto} {Q : QE} : xBin .FloorDiv (.int i) (.int j) s Q = (divOk j ∧ Q (.int (i / j)) s) := rfl
theorem r_mod {i j : Int}{s : Sto} {Q : QE} : xBin .Mod (.int i) (.int j) s Q = (0 < j ∧ Q (.int (i % j)) s) := rfl
theorem r_pow {i j : Int}{s : Sto} {Q : QE} : xBin .Pow (.int i) (.int j) s Q = (powOk i j ∧ Q (.int (i ^ j.toNat)) s) := rfl
theorem r_adds {a b : List Nat}{s : Sto} {Q : QE} : xBin .Add (.str a) (.str b) s Q = (a.length + b.length ≤ sizeLine ∧ Q (.str (a ++ b)) s) := rfl
theorem r_muls {a : List Nat} {j : Int}{s : Sto} {Q : QE} : xBin .Mult (.str a) (.int j) s Q = ((0 ≤ j ∧ j ≤ 16777216 ∧ a.length * j.toNat ≤ 16777216) ∧ Q (.str (List.replicate j.toNat a).flatten) s) := rfl
theorem r_addt {a b : List D}{s : Sto} {Q : QE} : xBin .Add (.tup a) (.tup b) s Q = (a.length + b.length ≤ sizeLine ∧ Q (.tup (a ++ b)) s) := rfl
theorem r_ipa {i j : Int}{s : Sto} {Q : QE} : xIp .Add (.int i) (.int j) s Q = Q (.int (i + j)) s := rfl
theorem r_ips {i j : Int}{s : Sto} {Q : QE} : xIp .Sub (.int i) (.int j) s Q = Q (.int (i - j)) s := rfl
theorem r_ipt {a b : List Nat}{s : Sto} {Q : QE} : xIp .Add (.str a) (.str b) s Q = (a.length + b.length ≤ sizeLine ∧ Q (.str (a ++ b)) s) := rfl
theorem r_len1 {a : List Nat}{s : Sto} {Q : QE} : xBlt .len [.str a] s Q = Q (.int a.length) s := rfl
theorem r_len2 {a : List D}{s : Sto} {Q : QE} : xBlt .len [.tup a] s Q = Q (.int a.length) s := rfl
theorem r_len3 {a : List D}{s : Sto} {Q : QE} : xBlt .len [.fl a] s Q = Q (.int a.length) s := rfl
theorem r_int1 {i : Int}{s : Sto} {Q : QE} : xBlt .int [.int i] s Q = Q (.int i) s := rfl
theorem r_int2 {b : Bool}{s : Sto} {Q : QE} : xBlt .int [.bl b] s Q = Q (.int (if b then 1 else 0)) s := rfl
theorem r_abs {i : Int}{s : Sto} {Q : QE} : xBlt .abs [.int i] s Q = Q (.int (if i < 0 then -i else i)) s := rfl
theorem r_str {i : Int}{s : Sto} {Q : QE} : xBlt .str [.int i] s Q = ((0 ≤ i ∧ i < 10 ^ 10) ∧ Q (.str (strI i)) s) := rfl
theorem r_tup1 {a : List D}{s : Sto} {Q : QE} : xBlt .tuple [.tup a] s Q = Q (.tup a) s := rfl
theorem r_tup2 {a : List D}{s : Sto} {Q : QE} : xBlt .tuple [.fl a] s Q = Q (.tup a) s := rfl
theorem r_lst1 {a : List D}{s : Sto} {Q : QE} : xBlt .list [.tup a] s Q = mk (.lst a) s Q := rfl
theorem r_lst2 {a : List D}{s : Sto} {Q : QE} : xBlt .list [.fl a] s Q = mk (.lst a) s Q := rfl
theorem r_max {i j : Int}{s : Sto} {Q : QE} : xBlt .max2 [.int i, .int j] s Q = Q (.int (if j > i then j else i)) s := rfl
theorem r_min {i j : Int}{s : Sto} {Q : QE} : xBlt .min2 [.int i, .int j] s Q = Q (.int (if j < i then j else i)) s := rfl
theorem r_isi_non0 {s : Sto} {Q : QE} : xBlt (.isi 0) [.non] s Q = Q (.bl false) s := rfl
theorem r_isi_non1 {s : Sto} {Q : QE} : xBlt (.isi 1) [.non] s Q = Q (.bl false) s := rfl
theorem r_isi_non2 {s : Sto} {Q : QE} : xBlt (.isi 2) [.non] s Q = Q (.bl false) s := rfl
theorem r_isi_non3 {s : Sto} {Q : QE} : xBlt (.isi 3) [.non] s Q = Q (.bl false) s := rfl
theorem r_isi_non4 {s : Sto} {Q : QE} : xBlt (.isi 4) [.non] s Q = Q (.bl false) s := rfl
theorem r_isi_non5 {s : Sto} {Q : QE} : xBlt (.isi 5) [.non] s Q = Q (.bl true) s := rfl
theorem r_isi_bl0 {b : Bool}{s : Sto} {Q : QE} : xBlt (.isi 0) [.bl b] s Q = Q (.bl true) s := rfl
theorem r_isi_bl1 {b : Bool}{s : Sto} {Q : QE} : xBlt (.isi 1) [.bl b] s Q = Q (.bl true) s := rfl
theorem r_isi_bl2 {b : Bool}{s : Sto} {Q : QE} : xBlt (.isi 2) [.bl b] s Q = Q (.bl false) s := rfl
theorem r_isi_bl3 {b : Bool}{s : Sto} {Q : QE} : xBlt (.isi 3) [.bl b] s Q = Q (.bl false) s := rfl
theorem r_isi_bl4 {b : Bool}{s : Sto} {Q : QE} : xBlt (.isi 4) [.bl b] s Q = Q (.bl false) s := rfl
theorem r_isi_bl5 {b : Bool}{s : Sto} {Q : QE} : xBlt (.isi 5) [.bl b] s Q = Q (.bl false) s := rfl
theorem r_isi_int0 {i : Int}{s : Sto} {Q : QE} : xBlt (.isi 0) [.int i] s Q = Q (.bl true) s := rfl
theorem r_isi_int1 {i : Int}{s : Sto} {Q : QE} : xBlt (.isi 1) [.int i] s Q = Q (.bl false) s := rfl
theorem r_isi_int2 {i : Int}{s : Sto} {Q : QE} : xBlt (.isi 2) [.int i] s Q = Q (.bl false) s := rfl
theorem r_isi_int3 {i : Int}{s : Sto} {Q : QE} : xBlt (.isi 3) [.int i] s Q = Q (.bl false) s := rfl
theorem r_isi_int4 {i : Int}{s : Sto} {Q : QE} : xBlt (.isi 4) [.int i] s Q = Q (.bl false) s := rfl
theorem r_isi_int5 {i : Int}{s : Sto} {Q : QE} : xBlt (.isi 5) [.int i] s Q = Q (.bl false) s := rfl
theorem r_isi_str0 {a : List Nat}{s : Sto} {Q : QE} : xBlt (.isi 0) [.str a] s Q = Q (.bl false) s := rfl
theorem r_isi_str1 {a : List Nat}{s : Sto} {Q : QE} : xBlt (.isi 1) [.str a] s Q = Q (.bl false) s := rfl
theorem r_isi_str2 {a : List Nat}{s : Sto} {Q : QE} : xBlt (.isi 2) [.str a] s Q = Q (.bl true) s := rfl
theorem r_isi_str3 {a : List Nat}{s : Sto} {Q : QE} : xBlt (.isi 3) [.str a] s Q = Q (.bl false) s := rfl
theorem r_isi_str4 {a : List Nat}{s : Sto} {Q : QE} : xBlt (.isi 4) [.str a] s Q = Q (.bl false) s := rfl
theorem r_isi_str5 {a : List Nat}{s : Sto} {Q : QE} : xBlt (.isi 5) [.str a] s Q = Q (.bl false) s := rfl
theorem r_isi_tup0 {a : List D}{s : Sto} {Q : QE} : xBlt (.isi 0) [.tup a] s Q = Q (.bl false) s := rfl
theorem r_isi_tup1 {a : List D}{s : Sto} {Q : QE} : xBlt (.isi 1) [.tup a] s Q = Q (.bl false) s := rfl
theorem r_isi_tup2 {a : List D}{s : Sto} {Q : QE} : xBlt (.isi 2) [.tup a] s Q = Q (.bl false) s := rfl
theorem r_isi_tup3 {a : List D}{s : Sto} {Q : QE} : xBlt (.isi 3) [.tup a] s Q = Q (.bl true) s := rfl
theorem r_isi_tup4 {a : List D}{s : Sto} {Q : QE} : xBlt (.isi 4) [.tup a] s Q = Q (.bl false) s := rfl
theorem r_isi_tup5 {a : List D}{s : Sto} {Q : QE} : xBlt (.isi 5) [.tup a] s Q = Q (.bl false) s := rfl
theorem r_isi_fl0 {a : List D}{s : Sto} {Q : QE} : xBlt (.isi 0) [.fl a] s Q = Q (.bl false) s := rfl
theorem r_isi_fl1 {a : List D}{s : Sto} {Q : QE} : xBlt (.isi 1) [.fl a] s Q = Q (.bl false) s := rfl
theorem r_isi_fl2 {a : List D}{s : Sto} {Q : QE} : xBlt (.isi 2) [.fl a] s Q = Q (.bl false) s := rfl
theorem r_isi_fl3 {a : List D}{s : Sto} {Q : QE} : xBlt (.isi 3) [.fl a] s Q = Q (.bl false) s := rfl
theorem r_isi_fl4 {a : List D}{s : Sto} {Q : QE} : xBlt (.isi 4) [.fl a] s Q = Q (.bl true) s := rfl
theorem r_isi_fl5 {a : List D}{s : Sto} {Q : QE} : xBlt (.isi 5) [.fl a] s Q = Q (.bl false) s := rfl
theorem r_cLt {i j : Int}{s : Sto} : cmpD s .Lt (.int i) (.int j) = some (decide (i < j)) := rfl
theorem r_cLtE {i j : Int}{s : Sto} : cmpD s .LtE (.int i) (.int j) = some (decide (i ≤ j)) := rfl
theorem r_cGt {i j : Int}{s : Sto} : cmpD s .Gt (.int i) (.int j) = some (decide (j < i)) := rfl
theorem r_cGtE {i j : Int}{s : Sto} : cmpD s .GtE (.int i) (.int j) = some (decide (j ≤ i)) := rfl
theorem r_cEq {i j : Int}{s : Sto} : cmpD s .Eq (.int i) (.int j) = some (decide (i = j)) := rfl
theorem r_cNe {i j : Int}{s : Sto} : cmpD s .NotEq (.int i) (.int j) = some (!decide (i = j)) := rfl
theorem r_cEqs {a b : List Nat}{s : Sto} : cmpD s .Eq (.str a) (.str b) = some (decide (a = b)) := rfl
theorem r_cNes {a b : List Nat}{s : Sto} : cmpD s .NotEq (.str a) (.str b) = some (!decide (a = b)) := rfl
theorem r_cEqb {a b : Bool}{s : Sto} : cmpD s .Eq (.bl a) (.bl b) = some (decide (a = b)) := rfl
theorem r_cNeb {a b : Bool}{s : Sto} : cmpD s .NotEq (.bl a) (.bl b) = some (!decide (a = b)) := rfl
theorem r_cIns {a b : List Nat}{s : Sto} : cmpD s .In (.str a) (.str b) = some (subS a b) := rfl
theorem r_cNis {a b : List Nat}{s : Sto} : cmpD s .NotIn (.str a) (.str b) = some (!subS a b) := rfl
theorem r_is_non {s : Sto} : cmpD s .Is (.non) .non = some true := rfl
theorem r_isn_non {s : Sto} : cmpD s .IsNot (.non) .non = some false := rfl
theorem r_is_bl {b : Bool}{s : Sto} : cmpD s .Is (.bl b) .non = some false := rfl
theorem r_isn_bl {b : Bool}{s : Sto} : cmpD s .IsNot (.bl b) .non = some true := rfl
theorem r_is_int {i : Int}{s : Sto} : cmpD s .Is (.int i) .non = some false := rfl
theorem r_isn_int {i : Int}{s : Sto} : cmpD s .IsNot (.int i) .non = some true := rfl
theorem r_is_str {a : List Nat}{s : Sto} : cmpD s .Is (.str a) .non = some false := rfl
theorem r_isn_str {a : List Nat}{s : Sto} : cmpD s .IsNot (.str a) .non = some true := rfl
theorem r_is_tup {a : List D}{s : Sto} : cmpD s .Is (.tup a) .non = some false := rfl
theorem r_isn_tup {a : List D}{s : Sto} : cmpD s .IsNot (.tup a) .non = some true := rfl
theorem r_is_fl {a : List D}{s : Sto} : cmpD s .Is (.fl a) .non = some false := rfl
theorem r_isn_fl {a : List D}{s : Sto} : cmpD s .IsNot (.fl a) .non = some true := rfl
theorem r_is_ref {n : Nat}{s : Sto} : cmpD s .Is (.ref n) .non = some false := rfl
theorem r_isn_ref {n : Nat}{s : Sto} : cmpD s .IsNot (.ref n) .non = some true := rfl
theorem r_is_kd {n : Nat}{s : Sto} : cmpD s .Is (.kd n) .non = some false := rfl
theorem r_isn_kd {n : Nat}{s : Sto} : cmpD s .IsNot (.kd n) .non = some true := rfl
theorem r_tru_non {s : Sto} : tru s (.non) = some false := rfl
theorem r_tru_bl {b : Bool}{s : Sto} : tru s (.bl b) = some b := rfl
theorem r_tru_int {i : Int}{s : Sto} : tru s (.int i) = some (i != 0) := rfl
theorem r_tru_str {a : List Nat}{s : Sto} : tru s (.str a) = some (!a.isEmpty) := rfl
theorem r_tru_tup {a : List D}{s : Sto} : tru s (.tup a) = some (!a.isEmpty) := rfl
theorem r_tru_fl {a : List D}{s : Sto} : tru s (.fl a) = some (!a.isEmpty) := rfl
theorem r_obl {b : Bool} {K : Bool → Prop} : obl (some b) K = K b := rfl
theorem r_brt {A B : Prop} : br (some true) A B = A := rfl
theorem r_brf {A B : Prop} : br (some false) A B = B := rfl
theorem r_pk {n : Nat} : partD (.kd n) = some none := rfl
theorem r_pi {i : Int} : partD (.int i) = some (some i) := rfl
theorem r_sl_strkk {a : List Nat}{p : Nat}{q : Nat}{s : Sto} {Q : QE} : xSl (.str a) (.kd p) (.kd q) s Q = Q (.str (cut a none none)) s := rfl
theorem r_sl_strki {a : List Nat}{p : Nat}{j : Int}{s : Sto} {Q : QE} : xSl (.str a) (.kd p) (.int j) s Q = Q (.str (cut a none (some j))) s := rfl
theorem r_sl_strik {a : List Nat}{i : Int}{q : Nat}{s : Sto} {Q : QE} : xSl (.str a) (.int i) (.kd q) s Q = Q (.str (cut a (some i) none)) s := rfl
theorem r_sl_strii {a : List Nat}{i : Int}{j : Int}{s : Sto} {Q : QE} : xSl (.str a) (.int i) (.int j) s Q = Q (.str (cut a (some i) (some j))) s := rfl
theorem r_sl_tupkk {a : List D}{p : Nat}{q : Nat}{s : Sto} {Q : QE} : xSl (.tup a) (.kd p) (.kd q) s Q = Q (.tup (cut a none none)) s := rfl
theorem r_sl_tupki {a : List D}{p : Nat}{j : Int}{s : Sto} {Q : QE} : xSl (.tup a) (.kd p) (.int j) s Q = Q (.tup (cut a none (some j))) s := rfl
theorem r_sl_tupik {a : List D}{i : Int}{q : Nat}{s : Sto} {Q : QE} : xSl (.tup a) (.int i) (.kd q) s Q = Q (.tup (cut a (some i) none)) s := rfl
theorem r_sl_tupii {a : List D}{i : Int}{j : Int}{s : Sto} {Q : QE} : xSl (.tup a) (.int i) (.int j) s Q = Q (.tup (cut a (some i) (some j))) s := rfl
theorem r_mtj {a : List Nat} {s : Sto} : mTy .join (.str a) s = True := rfl
theorem r_it1 {a : List Nat}{s : Sto} {K : List D → Option Nat → Prop} : xIt .seq [.str a] s K = K (a.map fun c => .str [c]) none := rfl
theorem r_it2 {a : List D}{s : Sto} {K : List D → Option Nat → Prop} : xIt .seq [.tup a] s K = K a none := rfl
theorem r_it3 {a : List D}{s : Sto} {K : List D → Option Nat → Prop} : xIt .seq [.fl a] s K = K a none := rfl
theorem r_it4 {j : Int}{s : Sto} {K : List D → Option Nat → Prop} : xIt .rng1 [.int j] s K = (rngOk 0 j ∧ K (rngL 0 j) none) := rfl
theorem r_it5 {i j : Int}{s : Sto} {K : List D → Option Nat → Prop} : xIt .rng2 [.int i, .int j] s K = (rngOk i j ∧ K (rngL i j) none) := rfl
end PX

local macro_rules | `(tactic| walk_at "run") => `(tactic| first | dsimp only [PX.xSs, PX.xS, PX.xE, PX.xEs, PX.xIf, PX.xTg, PX.xTgs, PX.mk, PX.chk, Option.isSome, Option.map, List.map, List.replicate, List.cons_append, List.nil_append, List.getElem?_cons_zero, List.getElem?_cons_succ, List.set_cons_zero, List.set_cons_succ, List.length_cons, List.length_nil, Nat.sub_self, Nat.reduceSub, Nat.reduceAdd, Bool.not_true, Bool.not_false, true_and, and_true, PX.r_add, PX.r_sub, PX.r_mul, PX.r_div, PX.r_mod, PX.r_pow, PX.r_adds, PX.r_muls, PX.r_addt, PX.r_ipa, PX.r_ips, PX.r_ipt, PX.r_len1, PX.r_len2, PX.r_len3, PX.r_int1, PX.r_int2, PX.r_abs, PX.r_str, PX.r_tup1, PX.r_tup2, PX.r_lst1, PX.r_lst2, PX.r_max, PX.r_min, PX.r_isi_non0, PX.r_isi_non1, PX.r_isi_non2, PX.r_isi_non3, PX.r_isi_non4, PX.r_isi_non5, PX.r_isi_bl0, PX.r_isi_bl1, PX.r_isi_bl2, PX.r_isi_bl3, PX.r_isi_bl4, PX.r_isi_bl5, PX.r_isi_int0, PX.r_isi_int1, PX.r_isi_int2, PX.r_isi_int3, PX.r_isi_int4, PX.r_isi_int5, PX.r_isi_str0, PX.r_isi_str1, PX.r_isi_str2, PX.r_isi_str3, PX.r_isi_str4, PX.r_isi_str5, PX.r_isi_tup0, PX.r_isi_tup1, PX.r_isi_tup2, PX.r_isi_tup3, PX.r_isi_tup4, PX.r_isi_tup5, PX.r_isi_fl0, PX.r_isi_fl1, PX.r_isi_fl2, PX.r_isi_fl3, PX.r_isi_fl4, PX.r_isi_fl5, PX.r_cLt, PX.r_cLtE, PX.r_cGt, PX.r_cGtE, PX.r_cEq, PX.r_cNe, PX.r_cEqs, PX.r_cNes, PX.r_cEqb, PX.r_cNeb, PX.r_cIns, PX.r_cNis, PX.r_is_non, PX.r_isn_non, PX.r_is_bl, PX.r_isn_bl, PX.r_is_int, PX.r_isn_int, PX.r_is_str, PX.r_isn_str, PX.r_is_tup, PX.r_isn_tup, PX.r_is_fl, PX.r_isn_fl, PX.r_is_ref, PX.r_isn_ref, PX.r_is_kd, PX.r_isn_kd, PX.r_tru_non, PX.r_tru_bl, PX.r_tru_int, PX.r_tru_str, PX.r_tru_tup, PX.r_tru_fl, PX.r_obl, PX.r_brt, PX.r_brf, PX.r_pk, PX.r_pi, PX.r_sl_strkk, PX.r_sl_strki, PX.r_sl_strik, PX.r_sl_strii, PX.r_sl_tupkk, PX.r_sl_tupki, PX.r_sl_tupik, PX.r_sl_tupii, PX.r_mtj, PX.r_it1, PX.r_it2, PX.r_it3, PX.r_it4, PX.r_it5] | skip)
/-! PX: lemmas for use. -/
namespace PX
open PySem
theorem lv_in {T : Nat → Option Fn} {k f : Nat} {fn : Fn} {vs : List D} {s : Sto} {Q : QE} {E : XQ} (h : T f = some fn) (hl : vs.length = fn.ar)
    (hb : xSs (Lv T k) fn.body (vs.map some ++ List.replicate (fn.sl - fn.ar) none) s { nx := fun _ s' => Q .non s', rt := Q, bk := fun _ _ => False, ct := fun _ _ => False, ex := fun c fs _ s' => E c fs s' }) : Lv T (k + 1) f vs s Q E := by
  simp only [Lv, h]
  exact ⟨hl, hb⟩
theorem br_dec {p A B : Prop} [Decidable p] (h1 : p → A) (h2 : ¬ p → B) : br (some (decide p)) A B := by
  by_cases h : p
  · rw [decide_eq_true h]; exact h1 h
  · rw [decide_eq_false h]; exact h2 h
theorem br_ndec {p A B : Prop} [Decidable p] (h1 : ¬ p → A) (h2 : p → B) : br (some (!decide p)) A B := by
  by_cases h : p
  · rw [decide_eq_true h]; exact h2 h
  · rw [decide_eq_false h]; exact h1 h
theorem br_b {b : Bool} {A B : Prop} (h1 : b = true → A) (h2 : b = false → B) : br (some b) A B := by
  cases b with
  | true => exact h1 rfl
  | false => exact h2 rfl
theorem br_t {b : Bool} {A B : Prop} (hb : b = true) (h : A) : br (some b) A B := by subst hb; exact h
theorem br_f {b : Bool} {A B : Prop} (hb : b = false) (h : B) : br (some b) A B := by subst hb; exact h
theorem br_yes {p A B : Prop} [Decidable p] (hp : p) (h : A) : br (some (decide p)) A B := br_dec (fun _ => h) (fun n => absurd hp n)
theorem br_no {p A B : Prop} [Decidable p] (hp : ¬ p) (h : B) : br (some (decide p)) A B := br_dec (fun n => absurd n hp) (fun _ => h)
/-! indices -/
theorem atI_k {α : Type} {xs : List α} {k : Nat} : L2.atI xs (k : Int) = xs[k]? := by
  cases h : xs[k]? with
  | some v => exact L2.atI_nat h
  | none =>
    unfold L2.atI L2.ixN
    have : ¬ ((k : Int) < (xs.length : Int)) := by
      have := List.getElem?_eq_none_iff.mp h
      omega
    rw [if_pos (by omega), if_neg this]
    rfl
theorem atI_nn {α : Type} {xs : List α} {i : Int} (h : 0 ≤ i) : L2.atI xs i = xs[i.toNat]? := by
  have := atI_k (xs := xs) (k := i.toNat)
  rwa [Int.toNat_of_nonneg h] at this
theorem atI_z {α : Type} {a : α} {l : List α} : L2.atI (a :: l) 0 = some a := atI_k (k := 0)
theorem atI_o {α : Type} {a b : α} {l : List α} : L2.atI (a :: b :: l) 1 = some b := atI_k (k := 1)
theorem atI_t {α : Type} {a b c : α} {l : List α} : L2.atI (a :: b :: c :: l) 2 = some c := atI_k (k := 2)
theorem atI_3 {α : Type} {a b c d : α} {l : List α} : L2.atI (a :: b :: c :: d :: l) 3 = some d := atI_k (k := 3)
theorem ixn_z {n : Nat} (h : 0 < n) : L2.ixN n 0 = some 0 := by
  unfold L2.ixN
  rw [if_pos (by decide), if_pos (by omega)]
  rfl
theorem ixn_k {n k : Nat} (h : k < n) : L2.ixN n (k : Int) = some k := by
  unfold L2.ixN
  rw [if_pos (by omega), if_pos (by omega), Int.toNat_natCast]
/-- an item, by the store's list -/
theorem ix_ref {s : Sto} {n : Nat} {xs : List D} {i : Int} {v : D} {Q : QE} (hs : s[n]? = some (.lst xs)) (hv : L2.atI xs i = some v) (h : Q v s) : xIx (.ref n) (.int i) s Q := by
  simp only [xIx, seqOf, hs, hv]
  exact h
theorem ix_fl {s : Sto} {xs : List D} {i : Int} {v : D} {Q : QE} (hv : L2.atI xs i = some v) (h : Q v s) : xIx (.fl xs) (.int i) s Q := by
  simp only [xIx, seqOf, hv]
  exact h
theorem ix_tup {s : Sto} {xs : List D} {i : Int} {v : D} {Q : QE} (hv : L2.atI xs i = some v) (h : Q v s) : xIx (.tup xs) (.int i) s Q := by
  simp only [xIx, seqOf, hv]
  exact h
theorem ix_str {s : Sto} {a : List Nat} {i : Int} {c : Nat} {Q : QE} (hv : L2.atI a i = some c) (h : Q (.str [c]) s) : xIx (.str a) (.int i) s Q := by
  simp only [xIx, hv]
  exact h
theorem atI_in {α : Type} {xs : List α} {i : Int} (h0 : 0 ≤ i) (h1 : i < xs.length) : ∃ v, L2.atI xs i = some v ∧ v ∈ xs := by
  rw [atI_nn h0]
  have : i.toNat < xs.length := by omega
  exact ⟨xs[i.toNat], List.getElem?_eq_getElem this, List.getElem_mem this⟩
/-- one of the items, whichever -/
theorem ix_any {s : Sto} {n : Nat} {xs : List D} {i : Int} {Q : QE} (hs : s[n]? = some (.lst xs)) (h0 : 0 ≤ i) (h1 : i < xs.length) (h : ∀ v ∈ xs, Q v s) : xIx (.ref n) (.int i) s Q := by
  obtain ⟨v, hv, hm⟩ := atI_in h0 h1
  exact ix_ref hs hv (h v hm)
theorem set_ref {s : Sto} {n : Nat} {xs : List D} {i : Int} {j : Nat} {v : D} {K : Sto → Prop} (hs : s[n]? = some (.lst xs)) (hj : L2.ixN xs.length i = some j) (h : K (s.set n (.lst (xs.set j v)))) : xAset (.ref n) (.int i) v s K := by
  simp only [xAset, hs, hj]
  exact h
/-! the store -/
theorem get_new {s r : Sto} {o : Ob} : (s ++ o :: r)[s.length]? = some o := by
  rw [List.getElem?_append_right (Nat.le_refl _), Nat.sub_self]
  rfl
theorem get_old {s r : Sto} {n : Nat} {o : Ob} (h : s[n]? = some o) : (s ++ r)[n]? = some o := by
  rw [List.getElem?_append_left (List.getElem?_eq_some_iff.mp h).1]
  exact h
theorem get_set {s : Sto} {n : Nat} {o o' : Ob} (h : s[n]? = some o) : (s.set n o')[n]? = some o' := List.getElem?_set_self (List.getElem?_eq_some_iff.mp h).1
theorem lt_of_get {s : Sto} {n : Nat} {o : Ob} (h : s[n]? = some o) : n < s.length := (List.getElem?_eq_some_iff.mp h).1
/-- all but r is kept -/
structure Kp (r : Nat → Prop) (s s' : Sto) : Prop where
  len : s.length ≤ s'.length
  get : ∀ (n : Nat) (o : Ob), ¬ r n → s[n]? = some o → s'[n]? = some o
theorem Kp.refl (r : Nat → Prop) (s : Sto) : Kp r s s := ⟨Nat.le_refl _, fun _ _ _ h => h⟩
theorem Kp.trans {r : Nat → Prop} {s s1 s2 : Sto} (a : Kp r s s1) (b : Kp r s1 s2) : Kp r s s2 := ⟨Nat.le_trans a.len b.len, fun n o h e => b.get n o h (a.get n o h e)⟩
theorem Kp.push {r : Nat → Prop} {s t : Sto} : Kp r s (s ++ t) := ⟨by simp, fun n o _ h => get_old h⟩
theorem Kp.set {r : Nat → Prop} {s : Sto} {n : Nat} {o : Ob} (h : r n) : Kp r s (s.set n o) := ⟨by simp, fun m o' hm e => by rw [List.getElem?_set_ne (by rintro rfl; exact hm h)]; exact e⟩
theorem Kp.mono {r r' : Nat → Prop} {s s' : Sto} (a : Kp r s s') (h : ∀ n, n < s.length → r n → r' n) : Kp r' s s' := ⟨a.len, fun n o hn e => a.get n o (fun z => hn (h n (lt_of_get e) z)) e⟩

/-! ### the draws that all laws share -/
def cellFn : Fn := ⟨2, 2, [.ite (.cmp .Lt (.var 1) (.blt .len [(.var 0)])) [.ret (.blt .abs [(.blt .int [(.ix (.var 0) (.var 1))])])] [], .ret (.lit (.int 0))]⟩
def srcFn (cid : Nat) : Fn := ⟨2, 3, [.asg (.nm 2) (.call cid [(.var 0), (.var 1)]),
  .ite (.cmp .GtE (.var 2) (.bin .Pow (.lit (.int 10)) (.lit (.int 18)))) [.ret (.lst [(.lit (.int 1)), (.bin .Sub (.var 2) (.bin .Pow (.lit (.int 10)) (.lit (.int 18)))), (.lit (.int 0))])] [],
  .ret (.lst [(.lit (.int 0)), (.bin .Add (.var 2) (.bin .Mult (.lit (.int 1000)) (.var 1))), (.lit (.int 0))])]⟩
def drawFn : Fn := ⟨2, 5, [.ite (.cmp .Eq (.ix (.var 0) (.lit (.int 0))) (.lit (.int 1))) [.asg (.nm 2) (.bin .Mod (.blt .int [(.ix (.var 0) (.lit (.int 1)))]) (.var 1)),
  .aset (.var 0) (.lit (.int 1)) (.bin .FloorDiv (.ix (.var 0) (.lit (.int 1))) (.var 1)),
  .ret (.var 2)] [],
  .aset (.var 0) (.lit (.int 2)) (.bin .Add (.ix (.var 0) (.lit (.int 2))) (.lit (.int 1))),
  .asg (.nm 3) (.bin .Mod (.blt .int [(.bin .Add (.bin .Add (.bin .Mult (.ix (.var 0) (.lit (.int 1))) (.lit (.int 48271))) (.bin .Mult (.ix (.var 0) (.lit (.int 2))) (.lit (.int 69621)))) (.lit (.int 11)))]) (.lit (.int 2147483647))),
  .asg (.nm 4) (.bin .Mod (.blt .int [(.bin .Add (.bin .Add (.bin .Mult (.var 3) (.var 3)) (.ix (.var 0) (.lit (.int 1)))) (.bin .Mult (.ix (.var 0) (.lit (.int 2))) (.lit (.int 40692))))]) (.lit (.int 2147483563))),
  .ret (.bin .Mod (.blt .int [(.bin .Add (.bin .FloorDiv (.bin .Mult (.var 4) (.var 4)) (.lit (.int 64))) (.var 3))]) (.var 1))]⟩
/-- the state of a source: how many draws it has made at most -/
def SrcL (b : Nat) (xs : List D) : Prop := ∃ f n k : Int, xs = [.int f, .int n, .int k] ∧ 0 ≤ n ∧ 0 ≤ k ∧ k ≤ b ∧ (f ≠ 1 → n < 2 ^ 70)
def Src (b : Nat) (s : Sto) (r : Nat) : Prop := ∃ xs, s[r]? = some (.lst xs) ∧ SrcL b xs
theorem Src.mono {b b' : Nat} {s : Sto} {r : Nat} (h : Src b s r) (hb : b ≤ b') : Src b' s r := by
  obtain ⟨xs, e, f, n, k, h1, h2, h3, h4, h5⟩ := h
  exact ⟨xs, e, f, n, k, h1, h2, h3, by omega, h5⟩
theorem Src.kp {b : Nat} {s s' : Sto} {r : Nat} {R : Nat → Prop} (h : Src b s r) (k : Kp R s s') (hr : ¬ R r) : Src b s' r := by
  obtain ⟨xs, e, q⟩ := h
  exact ⟨xs, k.get r _ hr e, q⟩
theorem log2_le {i : Int} {n : Nat} (h0 : 0 ≤ i) (h : i < 2 ^ n) (hn : 0 < n) : i.natAbs.log2 < n := by
  have e : i.natAbs < 2 ^ n := by
    have h1 : (i.natAbs : Int) = i := by omega
    have h2 : ((2 ^ n : Nat) : Int) = (2 : Int) ^ n := by norm_cast
    omega
  exact PySem.Flt.log2_lt_of hn e
theorem mul_small {i j : Int} (h0 : 0 ≤ i) (h1 : i < 2 ^ 200) (h2 : 0 ≤ j) (h3 : j < 2 ^ 200) : mulOk i j := by
  have a := log2_le h0 h1 (by decide)
  have b := log2_le h2 h3 (by decide)
  show _ + _ < 1000000
  omega
theorem div_small {j : Int} (h0 : 0 < j) (h1 : j < 2 ^ 200) : divOk j := ⟨h0, Nat.lt_of_lt_of_le (log2_le (by omega) h1 (by decide)) (by decide)⟩
section
variable {T : Nat → Option Fn} {j : Nat} {E : XQ}
def cellV (ns : List Int) (k : Nat) : Int := match ns[k]? with
  | some n => if n < 0 then -n else n
  | none => 0
theorem cellV_nn (ns : List Int) (k : Nat) : 0 ≤ cellV ns k := by
  unfold cellV
  split
  · split <;> omega
  · exact Int.le_refl _
theorem cell_ok {cid : Nat} (hT : T cid = some cellFn) {ns : List Int} {k : Nat} {s : Sto} {Q : QE} (h : Q (.int (cellV ns k)) s) : Lv T (j + 1) cid [.fl (ns.map .int), .int k] s Q E := by
  refine lv_in hT rfl ?_
  unfold cellFn
  walk_at "run"
  refine br_dec (fun hk => ?_) (fun hk => ?_)
  · rw [List.length_map] at hk
    have hk' : k < ns.length := by omega
    refine ix_fl (v := .int ns[k]) (by rw [atI_k, List.getElem?_map, List.getElem?_eq_getElem hk']; rfl) ?_
    walk_at "run"
    unfold cellV at h
    rw [List.getElem?_eq_getElem hk'] at h
    exact h
  · rw [List.length_map] at hk
    unfold cellV at h
    rw [List.getElem?_eq_none (by omega)] at h
    exact h
theorem src_ok {cid sid : Nat} (hT : T cid = some cellFn) (hS : T sid = some (srcFn cid)) {ns : List Int} {k : Nat} (hk : k < 1000000) {s : Sto} {Q : QE} (h : ∀ xs, SrcL 0 xs → Q (.ref s.length) (s ++ [.lst xs])) : Lv T (j + 2) sid [.fl (ns.map .int), .int k] s Q E := by
  refine lv_in hS rfl ?_
  unfold srcFn
  walk_at "run"
  refine cell_ok hT ?_
  have c0 := cellV_nn ns k
  generalize cellV ns k = c at c0
  walk_at "run"
  refine ⟨by refine ⟨by decide, by decide, by decide⟩, br_dec (fun hc => ?_) (fun hc => ?_)⟩
  · have hc' : (10 : Int) ^ 18 ≤ c := hc
    refine ⟨by refine ⟨by decide, by decide, by decide⟩, by decide, h _ ⟨1, c - 10 ^ 18, 0, rfl, by omega, by decide, by decide, fun z => absurd rfl z⟩⟩
  · have hc' : c < (10 : Int) ^ 18 := by
      have : ¬ ((10 : Int) ^ 18 ≤ c) := hc
      omega
    refine ⟨mul_small (by decide) (by decide) (by omega) (by omega), by decide, h _ ⟨0, c + 1000 * k, 0, rfl, by omega, by decide, by decide, fun _ => by omega⟩⟩
theorem draw_ok {did : Nat} (hD : T did = some drawFn) {b r : Nat} {m : Int} {s : Sto} {Q : QE} (hs : Src b s r) (hb : b < 2 ^ 60) (hm' : divOk m)
    (h : ∀ v xs, 0 ≤ v → v < m → SrcL (b + 1) xs → Q (.int v) (s.set r (.lst xs))) : Lv T (j + 1) did [.ref r, .int m] s Q E := by
  obtain ⟨xs, hr, f, n, k, rfl, h1, h2, h3, h4⟩ := hs
  have hm := hm'.1
  refine lv_in hD rfl ?_
  unfold drawFn
  walk_at "run"
  refine ix_ref hr atI_z ?_
  walk_at "run"
  refine br_dec (fun hf => ?_) (fun hf => ?_)
  · refine ix_ref hr atI_o ?_
    walk_at "run"
    refine ⟨hm, ix_ref hr atI_o ⟨hm', set_ref hr (ixn_k (k := 1) (by simp)) ?_⟩⟩
    walk_at "run"
    refine h _ _ (Int.emod_nonneg _ (by omega)) (Int.emod_lt_of_pos _ hm) ⟨f, n / m, k, rfl, Int.ediv_nonneg h1 (by omega), h2, by omega, fun z => absurd hf z⟩
  · have n70 := h4 hf
    refine ix_ref hr atI_t ?_
    walk_at "run"
    refine set_ref hr (ixn_k (k := 2) (by simp)) ?_
    have hr2 := get_set (o' := Ob.lst [D.int f, D.int n, D.int (k + 1)]) hr
    walk_at "run"
    refine ix_ref hr2 atI_o ⟨mul_small h1 (by omega) (by decide) (by decide), ix_ref hr2 atI_t ⟨mul_small (by omega) (by omega) (by decide) (by decide), by decide, ?_⟩⟩
    have a0 := Int.emod_nonneg (n * 48271 + (k + 1) * 69621 + 11) (show (2147483647 : Int) ≠ 0 by decide)
    have a1 := Int.emod_lt_of_pos (n * 48271 + (k + 1) * 69621 + 11) (show (0 : Int) < 2147483647 by decide)
    generalize (n * 48271 + (k + 1) * 69621 + 11) % 2147483647 = a at a0 a1
    refine ⟨mul_small a0 (by omega) a0 (by omega), ix_ref hr2 atI_o ?_⟩
    walk_at "run"
    refine ix_ref hr2 atI_t ?_
    walk_at "run"
    refine ⟨mul_small (by omega) (by omega) (by decide) (by decide), by decide, ?_⟩
    have b0 := Int.emod_nonneg (a * a + n + (k + 1) * 40692) (show (2147483563 : Int) ≠ 0 by decide)
    have b1 := Int.emod_lt_of_pos (a * a + n + (k + 1) * 40692) (show (0 : Int) < 2147483563 by decide)
    generalize (a * a + n + (k + 1) * 40692) % 2147483563 = c at b0 b1
    refine ⟨mul_small b0 (by omega) b0 (by omega), div_small (by decide) (by omega), hm, ?_⟩
    exact h _ _ (Int.emod_nonneg _ (by omega)) (Int.emod_lt_of_pos _ hm) ⟨f, n, k + 1, rfl, h1, by omega, by omega, fun _ => n70⟩
end
end PX

/-! PX: more lemmas for use. -/
namespace PX
open PySem
theorem len_ref {s : Sto} {n : Nat} {xs : List D} {Q : QE} (hs : s[n]? = some (.lst xs)) (h : Q (.int xs.length) s) : xBlt .len [.ref n] s Q := by
  simp only [xBlt, bLen, seqOf, hs]
  exact h
theorem tup_ref {s : Sto} {n : Nat} {xs : List D} {Q : QE} (hs : s[n]? = some (.lst xs)) (h : Q (.tup xs) s) : xBlt .tuple [.ref n] s Q := by
  simp only [xBlt, bTup, seqOf, hs]
  exact h
theorem mty_ref {m : MF} {s : Sto} {n : Nat} {xs : List D} (hs : s[n]? = some (.lst xs)) (hm : m ≠ .join) : mTy m (.ref n) s := by
  cases m <;> first | exact absurd rfl hm | (simp only [mTy, hs])
theorem app_ref {s : Sto} {n : Nat} {xs : List D} {v : D} {Q : QE} (hs : s[n]? = some (.lst xs)) (hl : xs.length < sizeLine) (h : Q .non (s.set n (.lst (xs ++ [v])))) : xMeth .append (.ref n) [v] s Q := by
  simp only [xMeth, hs]
  exact ⟨hl, h⟩
theorem it_ref {s : Sto} {n : Nat} {xs : List D} {K : List D → Option Nat → Prop} (hs : s[n]? = some (.lst xs)) (h : K xs (some n)) : xIt .seq [.ref n] s K := by
  simp only [xIt, hs]
  exact h
theorem add_refs {s : Sto} {m n : Nat} {a b : List D} {Q : QE} (ha : s[m]? = some (.lst a)) (hb : s[n]? = some (.lst b)) (hl : a.length + b.length ≤ sizeLine) (h : Q (.ref s.length) (s ++ [.lst (a ++ b)])) : xBin .Add (.ref m) (.ref n) s Q := by
  simp only [xBin, ha, hb]
  exact ⟨hl, h⟩
theorem br_ref {s : Sto} {n : Nat} {xs : List D} {A B : Prop} (hs : s[n]? = some (.lst xs)) (h1 : xs ≠ [] → A) (h2 : xs = [] → B) : br (tru s (.ref n)) A B := by
  simp only [tru, hs]
  cases xs with
  | nil => exact h2 rfl
  | cons a r => exact h1 (by simp)
theorem join_ref {s : Sto} {n : Nat} {l : List (List Nat)} {sep : List Nat} {Q : QE} (hs : s[n]? = some (.lst (l.map .str))) (hl : (l.map List.length).sum + l.length * sep.length ≤ 16777216) (h : Q (.str (joinS sep l)) s) : xMeth .join (.str sep) [.ref n] s Q := by
  have e : ∀ l : List (List Nat), strsOf (l.map .str) = some l := fun l => by
    induction l with
    | nil => rfl
    | cons a r ih => simp only [List.map_cons, strsOf, ih]; rfl
  simp only [xMeth, seqOf, hs, e]
  exact ⟨hl, h⟩
theorem joinS_nil : ∀ l : List (List Nat), joinS [] l = l.flatten
  | [] => rfl
  | [a] => by simp [joinS]
  | a :: b :: r => by simp only [joinS, joinS_nil (b :: r), List.append_nil, List.flatten_cons]
/-! equality of lists and tuples of plain values -/
def pl : D → Bool
  | .non | .int _ | .str _ => true
  | _ => false
theorem resWs_pl {r : Nat → Option D} : ∀ {xs : List D}, (∀ x ∈ xs, pl x = true) → resWs r xs = some xs
  | [], _ => rfl
  | x :: xs, h => by
    have a := h x (by simp)
    have b := resWs_pl (r := r) (xs := xs) fun y hy => h y (by simp [hy])
    cases x <;> simp_all [resWs, resW, pl]
theorem nobs_pl {k : Nat} : ∀ {xs : List D}, (∀ x ∈ xs, pl x = true) → nobs k xs = true
  | [], _ => by simp [nobs]
  | x :: xs, h => by
    have a := h x (by simp)
    have b := nobs_pl (k := k) (xs := xs) fun y hy => h y (by simp [hy])
    cases x <;> simp_all [nobs, nob, pl]
theorem res_pl {s : Sto} {n k : Nat} {xs : List D} (hs : s[n]? = some (.lst xs)) (hp : ∀ x ∈ xs, pl x = true) : res s (k + 1) (.ref n) = some (.fl xs) := by
  simp only [res, resW, hs, resWs_pl hp]
  rfl
theorem eq_refs {s : Sto} {m n : Nat} {xs ys : List D} (hx : s[m]? = some (.lst xs)) (hy : s[n]? = some (.lst ys)) (px : ∀ x ∈ xs, pl x = true) (py : ∀ x ∈ ys, pl x = true) : eqD s (.ref m) (.ref n) = some (decide (xs = ys)) := by
  show eqDeep s (.ref m) (.ref n) = _
  unfold eqDeep
  rw [res_pl hx px, res_pl hy py]
  have a : nob 40 (.fl xs) = true := nobs_pl px
  have b : nob 40 (.fl ys) = true := nobs_pl py
  simp only [a, b, Bool.and_self, if_true, D.fl.injEq]
theorem res_tup {s : Sto} {k : Nat} {xs : List D} (hp : ∀ x ∈ xs, pl x = true) : res s (k + 1) (.tup xs) = some (.tup xs) := by
  simp only [res, resW, resWs_pl hp]
  rfl
theorem eq_tups {s : Sto} {xs ys : List D} (px : ∀ x ∈ xs, pl x = true) (py : ∀ x ∈ ys, pl x = true) : eqD s (.tup xs) (.tup ys) = some (decide (xs = ys)) := by
  show eqDeep s (.tup xs) (.tup ys) = _
  unfold eqDeep
  rw [res_tup px, res_tup py]
  have a : nob 40 (.tup xs) = true := nobs_pl px
  have b : nob 40 (.tup ys) = true := nobs_pl py
  simp only [a, b, Bool.and_self, if_true, D.tup.injEq]
theorem pl_strs (l : List (List Nat)) : ∀ x ∈ l.map D.str, pl x = true := fun x hx => by
  obtain ⟨a, _, rfl⟩ := List.mem_map.mp hx
  rfl
theorem pl_ints (l : List Int) : ∀ x ∈ l.map D.int, pl x = true := fun x hx => by
  obtain ⟨a, _, rfl⟩ := List.mem_map.mp hx
  rfl
theorem strs_inj {l m : List (List Nat)} : l.map D.str = m.map D.str ↔ l = m := by
  constructor
  · intro h
    exact (List.map_inj_right (fun a b e => by cases e; rfl)).mp h
  · rintro rfl; rfl
theorem in_strs {s : Sto} {w : List Nat} {l : List (List Nat)} : inD s (.str w) (.tup (l.map .str)) = some (decide (w ∈ l)) := by
  have e1 : (l.map D.str).all flatD = true := by
    rw [List.all_eq_true]
    intro x hx
    obtain ⟨a, _, rfl⟩ := List.mem_map.mp hx
    rfl
  have e2 : ((l.map D.str).any fun z => eqF z (.str w)) = decide (w ∈ l) := by
    induction l with
    | nil => rfl
    | cons a r ih =>
      rw [List.map_cons, List.any_cons, ih (by
        rw [List.map_cons, List.all_cons, Bool.and_eq_true] at e1
        exact e1.2)]
      rw [Bool.eq_iff_iff, Bool.or_eq_true, decide_eq_true_eq, decide_eq_true_eq, List.mem_cons]
      show (a == w) = true ∨ _ ↔ _
      rw [beq_iff_eq]
      exact ⟨fun h => h.imp (fun e => e.symm) id, fun h => h.imp (fun e => e.symm) id⟩
  show (match seqOf s (.tup (l.map .str)) with
    | some ys => if flatD (.str w) && ys.all flatD then some (ys.any fun z => eqF z (.str w)) else none
    | none => none) = _
  simp only [seqOf, e1, e2, flatD, Bool.and_self, if_true]
theorem cin_strs {s : Sto} {w : List Nat} {l : List (List Nat)} : cmpD s .In (.str w) (.tup (l.map .str)) = some (decide (w ∈ l)) := in_strs (s := s)
theorem cnin_strs {s : Sto} {w : List Nat} {l : List (List Nat)} : cmpD s .NotIn (.str w) (.tup (l.map .str)) = some (!decide (w ∈ l)) := by
  show (inD s (.str w) (.tup (l.map .str))).map _ = _
  rw [in_strs]
  rfl
theorem br_nb {b : Bool} {A B : Prop} (h1 : b = false → A) (h2 : b = true → B) : br (some (!b)) A B := by
  cases b with
  | true => exact h2 rfl
  | false => exact h1 rfl
theorem atI_hd {α : Type} {a : List α} {c : α} (h : a.head? = some c) : L2.atI a 0 = some c := by
  cases a with
  | nil => cases h
  | cons x r => cases h; exact atI_z
/-! parts of texts -/
theorem sub_one (a : List Nat) (c : Nat) : subS [c] a = decide (c ∈ a) := by
  have := StrLaws.found_one ⟨a.toArray⟩ c
  simpa [subS, Str.length] using this
theorem sub_no {a b : List Nat} (h : ∀ i, i + a.length ≤ b.length → ∃ t, t < a.length ∧ b[i + t]? ≠ a[t]?) : subS a b = false := by
  have e : Builtin.Str.occurrences ⟨b.toArray⟩ ⟨a.toArray⟩ 0 (Str.length ⟨b.toArray⟩) 1 = [] := by
    refine PySem.W.occ_nil_of_no _ _ 1 fun i hi => ?_
    simp only [Str.length, List.size_toArray] at hi
    obtain ⟨t, ht, hn⟩ := h i hi
    unfold Builtin.Str.subAt
    rw [beq_eq_false_iff_ne]
    intro e
    refine hn ?_
    have e2 := congrArg (fun z : Array Nat => z[t]?) e
    simp only [Str.length, List.size_toArray, List.getElem?_toArray] at e2
    rw [Array.getElem?_extract] at e2
    simp only [List.size_toArray, List.getElem?_toArray] at e2
    rw [if_pos (by omega)] at e2
    exact e2
  have e' : Builtin.Str.occurrences ⟨b.toArray⟩ ⟨a.toArray⟩ 0 b.length 1 = [] := by simpa [Str.length] using e
  unfold subS
  rw [e']
  rfl
theorem sIx_nn {n d : Nat} {i : Int} (h : 0 ≤ i) : HT.sIx n d (some i) = min i.toNat n := by
  simp only [HT.sIx]
  rw [if_neg (by omega)]
theorem sIx_none {n d : Nat} : HT.sIx n d none = d := rfl
theorem cut_nn {α : Type} {xs : List α} {i j : Int} (hi : 0 ≤ i) (hj : 0 ≤ j) : cut xs (some i) (some j) = (xs.drop i.toNat).take (j.toNat - i.toNat) := by
  unfold cut
  rw [sIx_nn hi, sIx_nn hj]
  by_cases h : i.toNat ≤ xs.length
  · by_cases h2 : j.toNat ≤ xs.length
    · rw [Nat.min_eq_left h, Nat.min_eq_left h2]
    · rw [Nat.min_eq_left h, Nat.min_eq_right (by omega), List.take_of_length_le (by simp), List.take_of_length_le (by simp; omega)]
  · rw [Nat.min_eq_right (show xs.length ≤ i.toNat by omega), List.drop_of_length_le (Nat.le_refl _), List.drop_of_length_le (show xs.length ≤ i.toNat by omega)]
    simp
theorem cut_to {α : Type} {xs : List α} {j : Int} (hj : 0 ≤ j) : cut xs none (some j) = xs.take j.toNat := by
  unfold cut
  rw [sIx_nn hj, sIx_none]
  simp only [List.drop_zero, Nat.sub_zero]
  by_cases h2 : j.toNat ≤ xs.length
  · rw [Nat.min_eq_left h2]
  · rw [Nat.min_eq_right (by omega), List.take_of_length_le (Nat.le_refl _), List.take_of_length_le (by omega)]
theorem cut_from {α : Type} {xs : List α} {i : Int} (hi : 0 ≤ i) : cut xs (some i) none = xs.drop i.toNat := by
  unfold cut
  rw [sIx_nn hi, sIx_none, List.take_of_length_le (by simp)]
  by_cases h2 : i.toNat ≤ xs.length
  · rw [Nat.min_eq_left h2]
  · rw [Nat.min_eq_right (by omega), List.drop_of_length_le (Nat.le_refl _), List.drop_of_length_le (by omega)]
theorem cut_len {α : Type} {xs : List α} {a b : Option Int} : (cut xs a b).length ≤ xs.length := by
  unfold cut
  simp only [List.length_take, List.length_drop]
  omega
/-! draws, the rest of the store kept -/
section
variable {T : Nat → Option Fn} {j : Nat} {E : XQ}
theorem draw_kp {did : Nat} (hD : T did = some drawFn) {b r : Nat} {m : Int} {s : Sto} {Q : QE} (hs : Src b s r) (hb : b < 2 ^ 60) (hm : divOk m)
    (h : ∀ v s', 0 ≤ v → v < m → Kp (fun n => n = r) s s' → s'.length = s.length → Src (b + 1) s' r → Q (.int v) s') : Lv T (j + 1) did [.ref r, .int m] s Q E := by
  obtain ⟨xs, hr, _⟩ := id hs
  exact draw_ok hD hs hb hm fun v xs' h0 h1 hx => h v _ h0 h1 (Kp.set rfl) (by simp) ⟨xs', get_set hr, hx⟩
theorem src_kp {cid sid : Nat} (hT : T cid = some cellFn) (hS : T sid = some (srcFn cid)) {ns : List Int} {k : Nat} (hk : k < 1000000) {s : Sto} {Q : QE} (h : ∀ s', Kp (fun _ => False) s s' → s'.length = s.length + 1 → Src 0 s' s.length → Q (.ref s.length) s') : Lv T (j + 2) sid [.fl (ns.map .int), .int k] s Q E :=
  src_ok hT hS hk fun xs hx => h _ Kp.push (by simp) ⟨xs, get_new, hx⟩
end
theorem div_nat {n : Nat} (h0 : 0 < n) (h1 : n < 2 ^ 60) : divOk (n : Int) := div_small (by omega) (by omega)
theorem Kp.none {r : Nat → Prop} {s s' : Sto} (a : Kp (fun _ => False) s s') : Kp r s s' := a.mono fun _ _ z => z.elim
theorem Kp.get_ref {r : Nat → Prop} {s s' : Sto} (a : Kp r s s') {n : Nat} {o : Ob} (hn : ¬ r n) (h : s[n]? = some o) : s'[n]? = some o := a.get n o hn h
/-! loops by what holds before each turn -/
theorem for_ind {T : Nat → Option Fn} {k : Nat} {B : List ST} {tg : TG} {o : Option Nat} {all : List D} {N : En} (I : List D → Sl → Sto → Prop)
    (step : ∀ x r σ s, I (x :: r) σ s → chk o all s ∧ xTg tg x σ fun σ' => xSs (Lv T k) B σ' s { nx := fun σ s => I r σ s, ct := fun σ s => I r σ s, bk := N.nx, rt := N.rt, ex := N.ex })
    (fin : ∀ σ s, I [] σ s → chk o all s ∧ N.nx σ s) : ∀ (items : List D) (σ : Sl) (s : Sto), I items σ s → forGo tg o all (fun σ s N => xSs (Lv T k) B σ s N) N items σ s
  | [], σ, s, h => fin σ s h
  | x :: r, σ, s, h => by
    obtain ⟨c, h⟩ := step x r σ s h
    refine ⟨c, xTg_mono tg (fun σ' h => xSs_mono (Lv_mono T k) B (N := { nx := fun σ s => I r σ s, ct := fun σ s => I r σ s, bk := N.nx, rt := N.rt, ex := N.ex }) ⟨fun σ s h => for_ind I step fin r σ s h, fun _ _ h => h, fun σ s h => h, fun σ s h => for_ind I step fin r σ s h, fun _ _ _ _ h => h⟩ h) h⟩
theorem lc_ind {T : Nat → Option Fn} {k : Nat} {tg : TG} {o : Option Nat} {all : List D} {n : Nat} {ifs : List EX} {elt : EX} {own : List Nat} {σ : Sl} {K : Sto → Prop} (I : List D → Sto → Prop)
    (step : ∀ x r s, I (x :: r) s → chk o all s ∧ xTg tg x (wipeS σ own) fun σ' => xIf (Lv T k) ifs σ' s fun b s1 =>
      if b = true then xE (Lv T k) elt σ' s1 (fun y s2 => ∃ acc, s2[n]? = some (.lst acc) ∧ acc.length < sizeLine ∧ I r (s2.set n (.lst (acc ++ [y])))) (fun _ _ _ => False) else I r s1)
    (fin : ∀ s, I [] s → chk o all s ∧ K s) : ∀ (items : List D) (s : Sto), I items s → lcGo tg o all n (fun σ' s' K => xIf (Lv T k) ifs σ' s' K) (fun σ' s' K => xE (Lv T k) elt σ' s' K (fun _ _ _ => False)) own σ items s K
  | [], s, h => fin s h
  | x :: r, s, h => by
    obtain ⟨c, h⟩ := step x r s h
    refine ⟨c, xTg_mono tg (fun σ' h => xIf_mono (Lv_mono T k) ifs (fun b s1 h => ?_) h) h⟩
    cases b with
    | true =>
      refine xE_mono (Lv_mono T k) elt (fun y s2 h => ?_) (fun _ _ _ h => h) h
      obtain ⟨acc, h1, h2, h3⟩ := h
      show (match s2[n]? with
        | some (.lst acc) => _
        | _ => False)
      rw [h1]
      exact ⟨h2, lc_ind I step fin r _ h3⟩
    | false => exact lc_ind I step fin r s1 h
/-! the same, the turn's ends abstract -/
structure En.Is (N' : En) (F : Sl → Sto → Prop) (N : En) : Prop where
  nx : ∀ σ s, F σ s → N'.nx σ s
  ct : ∀ σ s, F σ s → N'.ct σ s
  bk : ∀ σ s, N.nx σ s → N'.bk σ s
  rt : ∀ d s, N.rt d s → N'.rt d s
  ex : ∀ c fs σ s, N.ex c fs σ s → N'.ex c fs σ s
def Dn (W : Nat → Sl → Sto → Prop) (m : Nat) (σ : Sl) (s : Sto) : Prop := ∃ m', m' < m ∧ W m' σ s
theorem whl_of {c : SE} {b : SS} {N : En} {σ : Sl} {s : Sto} (W : Nat → Sl → Sto → Prop) (m : Nat) (h0 : W m σ s)
    (step : ∀ m σ s (N' : En), W m σ s → N'.Is (Dn W m) N → c σ s (fun d s1 => br (tru s1 d) (b σ s1 N') (N.nx σ s1)) (fun e fs s1 => N.ex e fs σ s1)) : whlGo c b N σ s :=
  ⟨W, ⟨m, h0⟩, fun m σ s h => step m σ s _ h ⟨fun _ _ h => h, fun _ _ h => h, fun _ _ h => h, fun _ _ h => h, fun _ _ _ _ h => h⟩⟩
theorem for_inv {T : Nat → Option Fn} {k : Nat} {B : List ST} {tg : TG} {o : Option Nat} {all : List D} {N : En} {items : List D} {σ : Sl} {s : Sto} (I : List D → Sl → Sto → Prop) (h0 : I items σ s)
    (step : ∀ x r σ s (N' : En), I (x :: r) σ s → N'.Is (I r) N → chk o all s ∧ xTg tg x σ fun σ' => xSs (Lv T k) B σ' s N')
    (fin : ∀ σ s, I [] σ s → chk o all s ∧ N.nx σ s) : forGo tg o all (fun σ s N => xSs (Lv T k) B σ s N) N items σ s :=
  for_ind I (fun x r σ s h => step x r σ s _ h ⟨fun _ _ h => h, fun _ _ h => h, fun _ _ h => h, fun _ _ h => h, fun _ _ _ _ h => h⟩) fin items σ s h0
/-- an if, the condition by itself -/
theorem ss_ite {T : Nat → Option Fn} {k : Nat} {c : EX} {a b r : List ST} {σ : Sl} {s : Sto} {N : En} (P : Bool → Sto → Prop)
    (hc : xE (Lv T k) c σ s (fun x s1 => br (tru s1 x) (P true s1) (P false s1)) (fun e fs s1 => N.ex e fs σ s1))
    (ht : ∀ s1, P true s1 → xSs (Lv T k) a σ s1 { N with nx := fun σ s => xSs (Lv T k) r σ s N })
    (hf : ∀ s1, P false s1 → xSs (Lv T k) b σ s1 { N with nx := fun σ s => xSs (Lv T k) r σ s N }) : xSs (Lv T k) (.ite c a b :: r) σ s N := by
  show xE (Lv T k) c σ s _ _
  exact xE_mono (Lv_mono T k) c (fun x s1 h => br_mono h (ht s1) (hf s1)) (fun _ _ _ h => h) hc
section
variable {T : Nat → Option Fn} {j : Nat} {E : XQ}
/-- one of the items of a new list, by a draw -/
theorem pick_ok {did : Nat} (hD : T did = some drawFn) {b r : Nat} {xs : List D} {m : Int} {s : Sto} {Q : QE} (hs : Src b s r) (hb : b < 2 ^ 60) (hm : m = xs.length) (h0 : 0 < xs.length) (h1 : xs.length < 1000000)
    (h : ∀ v s', v ∈ xs → Kp (fun n => n = r) s s' → s.length < s'.length → Src (b + 1) s' r → Q v s') : Lv T (j + 1) did [.ref r, .int m] (s ++ [.lst xs]) (fun y s2 => xIx (.ref s.length) y s2 Q) E := by
  subst hm
  have hr : r < s.length := by
    obtain ⟨_, e, _⟩ := hs
    exact lt_of_get e
  refine draw_kp hD (hs.kp (R := fun _ => False) Kp.push (fun z => z)) hb (div_nat h0 (by omega)) fun v s' v0 v1 k l hs' => ?_
  refine ix_any (k.get _ _ (by omega) get_new) v0 v1 fun w hw => h w s' hw ((Kp.push (t := [.lst xs])).trans k) ?_ hs'
  simp at l
  omega
/-- a sign of a text, by a draw -/
theorem sign_ok {did : Nat} (hD : T did = some drawFn) {b r : Nat} {xs : List Nat} {m : Int} {s : Sto} {Q : QE} (hs : Src b s r) (hb : b < 2 ^ 60) (hm : m = xs.length) (h0 : 0 < xs.length) (h1 : xs.length < 1000000)
    (h : ∀ c s', c ∈ xs → Kp (fun n => n = r) s s' → Src (b + 1) s' r → Q (.str [c]) s') : Lv T (j + 1) did [.ref r, .int m] s (fun y s2 => xIx (.str xs) y s2 Q) E := by
  subst hm
  refine draw_kp hD hs hb (div_nat h0 (by omega)) fun v s' v0 v1 k l hs' => ?_
  obtain ⟨c, e, hc⟩ := atI_in v0 v1
  exact ix_str e (h c s' hc k hs')
end
theorem Src.lt {b : Nat} {s : Sto} {r : Nat} (h : Src b s r) : r < s.length := by
  obtain ⟨_, e, _⟩ := h
  exact lt_of_get e
theorem Src.push {b : Nat} {s : Sto} {r : Nat} {t : Sto} (h : Src b s r) : Src b (s ++ t) r := h.kp (R := fun _ => False) Kp.push (fun z => z)
theorem strI_len {i : Int} (h0 : 0 ≤ i) (h : i < 10 ^ 10) : (strI i).length ≤ 10 ∧ strI i ≠ [] := by
  have e : strI i = (toString i).toList.map Char.toNat := PyProof.Rows.signs_ofString (toString i)
  constructor
  · have := PyProof.Rows.toString_length_le h0 (k := 10) (by decide) h
    show (Str.ofString (toString i)).cps.toList.length ≤ 10
    rw [Array.length_toList]
    exact this
  · obtain ⟨n, rfl⟩ := Int.eq_ofNat_of_zero_le h0
    rw [e]
    show (n.repr).toList.map Char.toNat ≠ []
    rw [Nat.toList_repr]
    exact fun z => Nat.toDigits_ne_nil (List.map_eq_nil_iff.mp z)
theorem dv (n : Nat) (h : 0 < n ∧ n < 1000000 := by decide) : divOk (n : Int) := div_nat h.1 (by omega)
def strB (lo hi : Nat) : D → Bool
  | .str a => decide (lo ≤ a.length) && decide (a.length ≤ hi)
  | _ => false
theorem strB_of {lo hi : Nat} {x : D} {xs : List D} (hx : x ∈ xs) (h : xs.all (strB lo hi) = true) : ∃ a, x = .str a ∧ lo ≤ a.length ∧ a.length ≤ hi := by
  have := List.all_eq_true.mp h x hx
  cases x with
  | str a =>
    simp only [strB, Bool.and_eq_true, decide_eq_true_eq] at this
    exact ⟨a, rfl, this.1, this.2⟩
  | _ => simp [strB] at this
theorem size24 : sizeLine = 16777216 := rfl
end PX

namespace K00
open PySem PySem.Spec PyProof.Rows L2 PX
def topS (i : Nat) : Stmt := PySem.Challenge.pw_warmmill_k00_tokens_of_a_line.main.body.getD i (.Pass ⟨0, 0, 0, 0⟩)
def c_KEYWORDS : D := .tup [.str [102, 117, 110], .str [101, 110, 100], .str [105, 102], .str [101, 108, 115, 101], .str [119, 104, 105, 108, 101], .str [116, 114, 121], .str [99, 97, 116, 99, 104], .str [114, 101, 116, 117, 114, 110], .str [116, 104, 114, 111, 119], .str [115, 97, 121], .str [103, 111], .str [114, 101, 115, 116], .str [110, 101, 119], .str [110, 105, 108], .str [112, 117, 115, 104], .str [98, 105, 110, 100], .str [97, 115, 107], .str [108, 101, 110], .str [107, 105, 110, 100]]
def c_LETTERS : D := .str [97, 98, 99, 100, 101, 102, 103, 104, 105, 106, 107, 108, 109, 110, 111, 112, 113, 114, 115, 116, 117, 118, 119, 120, 121, 122]
def c_DIGITS : D := .str [48, 49, 50, 51, 52, 53, 54, 55, 56, 57]
def c_SIGNS : D := .str [40, 41, 91, 93, 46, 44, 43, 45, 42, 60, 61, 33]
def c_LONGEST_NAME : D := .int 8
def c_LONGEST_NUMBER : D := .int 3
def b_is_name_1_1 : List ST := [.ret (.and (.cmp .LtE (.blt .len [(.var 0)]) (.lit (K00.c_LONGEST_NAME))) (.cmp .NotIn (.var 0) (.lit (K00.c_KEYWORDS))))]
def b_is_name_2 : List ST := [.ret (.lit (.bl false))]
def b_is_name_1 : List ST := .ite (.or (.cmp .Eq (.var 0) (.lit (.str []))) (.cmp .NotIn (.ix (.var 0) (.lit (.int 0))) (.lit (K00.c_LETTERS)))) b_is_name_2 [] :: b_is_name_1_1
def d_is_name : DefT := ⟨"is_name", topS 7, ["word"], ["word"], ⟨1, 1, b_is_name_1⟩⟩
def b_is_number_1_2 : List ST := [.ret (.and (.chn .LtE .LtE (.lit (.int 1)) (.blt .len [(.var 0)]) (.lit (K00.c_LONGEST_NUMBER))) (.cmp .NotEq (.ix (.var 0) (.lit (.int 0))) (.lit (.str [48]))))]
def b_is_number_2 : List ST := [.ret (.lit (.bl true))]
def b_is_number_1_1 : List ST := .ite (.cmp .Eq (.var 0) (.lit (.str [48]))) b_is_number_2 [] :: b_is_number_1_2
def b_is_number_4 : List ST := [.ret (.lit (.bl false))]
def b_is_number_3 : List ST := [.ite (.cmp .NotIn (.var 1) (.lit (K00.c_DIGITS))) b_is_number_4 []]
def b_is_number_1 : List ST := .for_ (.nm 1) .seq [(.var 0)] b_is_number_3 :: b_is_number_1_1
def d_is_number : DefT := ⟨"is_number", topS 8, ["word", "char"], ["word"], ⟨1, 2, b_is_number_1⟩⟩
def b_word_end_1_1 : List ST := [.ret (.var 2)]
def b_word_end_2 : List ST := [.aug 2 .Add (.lit (.int 1))]
def b_word_end_1 : List ST := .asg (.nm 2) (.var 1) ::
  .whl (.and (.cmp .Lt (.var 2) (.blt .len [(.var 0)])) (.or (.cmp .In (.ix (.var 0) (.var 2)) (.lit (K00.c_LETTERS))) (.cmp .In (.ix (.var 0) (.var 2)) (.lit (K00.c_DIGITS))))) b_word_end_2 :: b_word_end_1_1
def d_word_end : DefT := ⟨"word_end", topS 9, ["line", "start", "end"], ["line", "start"], ⟨2, 3, b_word_end_1⟩⟩
def b_tokens_1_1 : List ST := [.ret (.blt .tuple [(.var 1)])]
def b_tokens_2_2 : List ST := [.asg (.nm 2) (.var 3)]
def b_tokens_3_1 : List ST := [.expr (.meth .append (.var 1) [(.var 4)])]
def b_tokens_4 : List ST := [.ret (.lit (.non))]
def b_tokens_3 : List ST := .asg (.nm 4) (.sl (.var 0) (.var 2) (.var 3)) ::
  .ite (.not (.or (.cmp .In (.var 4) (.lit (K00.c_KEYWORDS))) (.or (.call 0 [(.var 4)]) (.call 1 [(.var 4)])))) b_tokens_4 [] :: b_tokens_3_1
def b_tokens_6 : List ST := [.asg (.nm 3) (.bin .Add (.var 2) (.lit (.int 1)))]
def b_tokens_8_1 : List ST := [.expr (.meth .append (.var 1) [(.sl (.var 0) (.var 2) (.var 3))])]
def b_tokens_9 : List ST := [.asg (.nm 3) (.bin .Add (.var 2) (.lit (.int 2)))]
def b_tokens_8 : List ST := .asg (.nm 3) (.bin .Add (.var 2) (.lit (.int 1))) ::
  .ite (.cmp .Eq (.sl (.var 0) (.var 2) (.bin .Add (.var 2) (.lit (.int 2)))) (.lit (.str [61, 61]))) b_tokens_9 [] :: b_tokens_8_1
def b_tokens_10 : List ST := [.ret (.lit (.non))]
def b_tokens_7 : List ST := [.ite (.cmp .In (.ix (.var 0) (.var 2)) (.lit (K00.c_SIGNS))) b_tokens_8 b_tokens_10]
def b_tokens_5 : List ST := [.ite (.cmp .Eq (.ix (.var 0) (.var 2)) (.lit (.str [32]))) b_tokens_6 b_tokens_7]
def b_tokens_2_1 : List ST := .ite (.cmp .Gt (.var 3) (.var 2)) b_tokens_3 b_tokens_5 :: b_tokens_2_2
def b_tokens_2 : List ST := .asg (.nm 3) (.call 2 [(.var 0), (.var 2)]) :: b_tokens_2_1
def b_tokens_1 : List ST := .asg (.nm 1) (.lst []) ::
  .asg (.nm 2) (.lit (.int 0)) ::
  .whl (.cmp .Lt (.var 2) (.blt .len [(.var 0)])) b_tokens_2 :: b_tokens_1_1
def d_tokens : DefT := ⟨"tokens", topS 10, ["line", "found", "start", "end", "word"], ["line"], ⟨1, 5, b_tokens_1⟩⟩
def b_law_cell_1_1 : List ST := [.ret (.lit (.int 0))]
def b_law_cell_2 : List ST := [.ret (.blt .abs [(.blt .int [(.ix (.var 0) (.var 1))])])]
def b_law_cell_1 : List ST := .ite (.cmp .Lt (.var 1) (.blt .len [(.var 0)])) b_law_cell_2 [] :: b_law_cell_1_1
def d_law_cell : DefT := ⟨"_law_cell", topS 12, ["script", "k"], ["script", "k"], ⟨2, 2, b_law_cell_1⟩⟩
def b_law_src_1_2 : List ST := [.ret (.lst [(.lit (.int 0)), (.bin .Add (.var 2) (.bin .Mult (.lit (.int 1000)) (.var 1))), (.lit (.int 0))])]
def b_law_src_2 : List ST := [.ret (.lst [(.lit (.int 1)), (.bin .Sub (.var 2) (.bin .Pow (.lit (.int 10)) (.lit (.int 18)))), (.lit (.int 0))])]
def b_law_src_1_1 : List ST := .ite (.cmp .GtE (.var 2) (.bin .Pow (.lit (.int 10)) (.lit (.int 18)))) b_law_src_2 [] :: b_law_src_1_2
def b_law_src_1 : List ST := .asg (.nm 2) (.call 4 [(.var 0), (.var 1)]) :: b_law_src_1_1
def d_law_src : DefT := ⟨"_law_src", topS 13, ["script", "k", "cell"], ["script", "k"], ⟨2, 3, b_law_src_1⟩⟩
def b_law_draw_1_1 : List ST := [.aset (.var 0) (.lit (.int 2)) (.bin .Add (.ix (.var 0) (.lit (.int 2))) (.lit (.int 1))),
  .asg (.nm 3) (.bin .Mod (.blt .int [(.bin .Add (.bin .Add (.bin .Mult (.ix (.var 0) (.lit (.int 1))) (.lit (.int 48271))) (.bin .Mult (.ix (.var 0) (.lit (.int 2))) (.lit (.int 69621)))) (.lit (.int 11)))]) (.lit (.int 2147483647))),
  .asg (.nm 4) (.bin .Mod (.blt .int [(.bin .Add (.bin .Add (.bin .Mult (.var 3) (.var 3)) (.ix (.var 0) (.lit (.int 1)))) (.bin .Mult (.ix (.var 0) (.lit (.int 2))) (.lit (.int 40692))))]) (.lit (.int 2147483563))),
  .ret (.bin .Mod (.blt .int [(.bin .Add (.bin .FloorDiv (.bin .Mult (.var 4) (.var 4)) (.lit (.int 64))) (.var 3))]) (.var 1))]
def b_law_draw_2 : List ST := [.asg (.nm 2) (.bin .Mod (.blt .int [(.ix (.var 0) (.lit (.int 1)))]) (.var 1)),
  .aset (.var 0) (.lit (.int 1)) (.bin .FloorDiv (.ix (.var 0) (.lit (.int 1))) (.var 1)),
  .ret (.var 2)]
def b_law_draw_1 : List ST := .ite (.cmp .Eq (.ix (.var 0) (.lit (.int 0))) (.lit (.int 1))) b_law_draw_2 [] :: b_law_draw_1_1
def d_law_draw : DefT := ⟨"_law_draw", topS 14, ["src", "m", "got", "a", "b"], ["src", "m"], ⟨2, 5, b_law_draw_1⟩⟩
def b_law_word_1_2 : List ST := [.ret (.ix (.lst [(.lit (.str [])), (.lit (.str [110, 97, 109, 101]))]) (.blt .int [(.cmp .LtE (.blt .len [(.var 0)]) (.lit (.int 8)))]))]
def b_law_word_2 : List ST := [.ret (.lit (.str [107, 101, 112, 116]))]
def b_law_word_1_1 : List ST := .ite (.cmp .In (.bin .Add (.bin .Add (.lit (.str [32])) (.var 0)) (.lit (.str [32]))) (.var 1)) b_law_word_2 [] :: b_law_word_1_2
def b_law_word_3_1 : List ST := [.ret (.lit (.str [110, 117, 109, 98, 101, 114]))]
def l_law_word_1 : EX := (.var 2)
def i_law_word_1 : List EX := [(.cmp .NotIn (.var 2) (.lit (.str [48, 49, 50, 51, 52, 53, 54, 55, 56, 57])))]
def b_law_word_4 : List ST := [.ret (.lit (.str []))]
def b_law_word_3 : List ST := .ite (.or (.cmp .Gt (.blt .len [(.var 0)]) (.lit (.int 3))) (.or (.and (.cmp .Eq (.ix (.var 0) (.lit (.int 0))) (.lit (.str [48]))) (.cmp .NotEq (.var 0) (.lit (.str [48])))) (.cmp .NotEq (.lc [2] (.nm 2) .seq [(.var 0)] i_law_word_1 l_law_word_1) (.lst [])))) b_law_word_4 [] :: b_law_word_3_1
def b_law_word_1 : List ST := .asg (.nm 1) (.lit (.str [32, 102, 117, 110, 32, 101, 110, 100, 32, 105, 102, 32, 101, 108, 115, 101, 32, 119, 104, 105, 108, 101, 32, 116, 114, 121, 32, 99, 97, 116, 99, 104, 32, 114, 101, 116, 117, 114, 110, 32, 116, 104, 114, 111, 119, 32, 115, 97, 121, 32, 103, 111, 32, 114, 101, 115, 116, 32, 110, 101, 119, 32, 110, 105, 108, 32, 112, 117, 115, 104, 32, 98, 105, 110, 100, 32, 97, 115, 107, 32, 108, 101, 110, 32, 107, 105, 110, 100, 32])) ::
  .ite (.cmp .In (.ix (.var 0) (.lit (.int 0))) (.lit (.str [48, 49, 50, 51, 52, 53, 54, 55, 56, 57]))) b_law_word_3 [] :: b_law_word_1_1
def d_law_word : DefT := ⟨"_law_word", topS 15, ["word", "kept", "c"], ["word"], ⟨1, 3, b_law_word_1⟩⟩
def b_law_tokens_1_1 : List ST := [.ret (.var 2)]
def b_law_tokens_2_2 : List ST := [.asg (.nm 3) (.bin .Add (.var 3) (.var 4))]
def b_law_tokens_3 : List ST := [.expr (.meth .append (.var 2) [(.sl (.var 0) (.var 3) (.bin .Add (.var 3) (.var 4)))])]
def b_law_tokens_2_1 : List ST := .ite (.cmp .NotEq (.ix (.var 0) (.var 3)) (.lit (.str [32]))) b_law_tokens_3 [] :: b_law_tokens_2_2
def b_law_tokens_5 : List ST := [.ret (.lit (.non))]
def b_law_tokens_4_1 : List ST := [.ite (.cmp .Eq (.call 7 [(.sl (.var 0) (.var 3) (.bin .Add (.var 3) (.var 4)))]) (.lit (.str []))) b_law_tokens_5 []]
def b_law_tokens_6 : List ST := [.asg (.nm 4) (.bin .Add (.var 4) (.lit (.int 1)))]
def b_law_tokens_4 : List ST := .whl (.and (.cmp .Lt (.bin .Add (.var 3) (.var 4)) (.blt .len [(.var 0)])) (.cmp .In (.ix (.var 0) (.bin .Add (.var 3) (.var 4))) (.var 1))) b_law_tokens_6 :: b_law_tokens_4_1
def b_law_tokens_8 : List ST := [.asg (.nm 4) (.lit (.int 2))]
def b_law_tokens_10 : List ST := [.ret (.lit (.non))]
def b_law_tokens_9 : List ST := [.ite (.cmp .NotIn (.ix (.var 0) (.var 3)) (.lit (.str [32, 40, 41, 91, 93, 46, 44, 43, 45, 42, 60, 61, 33]))) b_law_tokens_10 []]
def b_law_tokens_7 : List ST := [.ite (.cmp .Eq (.sl (.var 0) (.var 3) (.bin .Add (.var 3) (.lit (.int 2)))) (.lit (.str [61, 61]))) b_law_tokens_8 b_law_tokens_9]
def b_law_tokens_2 : List ST := .asg (.nm 4) (.lit (.int 1)) ::
  .ite (.cmp .In (.ix (.var 0) (.var 3)) (.var 1)) b_law_tokens_4 b_law_tokens_7 :: b_law_tokens_2_1
def b_law_tokens_1 : List ST := .asg (.nm 1) (.lit (.str [97, 98, 99, 100, 101, 102, 103, 104, 105, 106, 107, 108, 109, 110, 111, 112, 113, 114, 115, 116, 117, 118, 119, 120, 121, 122, 48, 49, 50, 51, 52, 53, 54, 55, 56, 57])) ::
  .asg (.nm 2) (.lst []) ::
  .asg (.nm 3) (.lit (.int 0)) ::
  .whl (.cmp .Lt (.var 3) (.blt .len [(.var 0)])) b_law_tokens_2 :: b_law_tokens_1_1
def d_law_tokens : DefT := ⟨"_law_tokens", topS 16, ["line", "letters", "got", "k", "n"], ["line"], ⟨1, 5, b_law_tokens_1⟩⟩
def l_law_some_1 : EX := (.ix (.var 1) (.call 6 [(.var 0), (.blt .len [(.var 1)])]))
def i_law_some_1 : List EX := []
def b_law_some_1 : List ST := [.ret (.meth .join (.lit (.str [])) [(.lc [3] (.nm 3) .rng1 [(.var 2)] i_law_some_1 l_law_some_1)])]
def d_law_some : DefT := ⟨"_law_some", topS 17, ["src", "signs", "count", "k"], ["src", "signs", "count"], ⟨3, 4, b_law_some_1⟩⟩
def b_law_wild_1_4 : List ST := [.asg (.nm 4) (.lit (.str [34, 35, 36, 38, 39, 47, 58, 59, 62, 63, 64, 65, 66, 67, 68, 69, 70, 71, 72, 73, 74, 75, 76, 77, 78, 79, 80, 81, 82, 83, 84, 85, 86, 87, 88, 89, 90, 92, 94, 95, 96, 123, 124, 125, 126])),
  .ret (.call 9 [(.var 0), (.var 4), (.lit (.int 1))])]
def b_law_wild_2 : List ST := [.asg (.nm 3) (.lst [(.lit (.str [102, 117, 110])), (.lit (.str [101, 110, 100])), (.lit (.str [105, 102])), (.lit (.str [101, 108, 115, 101])), (.lit (.str [119, 104, 105, 108, 101])), (.lit (.str [116, 114, 121])), (.lit (.str [99, 97, 116, 99, 104])), (.lit (.str [114, 101, 116, 117, 114, 110])), (.lit (.str [116, 104, 114, 111, 119])), (.lit (.str [115, 97, 121])), (.lit (.str [103, 111])), (.lit (.str [114, 101, 115, 116])), (.lit (.str [110, 101, 119]))]),
  .asg (.nm 3) (.bin .Add (.var 3) (.lst [(.lit (.str [110, 105, 108])), (.lit (.str [112, 117, 115, 104])), (.lit (.str [98, 105, 110, 100])), (.lit (.str [97, 115, 107])), (.lit (.str [108, 101, 110])), (.lit (.str [107, 105, 110, 100]))])),
  .ret (.bin .Add (.ix (.var 3) (.call 6 [(.var 0), (.lit (.int 19))])) (.call 9 [(.var 0), (.var 1), (.lit (.int 1))]))]
def b_law_wild_1_3 : List ST := .ite (.cmp .Eq (.var 2) (.lit (.int 2))) b_law_wild_2 [] :: b_law_wild_1_4
def b_law_wild_3 : List ST := [.ret (.call 9 [(.var 0), (.lit (.str [48, 49, 50, 51, 52, 53, 54, 55, 56, 57])), (.bin .Add (.lit (.int 1)) (.call 6 [(.var 0), (.lit (.int 4))]))])]
def b_law_wild_1_2 : List ST := .ite (.cmp .Eq (.var 2) (.lit (.int 1))) b_law_wild_3 [] :: b_law_wild_1_3
def b_law_wild_4 : List ST := [.ret (.call 9 [(.var 0), (.var 1), (.ix (.lst [(.bin .Add (.lit (.int 1)) (.call 6 [(.var 0), (.lit (.int 10))])), (.bin .Add (.lit (.int 8)) (.call 6 [(.var 0), (.lit (.int 2))]))]) (.call 6 [(.var 0), (.lit (.int 2))]))])]
def b_law_wild_1_1 : List ST := .ite (.cmp .Eq (.var 2) (.lit (.int 0))) b_law_wild_4 [] :: b_law_wild_1_2
def b_law_wild_1 : List ST := .asg (.nm 1) (.lit (.str [97, 98, 99, 100, 101, 102, 103, 104, 105, 106, 107, 108, 109, 110, 111, 112, 113, 114, 115, 116, 117, 118, 119, 120, 121, 122, 48, 49, 50, 51, 52, 53, 54, 55, 56, 57])) ::
  .asg (.nm 2) (.call 6 [(.var 0), (.lit (.int 4))]) :: b_law_wild_1_1
def d_law_wild : DefT := ⟨"_law_wild", topS 18, ["src", "letters", "pick", "words", "others"], ["src"], ⟨1, 5, b_law_wild_1⟩⟩
def b_law_piece_1_5 : List ST := [.ret (.bin .Add (.var 4) (.call 9 [(.var 0), (.var 1), (.ix (.lst [(.lit (.int 0)), (.lit (.int 1)), (.lit (.int 7)), (.call 6 [(.var 0), (.lit (.int 8))])]) (.call 6 [(.var 0), (.lit (.int 4))]))]))]
def b_law_piece_1_4 : List ST := .asg (.nm 4) (.call 9 [(.var 0), (.sl (.var 1) (.lit (.kd 0)) (.lit (.int 26))), (.lit (.int 1))]) :: b_law_piece_1_5
def b_law_piece_2 : List ST := [.ret (.blt .str [(.ix (.lst [(.call 6 [(.var 0), (.lit (.int 12))]), (.call 6 [(.var 0), (.lit (.int 1000))])]) (.call 6 [(.var 0), (.lit (.int 2))]))])]
def b_law_piece_1_3 : List ST := .ite (.cmp .Eq (.var 2) (.lit (.int 5))) b_law_piece_2 [] :: b_law_piece_1_4
def b_law_piece_3 : List ST := [.asg (.nm 3) (.lst [(.lit (.str [102, 117, 110])), (.lit (.str [101, 110, 100])), (.lit (.str [105, 102])), (.lit (.str [101, 108, 115, 101])), (.lit (.str [119, 104, 105, 108, 101])), (.lit (.str [116, 114, 121])), (.lit (.str [99, 97, 116, 99, 104])), (.lit (.str [114, 101, 116, 117, 114, 110])), (.lit (.str [116, 104, 114, 111, 119])), (.lit (.str [115, 97, 121])), (.lit (.str [103, 111])), (.lit (.str [114, 101, 115, 116])), (.lit (.str [110, 101, 119]))]),
  .asg (.nm 3) (.bin .Add (.var 3) (.lst [(.lit (.str [110, 105, 108])), (.lit (.str [112, 117, 115, 104])), (.lit (.str [98, 105, 110, 100])), (.lit (.str [97, 115, 107])), (.lit (.str [108, 101, 110])), (.lit (.str [107, 105, 110, 100]))])),
  .ret (.ix (.var 3) (.call 6 [(.var 0), (.lit (.int 19))]))]
def b_law_piece_1_2 : List ST := .ite (.cmp .Eq (.var 2) (.lit (.int 4))) b_law_piece_3 [] :: b_law_piece_1_3
def b_law_piece_4 : List ST := [.ret (.ix (.lst [(.lit (.str [40])), (.lit (.str [41])), (.lit (.str [91])), (.lit (.str [93])), (.lit (.str [46])), (.lit (.str [44])), (.lit (.str [43])), (.lit (.str [45])), (.lit (.str [42])), (.lit (.str [60])), (.lit (.str [61])), (.lit (.str [33])), (.lit (.str [61, 61]))]) (.call 6 [(.var 0), (.lit (.int 13))]))]
def b_law_piece_1_1 : List ST := .ite (.cmp .Lt (.var 2) (.lit (.int 4))) b_law_piece_4 [] :: b_law_piece_1_2
def b_law_piece_1 : List ST := .asg (.nm 1) (.lit (.str [97, 98, 99, 100, 101, 102, 103, 104, 105, 106, 107, 108, 109, 110, 111, 112, 113, 114, 115, 116, 117, 118, 119, 120, 121, 122, 48, 49, 50, 51, 52, 53, 54, 55, 56, 57])) ::
  .asg (.nm 2) (.call 6 [(.var 0), (.lit (.int 8))]) :: b_law_piece_1_1
def d_law_piece : DefT := ⟨"_law_piece", topS 19, ["src", "letters", "pick", "words", "first"], ["src"], ⟨1, 5, b_law_piece_1⟩⟩
def b_law_line_1_2 : List ST := [.ret (.bin .Add (.var 3) (.bin .Mult (.lit (.str [32])) (.call 6 [(.var 0), (.lit (.int 2))])))]
def b_law_line_2_4 : List ST := [.asg (.nm 3) (.bin .Add (.bin .Add (.var 3) (.bin .Mult (.lit (.str [32])) (.var 5))) (.var 6))]
def b_law_line_3 : List ST := [.asg (.nm 5) (.lit (.int 1))]
def b_law_line_2_3 : List ST := .ite (.and (.not (.var 1)) (.and (.cmp .Eq (.var 5) (.lit (.int 0))) (.and (.cmp .NotEq (.var 3) (.lit (.str []))) (.and (.cmp .In (.ix (.var 3) (.neg (.lit (.int 1)))) (.var 2)) (.cmp .In (.ix (.var 6) (.lit (.int 0))) (.var 2)))))) b_law_line_3 [] :: b_law_line_2_4
def b_law_line_4 : List ST := [.asg (.nm 6) (.call 10 [(.var 0)])]
def b_law_line_2_2 : List ST := .ite (.and (.var 1) (.cmp .Eq (.call 6 [(.var 0), (.lit (.int 4))]) (.lit (.int 3)))) b_law_line_4 [] :: b_law_line_2_3
def b_law_line_2_1 : List ST := .asg (.nm 6) (.call 11 [(.var 0)]) :: b_law_line_2_2
def b_law_line_2 : List ST := .asg (.nm 5) (.ix (.lst [(.lit (.int 0)), (.lit (.int 0)), (.lit (.int 1)), (.lit (.int 2))]) (.call 6 [(.var 0), (.lit (.int 4))])) :: b_law_line_2_1
def b_law_line_1_1 : List ST := .for_ (.nm 4) .rng1 [(.ix (.lst [(.call 6 [(.var 0), (.lit (.int 8))]), (.call 6 [(.var 0), (.lit (.int 21))])]) (.call 6 [(.var 0), (.lit (.int 2))]))] b_law_line_2 :: b_law_line_1_2
def b_law_line_1 : List ST := .asg (.nm 2) (.lit (.str [97, 98, 99, 100, 101, 102, 103, 104, 105, 106, 107, 108, 109, 110, 111, 112, 113, 114, 115, 116, 117, 118, 119, 120, 121, 122, 48, 49, 50, 51, 52, 53, 54, 55, 56, 57])) ::
  .asg (.nm 3) (.bin .Mult (.lit (.str [32])) (.call 6 [(.var 0), (.lit (.int 2))])) :: b_law_line_1_1
def d_law_line : DefT := ⟨"_law_line", topS 20, ["src", "wild", "letters", "line", "n", "gap", "piece"], ["src", "wild"], ⟨2, 7, b_law_line_1⟩⟩
def b_law_agrees_1_3 : List ST := [.ret (.and (.blt (.isi 3) [(.var 2)]) (.cmp .Eq (.var 2) (.blt .tuple [(.var 1)])))]
def b_law_agrees_2 : List ST := [.ret (.cmp .Is (.var 2) (.lit (.non)))]
def b_law_agrees_1_2 : List ST := .ite (.cmp .Is (.var 1) (.lit (.non))) b_law_agrees_2 [] :: b_law_agrees_1_3
def b_law_agrees_1_1 : List ST := .asg (.nm 2) (.call 3 [(.var 0)]) :: b_law_agrees_1_2
def b_law_agrees_1 : List ST := .asg (.nm 1) (.call 8 [(.var 0)]) :: b_law_agrees_1_1
def d_law_agrees : DefT := ⟨"_law_agrees", topS 21, ["line", "due", "told"], ["line"], ⟨1, 3, b_law_agrees_1⟩⟩
def b_law_1_6 : List ST := [.ret (.lit (.bl true))]
def b_law_3 : List ST := [.ret (.lit (.bl false))]
def b_law_2 : List ST := [.ite (.not (.call 13 [(.var 7)])) b_law_3 []]
def b_law_1_5 : List ST := .for_ (.nm 7) .seq [(.lst [(.var 3), (.sl (.var 3) (.lit (.kd 0)) (.var 6)), (.sl (.var 3) (.var 6) (.lit (.kd 0))), (.var 3)])] b_law_2 :: b_law_1_6
def b_law_1_4 : List ST := .asg (.nm 6) (.call 6 [(.call 5 [(.var 0), (.lit (.int 2))]), (.bin .Add (.blt .len [(.var 3)]) (.lit (.int 1)))]) :: b_law_1_5
def b_law_4 : List ST := [.asg (.nm 3) (.call 12 [(.var 1), (.cmp .Eq (.var 2) (.lit (.int 2)))])]
def b_law_5_1 : List ST := [.asg (.nm 3) (.call 9 [(.var 1), (.var 4), (.ix (.lst [(.call 6 [(.var 1), (.lit (.int 9))]), (.call 6 [(.var 1), (.lit (.int 61))])]) (.call 6 [(.var 1), (.lit (.int 2))]))])]
def b_law_5 : List ST := .asg (.nm 4) (.lit (.str [32, 33, 34, 35, 36, 38, 39, 40, 41, 42, 43, 44, 45, 46, 47, 48, 49, 50, 51, 52, 53, 54, 55, 56, 57, 58, 59, 60, 61, 62, 63, 64, 65, 66, 67, 68, 69, 70, 71, 72, 73, 74, 75, 76, 77, 78, 79, 80, 81, 82, 83, 84, 85, 86, 87, 88, 89, 90, 91, 92, 93, 94, 95, 96])) ::
  .asg (.nm 4) (.bin .Add (.var 4) (.lit (.str [97, 98, 99, 100, 101, 102, 103, 104, 105, 106, 107, 108, 109, 110, 111, 112, 113, 114, 115, 116, 117, 118, 119, 120, 121, 122, 123, 124, 125, 126]))) ::
  .asg (.nm 5) (.lit (.str [97, 98, 99, 100, 101, 102, 103, 104, 105, 106, 107, 108, 109, 110, 111, 112, 113, 114, 115, 116, 117, 118, 119, 120, 121, 122, 48, 49, 50, 51, 52, 53, 54, 55, 56, 57, 32, 40, 41, 91, 93, 46, 44, 43, 45, 42, 60, 61, 33])) ::
  .asg (.nm 4) (.ix (.lst [(.var 4), (.var 5), (.lit (.str [97, 48, 61, 49, 32, 60]))]) (.call 6 [(.var 1), (.lit (.int 3))])) :: b_law_5_1
def b_law_1_3 : List ST := .ite (.cmp .Lt (.var 2) (.lit (.int 3))) b_law_4 b_law_5 :: b_law_1_4
def b_law_1_2 : List ST := .asg (.nm 1) (.call 5 [(.var 0), (.lit (.int 1))]) :: b_law_1_3
def b_law_1_1 : List ST := .asg (.nm 2) (.call 6 [(.var 1), (.lit (.int 4))]) :: b_law_1_2
def b_law_1 : List ST := .asg (.nm 1) (.call 5 [(.var 0), (.lit (.int 0))]) :: b_law_1_1
def d_law : DefT := ⟨"law", topS 22, ["script", "src", "pick", "line", "signs", "few", "cut", "part"], ["script"], ⟨1, 8, b_law_1⟩⟩
def tbl : List DefT := [d_is_name, d_is_number, d_word_end, d_tokens, d_law_cell, d_law_src, d_law_draw, d_law_word, d_law_tokens, d_law_some, d_law_wild, d_law_piece, d_law_line, d_law_agrees, d_law]
def gl : List (Str × GE) := [("is_name", .fn 0 1), ("is_number", .fn 1 1), ("word_end", .fn 2 2), ("tokens", .fn 3 1), ("_law_cell", .fn 4 2), ("_law_src", .fn 5 2), ("_law_draw", .fn 6 2), ("_law_word", .fn 7 1), ("_law_tokens", .fn 8 1), ("_law_some", .fn 9 3), ("_law_wild", .fn 10 1), ("_law_piece", .fn 11 1), ("_law_line", .fn 12 2), ("_law_agrees", .fn 13 1), ("law", .fn 14 1), ("KEYWORDS", .cst c_KEYWORDS), ("LETTERS", .cst c_LETTERS), ("DIGITS", .cst c_DIGITS), ("SIGNS", .cst c_SIGNS), ("LONGEST_NAME", .cst c_LONGEST_NAME), ("LONGEST_NUMBER", .cst c_LONGEST_NUMBER), ("abs", .blt), ("int", .blt), ("isinstance", .blt), ("len", .blt), ("range", .blt), ("str", .blt), ("tuple", .blt)]
theorem o_is_name : DefOk gl d_is_name := ⟨⟨rfl, rfl, rfl, by decide +kernel, rfl, by decide +kernel, by decide +kernel⟩, by kernel_rfl, rfl, rfl, fun _ _ _ _ _ _ us hl => match us, hl with | [_], _ => rfl⟩
theorem o_is_number : DefOk gl d_is_number := ⟨⟨rfl, rfl, rfl, by decide +kernel, rfl, by decide +kernel, by decide +kernel⟩, by kernel_rfl, rfl, rfl, fun _ _ _ _ _ _ us hl => match us, hl with | [_], _ => rfl⟩
theorem o_word_end : DefOk gl d_word_end := ⟨⟨rfl, rfl, rfl, by decide +kernel, rfl, by decide +kernel, by decide +kernel⟩, by kernel_rfl, rfl, rfl, fun _ _ _ _ _ _ us hl => match us, hl with | [_, _], _ => rfl⟩
theorem o_tokens : DefOk gl d_tokens := ⟨⟨rfl, rfl, rfl, by decide +kernel, rfl, by decide +kernel, by decide +kernel⟩, by kernel_rfl, rfl, rfl, fun _ _ _ _ _ _ us hl => match us, hl with | [_], _ => rfl⟩
theorem o_law_cell : DefOk gl d_law_cell := ⟨⟨rfl, rfl, rfl, by decide +kernel, rfl, by decide +kernel, by decide +kernel⟩, by kernel_rfl, rfl, rfl, fun _ _ _ _ _ _ us hl => match us, hl with | [_, _], _ => rfl⟩
theorem o_law_src : DefOk gl d_law_src := ⟨⟨rfl, rfl, rfl, by decide +kernel, rfl, by decide +kernel, by decide +kernel⟩, by kernel_rfl, rfl, rfl, fun _ _ _ _ _ _ us hl => match us, hl with | [_, _], _ => rfl⟩
theorem o_law_draw : DefOk gl d_law_draw := ⟨⟨rfl, rfl, rfl, by decide +kernel, rfl, by decide +kernel, by decide +kernel⟩, by kernel_rfl, rfl, rfl, fun _ _ _ _ _ _ us hl => match us, hl with | [_, _], _ => rfl⟩
theorem o_law_word : DefOk gl d_law_word := ⟨⟨rfl, rfl, rfl, by decide +kernel, rfl, by decide +kernel, by decide +kernel⟩, by kernel_rfl, rfl, rfl, fun _ _ _ _ _ _ us hl => match us, hl with | [_], _ => rfl⟩
theorem o_law_tokens : DefOk gl d_law_tokens := ⟨⟨rfl, rfl, rfl, by decide +kernel, rfl, by decide +kernel, by decide +kernel⟩, by kernel_rfl, rfl, rfl, fun _ _ _ _ _ _ us hl => match us, hl with | [_], _ => rfl⟩
theorem o_law_some : DefOk gl d_law_some := ⟨⟨rfl, rfl, rfl, by decide +kernel, rfl, by decide +kernel, by decide +kernel⟩, by kernel_rfl, rfl, rfl, fun _ _ _ _ _ _ us hl => match us, hl with | [_, _, _], _ => rfl⟩
theorem o_law_wild : DefOk gl d_law_wild := ⟨⟨rfl, rfl, rfl, by decide +kernel, rfl, by decide +kernel, by decide +kernel⟩, by kernel_rfl, rfl, rfl, fun _ _ _ _ _ _ us hl => match us, hl with | [_], _ => rfl⟩
theorem o_law_piece : DefOk gl d_law_piece := ⟨⟨rfl, rfl, rfl, by decide +kernel, rfl, by decide +kernel, by decide +kernel⟩, by kernel_rfl, rfl, rfl, fun _ _ _ _ _ _ us hl => match us, hl with | [_], _ => rfl⟩
theorem o_law_line : DefOk gl d_law_line := ⟨⟨rfl, rfl, rfl, by decide +kernel, rfl, by decide +kernel, by decide +kernel⟩, by kernel_rfl, rfl, rfl, fun _ _ _ _ _ _ us hl => match us, hl with | [_, _], _ => rfl⟩
theorem o_law_agrees : DefOk gl d_law_agrees := ⟨⟨rfl, rfl, rfl, by decide +kernel, rfl, by decide +kernel, by decide +kernel⟩, by kernel_rfl, rfl, rfl, fun _ _ _ _ _ _ us hl => match us, hl with | [_], _ => rfl⟩
theorem o_law : DefOk gl d_law := ⟨⟨rfl, rfl, rfl, by decide +kernel, rfl, by decide +kernel, by decide +kernel⟩, by kernel_rfl, rfl, rfl, fun _ _ _ _ _ _ us hl => match us, hl with | [_], _ => rfl⟩
end K00

namespace K00
open PySem PX
def KW : List (List Nat) := [[102, 117, 110], [101, 110, 100], [105, 102], [101, 108, 115, 101], [119, 104, 105, 108, 101], [116, 114, 121], [99, 97, 116, 99, 104], [114, 101, 116, 117, 114, 110], [116, 104, 114, 111, 119], [115, 97, 121], [103, 111], [114, 101, 115, 116], [110, 101, 119], [110, 105, 108], [112, 117, 115, 104], [98, 105, 110, 100], [97, 115, 107], [108, 101, 110], [107, 105, 110, 100]]
def LET : List Nat := [97, 98, 99, 100, 101, 102, 103, 104, 105, 106, 107, 108, 109, 110, 111, 112, 113, 114, 115, 116, 117, 118, 119, 120, 121, 122]
def DIG : List Nat := [48, 49, 50, 51, 52, 53, 54, 55, 56, 57]
def SIG : List Nat := [40, 41, 91, 93, 46, 44, 43, 45, 42, 60, 61, 33]
theorem c_kw : c_KEYWORDS = .tup (KW.map .str) := rfl
theorem c_let : c_LETTERS = .str LET := rfl
theorem c_dig : c_DIGITS = .str DIG := rfl
theorem c_sig : c_SIGNS = .str SIG := rfl
def nameB (w : List Nat) : Bool := match w with
  | [] => false
  | c :: r => decide (c ∈ LET) && (decide ((c :: r).length ≤ 8) && !decide (c :: r ∈ KW))
def numB (w : List Nat) : Bool := w.all (fun c => decide (c ∈ DIG)) && (decide (w = [48]) || (decide (1 ≤ w.length) && (decide (w.length ≤ 3) && !decide (w.head? = some 48))))
section
variable {j : Nat} {E : XQ}
theorem name_ok {w : List Nat} {s : Sto} {Q : QE} (h : Q (.bl (nameB w)) s) : Lv (Tof tbl) (j + 1) 0 [.str w] s Q E := by
  refine lv_in (fn := d_is_name.fn) rfl rfl ?_
  dsimp only [d_is_name, b_is_name_1, b_is_name_1_1, b_is_name_2, c_LONGEST_NAME]
  rw [c_kw, c_let]
  walk_at "run"
  refine br_dec (fun e => br_yes e ?_) (fun e => ?_)
  · subst e; exact h
  · cases w with
    | nil => exact absurd rfl e
    | cons c r =>
      refine ix_str atI_z ?_
      walk_at "run"
      rw [sub_one]
      refine br_ndec (fun hc => ?_) (fun hc => ?_)
      · unfold nameB at h
        simp only [hc, decide_false, Bool.false_and] at h
        exact h
      · refine br_dec (fun hl => ?_) (fun hl => ?_)
        · rw [cnin_strs]
          unfold nameB at h
          have hl' : (c :: r).length ≤ 8 := by simp only [List.length_cons] at hl ⊢; omega
          simp only [hc, decide_true, Bool.true_and, hl'] at h
          exact h
        · unfold nameB at h
          have hl' : ¬ (c :: r).length ≤ 8 := by simp only [List.length_cons] at hl ⊢; omega
          have hl2 : ¬ (((r.length + 1 : Nat) : Int) ≤ 8) := by simp only [List.length_cons] at hl'; omega
          simp only [hl', hl2, decide_false, Bool.false_and, Bool.and_false] at h ⊢
          exact h
theorem num_ok {w : List Nat} {s : Sto} {Q : QE} (h : Q (.bl (numB w)) s) : Lv (Tof tbl) (j + 1) 1 [.str w] s Q E := by
  refine lv_in (fn := d_is_number.fn) rfl rfl ?_
  dsimp only [d_is_number, b_is_number_1]
  walk_at "run"
  unfold numB at h
  refine for_ind (I := fun items σ s' => s' = s ∧ ∃ (r : List Nat) (x : Option D), items = r.map (fun c => .str [c]) ∧ σ = [some (.str w), x] ∧ ∃ p, w = p ++ r ∧ p.all (fun c => decide (c ∈ DIG)) = true) ?_ ?_ _ _ _ ?_
  · rintro x r σ s' ⟨rfl, r0, y, e1, rfl, p, e2, hp⟩
    cases r0 with
    | nil => cases e1
    | cons c r0 =>
      cases e1
      refine ⟨trivial, ?_⟩
      unfold b_is_number_3 b_is_number_4
      rw [c_dig]
      walk_at "run"
      rw [sub_one]
      refine br_ndec (fun hc => ?_) (fun hc => ?_)
      · have : w.all (fun c => decide (c ∈ DIG)) = false := by
          rw [e2, List.all_append, List.all_cons]
          simp [hc]
        rw [this] at h
        exact h
      · exact ⟨rfl, r0, _, rfl, rfl, p ++ [c], by simp [e2], by simp [List.all_append, hp, hc]⟩
  · rintro σ s' ⟨rfl, r0, y, e1, rfl, p, e2, hp⟩
    have : r0 = [] := by
      cases r0 with
      | nil => rfl
      | cons c r0 => cases e1
    subst this
    rw [List.append_nil] at e2
    subst e2
    rw [hp, Bool.true_and] at h
    refine ⟨trivial, ?_⟩
    unfold b_is_number_1_1 b_is_number_1_2 b_is_number_2 c_LONGEST_NUMBER
    walk_at "run"
    refine br_dec (fun e => ?_) (fun e => ?_)
    · rw [decide_eq_true e] at h; exact h
    · rw [decide_eq_false e, Bool.false_or] at h
      refine br_dec (fun e1 => ?_) (fun e1 => ?_)
      · have e1' : 1 ≤ w.length := by omega
        rw [decide_eq_true e1', Bool.true_and] at h
        refine br_dec (fun e2 => ?_) (fun e2 => ?_)
        · have e2' : w.length ≤ 3 := by omega
          rw [decide_eq_true e2', Bool.true_and] at h
          cases w with
          | nil => cases e1'
          | cons c r =>
            refine ix_str atI_z ?_
            walk_at "run"
            simpa using h
        · have e2' : ¬ w.length ≤ 3 := by omega
          rw [decide_eq_false e2', Bool.false_and] at h
          have e3 : ¬ ((w.length : Int) ≤ 3) := e2
          simpa [e3] using h
      · have e1' : ¬ 1 ≤ w.length := by omega
        rw [decide_eq_false e1', Bool.false_and] at h
        exact h
  · exact ⟨rfl, w, _, rfl, rfl, [], rfl, rfl⟩
def aln (c : Nat) : Bool := decide (c ∈ LET) || decide (c ∈ DIG)
theorem drop_get {α : Type} {a : List α} {k : Nat} {c : α} {r : List α} (h : a.drop k = c :: r) : a[k]? = some c ∧ k < a.length ∧ a.drop (k + 1) = r := by
  have e : a[k]? = (a.drop k)[0]? := by rw [List.getElem?_drop]; rfl
  refine ⟨by rw [e, h]; rfl, ?_, ?_⟩
  · have := congrArg List.length h
    simp only [List.length_drop, List.length_cons] at this
    omega
  · rw [← List.drop_drop, h]; rfl
theorem end_ok {a : List Nat} {k : Nat} (hk : k ≤ a.length) {s : Sto} {Q : QE} (h : Q (.int ((k + ((a.drop k).takeWhile aln).length : Nat) : Int)) s) : Lv (Tof tbl) (j + 1) 2 [.str a, .int k] s Q E := by
  refine lv_in (fn := d_word_end.fn) rfl rfl ?_
  dsimp only [d_word_end, b_word_end_1]
  rw [c_let, c_dig]
  walk_at "run"
  refine ⟨fun m σ s' => s' = s ∧ ∃ i : Nat, i ≤ a.length ∧ m = a.length - i ∧ σ = [some (.str a), some (.int k), some (.int i)] ∧ k + ((a.drop k).takeWhile aln).length = i + ((a.drop i).takeWhile aln).length, ⟨_, rfl, k, hk, rfl, rfl, rfl⟩, ?_⟩
  rintro m σ s' ⟨rfl, i, hi, rfl, rfl, e⟩
  unfold b_word_end_2 b_word_end_1_1
  walk_at "run"
  have fin : (∀ c r, a.drop i = c :: r → aln c = false) → Q (.int i) s' := fun hn => by
    have : ((a.drop i).takeWhile aln) = [] := by
      cases hd : a.drop i with
      | nil => rfl
      | cons c r => rw [List.takeWhile_cons, hn c r hd]; rfl
    rw [e, this] at h
    exact h
  have nxt : ∀ c r, a.drop i = c :: r → aln c = true → ∃ m', m' < a.length - i ∧ s' = s' ∧ ∃ i' : Nat, i' ≤ a.length ∧ m' = a.length - i' ∧ [some (.str a), some (.int k), some (.int (i + 1))] = [some (.str a), some (.int k), some (D.int i')] ∧ k + ((a.drop k).takeWhile aln).length = i' + ((a.drop i').takeWhile aln).length := fun c r hd hc => by
    obtain ⟨h1, h2, h3⟩ := drop_get hd
    refine ⟨_, ?_, rfl, i + 1, by omega, rfl, rfl, ?_⟩
    · omega
    · rw [e, hd, List.takeWhile_cons, if_pos hc, h3, List.length_cons]
      omega
  cases hd : a.drop i with
  | nil =>
    have : a.length ≤ i := by
      have := congrArg List.length hd
      simp only [List.length_drop, List.length_nil] at this
      omega
    refine br_no (by omega) (br_no (by omega) ?_)
    exact fin fun c r e => by rw [hd] at e; cases e
  | cons c r =>
    obtain ⟨h1, h2, h3⟩ := drop_get hd
    refine br_yes (by omega) ?_
    refine ix_str (c := c) (by rw [atI_k, h1]) ?_
    walk_at "run"
    rw [sub_one]
    refine br_dec (fun hc => br_yes hc ?_) (fun hc => ?_)
    · exact nxt c r hd (by simp [aln, hc])
    · refine ix_str (c := c) (by rw [atI_k, h1]) ?_
      walk_at "run"
      rw [sub_one]
      refine br_dec (fun hd' => ?_) (fun hd' => ?_)
      · exact nxt c r hd (by simp [aln, hd'])
      · exact fin fun c' r' e => by
          rw [hd] at e
          cases e
          simp [aln, hc, hd']
theorem tw_take (p : Nat → Bool) : ∀ l : List Nat, l.take (l.takeWhile p).length = l.takeWhile p
  | [] => rfl
  | c :: r => by
    rw [List.takeWhile_cons]
    split
    · rw [List.length_cons, List.take_succ_cons, tw_take p r]
    · rfl
theorem tw_drop (p : Nat → Bool) : ∀ l : List Nat, l.drop (l.takeWhile p).length = l.dropWhile p
  | [] => rfl
  | c :: r => by
    rw [List.takeWhile_cons, List.dropWhile_cons]
    split
    · rw [List.length_cons, List.drop_succ_cons, tw_drop p r]
    · rfl
def okW (w : List Nat) : Bool := decide (w ∈ KW) || (nameB w || numB w)
def tk : Nat → List Nat → Option (List (List Nat))
  | 0, _ => some []
  | _, [] => some []
  | n + 1, c :: r =>
    if aln c = true then (if okW ((c :: r).takeWhile aln) = true then (tk n ((c :: r).dropWhile aln)).map ((c :: r).takeWhile aln :: ·) else none)
    else if c = 32 then tk n r
    else if c ∈ SIG then (if (c :: r).take 2 = [61, 61] then (tk n (r.drop 1)).map ([61, 61] :: ·) else (tk n r).map ([c] :: ·))
    else none
theorem tk_nil : ∀ n, tk n [] = some []
  | 0 => rfl
  | _ + 1 => rfl
def tokD : Option (List (List Nat)) → D
  | none => .non
  | some l => .tup (l.map .str)
/-- what holds before each turn of tokens -/
def TI (a : List Nat) (s : Sto) (m : Nat) (σ : Sl) (s' : Sto) : Prop := ∃ i : Nat, i ≤ a.length ∧ m = a.length - i ∧ ∃ x3 x4 got n, σ = [some (.str a), some (.ref s.length), some (.int i), x3, x4] ∧ s'[s.length]? = some (.lst (got.map .str)) ∧ got.length ≤ i ∧ Kp (fun n => n = s.length) s s' ∧ a.length - i ≤ n ∧ tk a.length a = (tk n (a.drop i)).map (got ++ ·)
theorem tok_ok {a : List Nat} (hl : a.length ≤ 100000) {s : Sto} {Q : QE} (h : ∀ s', Kp (fun _ => False) s s' → Q (tokD (tk a.length a)) s') : Lv (Tof tbl) (j + 2) 3 [.str a] s Q E := by
  refine lv_in (fn := d_tokens.fn) rfl rfl ?_
  dsimp only [d_tokens, b_tokens_1]
  walk_at "run"
  refine ⟨by decide, ?_⟩
  refine whl_of (TI a s) _ ⟨0, by omega, rfl, none, none, [], a.length, rfl, get_new, by simp, Kp.push, by omega, by simp⟩ ?_
  rintro m σ s' N ⟨i, hi, rfl, x3, x4, got, n, rfl, hg, hgl, kp, hn, ht⟩ hN
  have done : ∀ s'', Kp (fun n => n = s.length) s' s'' → Q (tokD (tk a.length a)) s'' := fun s'' k2 => h s'' ((kp.trans k2).mono fun n hn e => by omega)
  unfold b_tokens_2 b_tokens_1_1
  walk_at "run"
  refine br_dec (fun hlt => ?_) (fun hge => ?_)
  case refine_2 =>
    have : a.length ≤ i := by omega
    rw [List.drop_of_length_le this, tk_nil] at ht
    refine tup_ref hg ?_
    rw [ht] at done
    simpa [tokD] using done s' (Kp.refl _ _)
  have hlt' : i < a.length := by omega
  refine end_ok hi ?_
  unfold b_tokens_2_1
  walk_at "run"
  obtain ⟨c, r, hd⟩ : ∃ c r, a.drop i = c :: r := by
    cases hd : a.drop i with
    | nil =>
      have := congrArg List.length hd
      simp only [List.length_drop, List.length_nil] at this
      omega
    | cons c r => exact ⟨c, r, rfl⟩
  obtain ⟨g1, g2, g3⟩ := drop_get hd
  obtain ⟨n, rfl⟩ : ∃ n', n = n' + 1 := ⟨n - 1, by omega⟩
  rw [hd] at ht
  have hlen := congrArg List.length hd
  simp only [List.length_drop, List.length_cons] at hlen
  by_cases hc : aln c = true
  · have hw : 0 < ((a.drop i).takeWhile aln).length := by rw [hd, List.takeWhile_cons, if_pos hc]; simp
    refine br_yes (by omega) ?_
    unfold b_tokens_3
    rw [c_kw]
    walk_at "run"
    rw [cut_nn (by omega) (by omega)]
    have e1 : ((i + ((a.drop i).takeWhile aln).length : Nat) : Int).toNat - (i : Int).toNat = ((a.drop i).takeWhile aln).length := by omega
    rw [e1, Int.toNat_natCast, tw_take]
    rw [hd] at hw ⊢
    simp only [tk, if_pos hc] at ht
    have hle : ((c :: r).takeWhile aln).length ≤ (c :: r).length := (List.takeWhile_sublist _).length_le
    rw [List.length_cons] at hle
    have hdr : a.drop (i + ((c :: r).takeWhile aln).length) = (c :: r).dropWhile aln := by rw [← List.drop_drop, hd, tw_drop]
    generalize (c :: r).takeWhile aln = w at *
    rw [cin_strs]
    have go : okW w = true → N.nx [some (.str a), some (.ref s.length), some (.int ((i + w.length : Nat) : Int)), some (.int ((i + w.length : Nat) : Int)), some (.str w)] (s'.set s.length (.lst (got.map .str ++ [.str w]))) := fun hok => by
      refine hN.nx _ _ ⟨_, ?_, i + w.length, by omega, rfl, _, _, got ++ [w], n, rfl, ?_, ?_, ?_, by omega, ?_⟩
      · omega
      · rw [get_set hg, List.map_append]; rfl
      · simp only [List.length_append, List.length_cons, List.length_nil]; omega
      · exact kp.trans (Kp.set rfl)
      · rw [ht, if_pos hok, hdr]
        cases tk n ((c :: r).dropWhile aln) <;> simp
    have bad : okW w = false → N.rt .non s' := fun hok => by
      rw [ht] at done
      simp only [hok] at done
      exact hN.rt _ _ (done s' (Kp.refl _ _))
    refine ⟨rfl, rfl, ?_⟩
    have stay : ∀ b, okW w = b → br (some !b)
            (xSs (Lv (Tof tbl) (j + 1)) b_tokens_4
              [some (D.str a), some (D.ref (List.length s)), some (D.int ↑i), some (D.int ↑(i + w.length)),
                some (D.str w)]
              s'
              {
                nx := fun σ s =>
                  xSs (Lv (Tof tbl) (j + 1)) b_tokens_3_1 σ s
                    { nx := fun σ s => xSs (Lv (Tof tbl) (j + 1)) b_tokens_2_2 σ s N, rt := N.rt, bk := N.bk,
                      ct := N.ct, ex := N.ex },
                rt := N.rt, bk := N.bk, ct := N.ct, ex := N.ex })
            (xSs (Lv (Tof tbl) (j + 1)) b_tokens_3_1
              [some (D.str a), some (D.ref (List.length s)), some (D.int ↑i), some (D.int ↑(i + w.length)),
                some (D.str w)]
              s'
              { nx := fun σ s => xSs (Lv (Tof tbl) (j + 1)) b_tokens_2_2 σ s N, rt := N.rt, bk := N.bk, ct := N.ct,
                ex := N.ex }) := fun b hb => by
      refine br_nb (fun e => ?_) (fun e => ?_)
      · subst e
        unfold b_tokens_4
        walk_at "run"
        exact bad hb
      · subst e
        unfold b_tokens_3_1 b_tokens_2_2
        walk_at "run"
        refine ⟨mty_ref hg (by decide), app_ref hg (by rw [List.length_map]; show _ < 2 ^ 24; omega) ?_⟩
        exact go hb
    refine br_dec (fun k1 => ?_) (fun k1 => ?_)
    · rw [decide_eq_true k1]
      exact stay true (by simp [okW, k1])
    · refine name_ok ?_
      walk_at "run"
      refine br_b (fun k2 => ?_) (fun k2 => ?_)
      · rw [k2]; exact stay true (by simp [okW, k2])
      · refine num_ok ?_
        walk_at "run"
        exact stay _ (by simp [okW, k1, k2])
  · have hw : ((a.drop i).takeWhile aln) = [] := by rw [hd, List.takeWhile_cons, if_neg hc]
    rw [hw]
    refine br_no (by simp) ?_
    simp only [tk, if_neg hc] at ht
    unfold b_tokens_5
    walk_at "run"
    refine ix_str (c := c) (by rw [atI_k, g1]) ?_
    walk_at "run"
    have e32 : ([c] = [32]) ↔ c = 32 := by simp
    refine br_dec (fun h32 => ?_) (fun h32 => ?_)
    · rw [if_pos (e32.mp h32)] at ht
      unfold b_tokens_6 b_tokens_2_2
      walk_at "run"
      refine hN.nx _ _ ⟨_, ?_, i + 1, by omega, rfl, _, _, got, n, rfl, hg, by omega, kp, by omega, by rw [g3]; exact ht⟩
      omega
    · rw [if_neg (fun z => h32 (e32.mpr z))] at ht
      unfold b_tokens_7
      rw [c_sig]
      walk_at "run"
      refine ix_str (c := c) (by rw [atI_k, g1]) ?_
      walk_at "run"
      rw [sub_one]
      refine br_dec (fun hs => ?_) (fun hs => ?_)
      · rw [if_pos hs] at ht
        unfold b_tokens_8
        walk_at "run"
        refine ⟨rfl, rfl, ?_⟩
        rw [cut_nn (by omega) (by omega)]
        have e2 : ((i : Int) + 2).toNat - (i : Int).toNat = 2 := by omega
        rw [e2, Int.toNat_natCast, hd]
        refine br_dec (fun heq => ?_) (fun heq => ?_)
        · rw [if_pos heq] at ht
          unfold b_tokens_9 b_tokens_8_1 b_tokens_2_2
          walk_at "run"
          refine ⟨mty_ref hg (by decide), rfl, rfl, ?_⟩
          rw [cut_nn (by omega) (by omega), e2, Int.toNat_natCast, hd, heq]
          refine app_ref hg (by rw [List.length_map]; show _ < 2 ^ 24; omega) ?_
          have hr : 0 < r.length := by
            cases r with
            | nil => simp at heq
            | cons _ _ => simp
          refine hN.nx _ _ ⟨_, ?_, i + 2, by omega, rfl, _, _, got ++ [[61, 61]], n, rfl, ?_, ?_, ?_, by omega, ?_⟩
          · omega
          · rw [get_set hg, List.map_append]; rfl
          · simp only [List.length_append, List.length_cons, List.length_nil]; omega
          · exact kp.trans (Kp.set rfl)
          · have : a.drop (i + 2) = r.drop 1 := by rw [← List.drop_drop, hd]; rfl
            rw [ht, this]
            cases tk n (r.drop 1) <;> simp
        · rw [if_neg heq] at ht
          unfold b_tokens_8_1 b_tokens_2_2
          walk_at "run"
          refine ⟨mty_ref hg (by decide), rfl, rfl, ?_⟩
          have e1 : ((i : Int) + 1).toNat - (i : Int).toNat = 1 := by omega
          rw [cut_nn (by omega) (by omega), e1, Int.toNat_natCast, hd]
          refine app_ref hg (by rw [List.length_map]; show _ < 2 ^ 24; omega) ?_
          refine hN.nx _ _ ⟨_, ?_, i + 1, by omega, rfl, _, _, got ++ [[c]], n, rfl, ?_, ?_, ?_, by omega, ?_⟩
          · omega
          · rw [get_set hg, List.map_append]; rfl
          · simp only [List.length_append, List.length_cons, List.length_nil]; omega
          · exact kp.trans (Kp.set rfl)
          · rw [ht, g3]
            cases tk n r <;> simp
      · rw [if_neg hs] at ht
        unfold b_tokens_10
        walk_at "run"
        rw [ht] at done
        exact hN.rt _ _ (done s' (Kp.refl _ _))
end
end K00

namespace K00
open PySem PX
def LD : List Nat := [97, 98, 99, 100, 101, 102, 103, 104, 105, 106, 107, 108, 109, 110, 111, 112, 113, 114, 115, 116, 117, 118, 119, 120, 121, 122, 48, 49, 50, 51, 52, 53, 54, 55, 56, 57]
def KEPT : List Nat := [32, 102, 117, 110, 32, 101, 110, 100, 32, 105, 102, 32, 101, 108, 115, 101, 32, 119, 104, 105, 108, 101, 32, 116, 114, 121, 32, 99, 97, 116, 99, 104, 32, 114, 101, 116, 117, 114, 110, 32, 116, 104, 114, 111, 119, 32, 115, 97, 121, 32, 103, 111, 32, 114, 101, 115, 116, 32, 110, 101, 119, 32, 110, 105, 108, 32, 112, 117, 115, 104, 32, 98, 105, 110, 100, 32, 97, 115, 107, 32, 108, 101, 110, 32, 107, 105, 110, 100, 32]
theorem aln_LD (c : Nat) : aln c = decide (c ∈ LD) := by
  have : LD = LET ++ DIG := rfl
  rw [this, Bool.eq_iff_iff]
  unfold aln
  simp only [Bool.or_eq_true, decide_eq_true_eq, List.mem_append]
theorem aln_32 {c : Nat} (h : aln c = true) : c ≠ 32 := by
  rintro rfl
  revert h
  decide
theorem kept_sp : ∀ i, i < 100 → i + 11 ≤ KEPT.length → ∃ t, t < 10 ∧ 1 ≤ t ∧ KEPT[i + t]? = some 32 := by decide +kernel
theorem kept_short {w : List Nat} (hw : w.all aln = true) (h : subS ([32] ++ w ++ [32]) KEPT = true) : w.length ≤ 8 := by
  refine Decidable.byContradiction fun hn => ?_
  have : subS ([32] ++ w ++ [32]) KEPT = false := sub_no fun i hi => by
    have hl : ([32] ++ w ++ [32]).length = w.length + 2 := by simp
    rw [hl] at hi ⊢
    have hK : KEPT.length ≤ 100 := by decide
    obtain ⟨t, ht, h1, e⟩ := kept_sp i (by omega) (by omega)
    refine ⟨t, by omega, ?_⟩
    rw [e]
    obtain ⟨t, rfl⟩ : ∃ u, t = u + 1 := ⟨t - 1, by omega⟩
    have ht' : t < w.length := by omega
    have e2 : ([32] ++ w ++ [32])[t + 1]? = some w[t] := by
      rw [List.append_assoc]
      show (w ++ [32])[t]? = _
      rw [List.getElem?_append_left ht', List.getElem?_eq_getElem ht']
    rw [e2]
    intro z
    exact aln_32 (List.all_eq_true.mp hw _ (List.getElem_mem ht')) (Option.some.inj z).symm
  rw [this] at h
  cases h
theorem kw_len : ∀ w ∈ KW, w.length ≤ 8 := by decide +kernel
theorem kw_hd : ∀ w ∈ KW, ∀ c, w.head? = some c → c ∉ DIG := by
  have : KW.all (fun w => match w.head? with
    | some c => !decide (c ∈ DIG)
    | none => true) = true := by decide +kernel
  intro w hw c hc
  have := List.all_eq_true.mp this w hw
  rw [hc] at this
  simpa using this
theorem let_dig : ∀ c ∈ LET, c ∉ DIG := by decide +kernel
theorem ok_dig {c : Nat} {r : List Nat} (h : c ∈ DIG) : okW (c :: r) = numB (c :: r) := by
  have h1 : ¬ (c :: r ∈ KW) := fun z => kw_hd _ z c rfl h
  have h2 : ¬ (c ∈ LET) := fun z => let_dig c z h
  simp [okW, nameB, h1, h2]
theorem ok_let {c : Nat} {r : List Nat} (h : c ∈ LET) : okW (c :: r) = decide ((c :: r).length ≤ 8) := by
  have h2 : ¬ (c ∈ DIG) := let_dig c h
  have hn : numB (c :: r) = false := by simp [numB, h2]
  rw [okW, hn]
  by_cases k : c :: r ∈ KW
  · rw [decide_eq_true k, decide_eq_true (kw_len _ k), Bool.true_or]
  · simp only [nameB, h, k, decide_true, decide_false, Bool.not_false, Bool.true_and, Bool.and_true, Bool.or_false, Bool.false_or]
section
variable {j : Nat} {E : XQ}
theorem lcw {w : List Nat} (hl : w.length ≤ 100000) {s : Sto} {x0 x1 x2 : Option D} {K : Sto → Prop} (h : ∀ s', s'[s.length]? = some (.lst ((w.filter (fun c => !decide (c ∈ DIG))).map (fun c => .str [c]))) → Kp (fun n => n = s.length) s s' → K s') :
    lcGo (TG.nm 2) none (w.map (fun c => .str [c])) s.length (fun σ' s' K => xIf (Lv (Tof tbl) j) i_law_word_1 σ' s' K) (fun σ' s' K => xE (Lv (Tof tbl) j) l_law_word_1 σ' s' K fun x x_1 x_2 => False) [2] [x0, x1, x2] (w.map (fun c => .str [c])) (s ++ [.lst []]) K := by
  refine lc_ind (I := fun items s' => ∃ p q, w = p ++ q ∧ items = q.map (fun c => .str [c]) ∧ s'[s.length]? = some (.lst ((p.filter (fun c => !decide (c ∈ DIG))).map (fun c => .str [c]))) ∧ Kp (fun n => n = s.length) s s') ?_ ?_ _ _ ⟨[], w, rfl, rfl, get_new, Kp.push⟩
  · rintro x q s' ⟨p, q0, e, e2, hg, kp⟩
    cases q0 with
    | nil => cases e2
    | cons d q0 =>
      cases e2
      have e3 := congrArg List.length e
      simp only [List.length_cons, List.length_append] at e3
      refine ⟨trivial, ?_⟩
      unfold wipeS wipeS i_law_word_1 l_law_word_1
      walk_at "run"
      rw [sub_one]
      refine br_ndec (fun hm => ?_) (fun hm => ?_)
      · rw [if_pos rfl]
        have hm : ¬ d ∈ DIG := hm
        refine ⟨_, hg, ?_, p ++ [d], q0, by simp [e], rfl, ?_, kp.trans (Kp.set rfl)⟩
        · rw [List.length_map]
          exact Nat.lt_of_le_of_lt (List.length_filter_le _ _) (show _ < 2 ^ 24 by omega)
        · rw [get_set hg, List.filter_append, List.map_append]
          simp [hm]
      · rw [if_neg (by decide)]
        have hm : d ∈ DIG := hm
        refine ⟨p ++ [d], q0, by simp [e], rfl, ?_, kp⟩
        rw [hg, List.filter_append]
        simp [hm]
  · rintro s' ⟨p, q0, e, e2, hg, kp⟩
    have : q0 = [] := by
      cases q0 with
      | nil => rfl
      | cons c r => cases e2
    subst this
    rw [List.append_nil] at e
    subst e
    exact ⟨trivial, h s' hg kp⟩
theorem cmw {w : List Nat} {s s' : Sto} (hg : s'[s.length]? = some (.lst ((w.filter (fun c => !decide (c ∈ DIG))).map (fun c => .str [c])))) : cmpD (s' ++ [Ob.lst []]) CmpOp.NotEq (D.ref s.length) (D.ref s'.length) = some (!w.all (fun c => decide (c ∈ DIG))) := by
  show (eqD _ _ _).map _ = _
  rw [eq_refs (get_old hg) get_new (fun x hx => by
    obtain ⟨a, _, rfl⟩ := List.mem_map.mp hx
    rfl) (fun x hx => by cases hx)]
  show some (!decide _) = some (!_)
  congr 2
  rw [Bool.eq_iff_iff, decide_eq_true_eq, List.map_eq_nil_iff, List.filter_eq_nil_iff, List.all_eq_true]
  simp
theorem word_ok {w : List Nat} (hw : w.all aln = true) (h0 : w ≠ []) (hl : w.length ≤ 100000) {s : Sto} {Q : QE} (h : ∀ v s', Kp (fun _ => False) s s' → (v = [] ↔ okW w = false) → Q (.str v) s') : Lv (Tof tbl) (j + 1) 7 [.str w] s Q E := by
  refine lv_in (fn := d_law_word.fn) rfl rfl ?_
  dsimp only [d_law_word, b_law_word_1]
  walk_at "run"
  cases w with
  | nil => exact absurd rfl h0
  | cons c r =>
  refine ix_str atI_z ?_
  walk_at "run"
  rw [sub_one]
  refine br_dec (fun hd => ?_) (fun hd => ?_)
  · have hd : c ∈ DIG := hd
    have ho := ok_dig (r := r) hd
    unfold b_law_word_3
    refine ss_ite (fun b s1 => Kp (fun _ => False) s s1 ∧ b = !numB (c :: r)) ?_ (fun s1 h1 => ?_) (fun s1 h1 => ?_)
    · walk_at "run"
      refine br_dec (fun h3 => br_yes h3 ⟨Kp.refl _ _, ?_⟩) (fun h3 => ?_)
      · have : ¬ (c :: r).length ≤ 3 := by simp only [List.length_cons]; omega
        have e0 : (c :: r) ≠ [48] := by rintro z; cases z; simp at h3
        have : numB (c :: r) = false := by unfold numB; rw [decide_eq_false e0, decide_eq_false this]; simp
        rw [this]; rfl
      · have h3 : (c :: r).length ≤ 3 := by simp only [List.length_cons]; omega
        refine ix_str atI_z ?_
        walk_at "run"
        have rest : (c = 48 → c :: r = [48]) → numB (c :: r) = (c :: r).all (fun c => decide (c ∈ DIG)) := fun hz => by
          unfold numB
          by_cases z : c = 48
          · rw [decide_eq_true (hz z), Bool.true_or, Bool.and_true]
          · have : ¬ (c :: r).head? = some 48 := fun y => z (Option.some.inj y)
            rw [decide_eq_true h3, decide_eq_true (show 1 ≤ (c :: r).length by simp), decide_eq_false this]
            simp
        have tail : (c = 48 → c :: r = [48]) → lcGo (TG.nm 2) none (D.str [c] :: List.map (fun c => D.str [c]) r) (List.length s)
            (fun σ' s' K => xIf (Lv (Tof tbl) j) i_law_word_1 σ' s' K)
            (fun σ' s' K => xE (Lv (Tof tbl) j) l_law_word_1 σ' s' K fun x x_1 x_2 => False) [2]
            [some (D.str (c :: r)), some (D.str KEPT), none]
            (D.str [c] :: List.map (fun c => D.str [c]) r) (s ++ [Ob.lst []]) (fun s' =>
            0 ≤ sizeLine ∧
              obl (cmpD (s' ++ [Ob.lst []]) CmpOp.NotEq (D.ref (List.length s)) (D.ref (List.length s'))) fun c_2 =>
                br (some c_2) (Kp (fun x => False) s (s' ++ [Ob.lst []]) ∧ true = !numB (c :: r))
                  (Kp (fun x => False) s (s' ++ [Ob.lst []]) ∧ false = !numB (c :: r))) := fun hz =>
          lcw (w := c :: r) hl fun s' hg kp => by
            refine ⟨by decide, ?_⟩
            rw [cmw hg, rest hz]
            have kk : Kp (fun _ => False) s (s' ++ [Ob.lst []]) := (kp.trans Kp.push).mono fun n hn z => by omega
            refine br_nb (fun e => ⟨kk, by rw [e]; rfl⟩) (fun e => ⟨kk, by rw [e]; rfl⟩)
        refine br_dec (fun z => ?_) (fun z => br_no z (tail fun y => absurd (by rw [y]) z))
        refine br_ndec (fun z2 => ?_) (fun z2 => tail fun _ => z2)
        refine br_t (by rw [decide_eq_false z2]; rfl) ⟨Kp.refl _ _, ?_⟩
        have z : c = 48 := by simpa using z
        have z3 : (c :: r).head? = some 48 := by rw [z]; rfl
        have : numB (c :: r) = false := by unfold numB; rw [decide_eq_false z2, decide_eq_true z3]; simp
        rw [this]; rfl
    · unfold b_law_word_4
      walk_at "run"
      exact h _ _ h1.1 (by rw [ho]; have := h1.2; simp at this; simp [this])
    · unfold b_law_word_3_1
      walk_at "run"
      exact h _ _ h1.1 (by rw [ho]; have := h1.2; simp at this; simp [this])
  · have hd : ¬ c ∈ DIG := hd
    have hc := (List.all_eq_true.mp hw) c (by simp)
    have hL : c ∈ LET := by simpa [aln, hd] using hc
    have ho := ok_let (r := r) hL
    unfold b_law_word_1_1
    walk_at "run"
    have hs : (2 : Nat) ^ 24 = sizeLine := rfl
    simp only [List.length_cons] at hl
    refine ⟨by omega, by omega, br_b (fun hk => ?_) (fun hk => ?_)⟩
    · unfold b_law_word_2
      walk_at "run"
      exact h _ _ (Kp.refl _ _) (by rw [ho, decide_eq_true (kept_short hw hk)]; simp)
    · unfold b_law_word_1_2
      walk_at "run"
      refine ⟨by decide, ?_⟩
      by_cases h8 : (c :: r).length ≤ 8
      · have h8' : ((r.length + 1 : Nat) : Int) ≤ 8 := by simp only [List.length_cons] at h8; omega
        rw [decide_eq_true h8']
        refine ix_ref get_new atI_o (h _ _ Kp.push (by rw [ho, decide_eq_true h8]; simp))
      · have h8' : ¬ ((r.length + 1 : Nat) : Int) ≤ 8 := by simp only [List.length_cons] at h8; omega
        rw [decide_eq_false h8']
        refine ix_ref get_new atI_z (h _ _ Kp.push (by rw [ho, decide_eq_false h8]; simp))
end
end K00

namespace K00
open PySem PX
def LI (a : List Nat) (s : Sto) (m : Nat) (σ : Sl) (s' : Sto) : Prop := ∃ i : Nat, i ≤ a.length ∧ m = a.length - i ∧ ∃ x4 got n, σ = [some (.str a), some (.str LD), some (.ref s.length), some (.int i), x4] ∧ s'[s.length]? = some (.lst (got.map .str)) ∧ got.length ≤ i ∧ Kp (fun n => n = s.length) s s' ∧ a.length - i ≤ n ∧ tk a.length a = (tk n (a.drop i)).map (got ++ ·)
def WI (a : List Nat) (i L : Nat) (σ0 : Sl) (s0 : Sto) (m : Nat) (σ : Sl) (s' : Sto) : Prop := s' = s0 ∧ ∃ n : Nat, 1 ≤ n ∧ n ≤ L ∧ m = L - n ∧ σ = σ0.set 4 (some (.int n))
theorem tw_get (p : Nat → Bool) : ∀ (l : List Nat) (n : Nat), n < (l.takeWhile p).length → ∃ c, l[n]? = some c ∧ p c = true
  | [], n, h => by simp at h
  | c :: r, n, h => by
    rw [List.takeWhile_cons] at h
    split at h
    · rename_i hc
      cases n with
      | zero => exact ⟨c, rfl, hc⟩
      | succ n =>
        rw [List.length_cons] at h
        obtain ⟨d, e, hd⟩ := tw_get p r n (by omega)
        exact ⟨d, by simpa using e, hd⟩
    · simp at h
theorem tw_end (p : Nat → Bool) : ∀ (l : List Nat), (l.takeWhile p).length = l.length ∨ ∃ c, l[(l.takeWhile p).length]? = some c ∧ p c = false
  | [] => .inl rfl
  | c :: r => by
    rw [List.takeWhile_cons]
    split
    · rcases tw_end p r with h | ⟨d, e, hd⟩
      · left; simp [h]
      · right; exact ⟨d, by simpa using e, hd⟩
    · rename_i hc
      right; exact ⟨c, rfl, by simpa using hc⟩
theorem tw_all (p : Nat → Bool) : ∀ (l : List Nat), (l.takeWhile p).all p = true
  | [] => rfl
  | c :: r => by
    rw [List.takeWhile_cons]
    split
    · rename_i hc
      rw [List.all_cons, hc, tw_all p r]; rfl
    · rfl
section
variable {j : Nat} {E : XQ}
theorem ltok_ok {a : List Nat} (hl : a.length ≤ 100000) {s : Sto} {Q : QE} (h : ∀ v s', Kp (fun _ => False) s s' → (match tk a.length a with
    | none => v = D.non
    | some l => ∃ n, v = .ref n ∧ s'[n]? = some (.lst (l.map .str))) → Q v s') : Lv (Tof tbl) (j + 2) 8 [.str a] s Q E := by
  refine lv_in (fn := d_law_tokens.fn) rfl rfl ?_
  dsimp only [d_law_tokens, b_law_tokens_1]
  walk_at "run"
  refine ⟨by decide, ?_⟩
  refine whl_of (LI a s) _ ⟨0, by omega, rfl, none, [], a.length, rfl, get_new, by simp, Kp.push, by omega, by simp⟩ ?_
  rintro m σ s' N ⟨i, hi, rfl, x4, got, n, rfl, hg, hgl, kp, hn, ht⟩ hN
  have done : ∀ s'', Kp (fun n => n = s.length) s' s'' → tk a.length a = none → Q .non s'' := fun s'' k2 e => h .non s'' ((kp.trans k2).mono fun n hn e => by omega) (by rw [e])
  unfold b_law_tokens_2 b_law_tokens_1_1
  walk_at "run"
  refine br_dec (fun hlt => ?_) (fun hge => ?_)
  case refine_2 =>
    have : a.length ≤ i := by omega
    rw [List.drop_of_length_le this, tk_nil] at ht
    refine h _ s' (kp.mono fun n hn e => by omega) ?_
    rw [ht]
    exact ⟨_, rfl, by simpa using hg⟩
  have hlt' : i < a.length := by omega
  obtain ⟨c, r, hd⟩ : ∃ c r, a.drop i = c :: r := by
    cases hd : a.drop i with
    | nil =>
      have := congrArg List.length hd
      simp only [List.length_drop, List.length_nil] at this
      omega
    | cons c r => exact ⟨c, r, rfl⟩
  obtain ⟨g1, g2, g3⟩ := drop_get hd
  obtain ⟨n, rfl⟩ : ∃ n', n = n' + 1 := ⟨n - 1, by omega⟩
  rw [hd] at ht
  have hlen := congrArg List.length hd
  simp only [List.length_drop, List.length_cons] at hlen
  refine ix_str (c := c) (by rw [atI_k, g1]) ?_
  walk_at "run"
  have tail : ∀ (L : Nat) (s'' : Sto), 1 ≤ L → i + L ≤ a.length → s''[s.length]? = some (.lst (got.map .str)) → Kp (fun n => n = s.length) s' s'' →
      (if c = 32 then tk a.length a = (tk n (a.drop (i + L))).map (got ++ ·) else tk a.length a = (tk n (a.drop (i + L))).map ((got ++ [(c :: r).take L]) ++ ·)) →
      xSs (Lv (Tof tbl) (j + 1)) b_law_tokens_2_1 [some (.str a), some (.str LD), some (.ref s.length), some (.int i), some (.int L)] s'' N := fun L s'' h1 h2 hg' k2 he => by
    unfold b_law_tokens_2_1
    walk_at "run"
    refine ix_str (c := c) (by rw [atI_k, g1]) ?_
    walk_at "run"
    have e32 : ([c] = [32]) ↔ c = 32 := by simp
    refine br_ndec (fun hc => ?_) (fun hc => ?_)
    · rw [if_neg (fun z => hc (e32.mpr z))] at he
      unfold b_law_tokens_3 b_law_tokens_2_2
      walk_at "run"
      have e1 : ((i : Int) + L).toNat - (i : Int).toNat = L := by omega
      refine ⟨mty_ref hg' (by decide), rfl, rfl, ?_⟩
      rw [cut_nn (by omega) (by omega), e1, Int.toNat_natCast, hd]
      refine app_ref hg' (by rw [List.length_map]; show _ < 2 ^ 24; omega) ?_
      refine hN.nx _ _ ⟨_, ?_, i + L, by omega, rfl, _, got ++ [(c :: r).take L], n, rfl, ?_, ?_, ?_, by omega, he⟩
      · omega
      · rw [get_set hg', List.map_append]; rfl
      · simp only [List.length_append, List.length_cons, List.length_nil]; omega
      · exact (kp.trans k2).trans (Kp.set rfl)
    · rw [if_pos (e32.mp hc)] at he
      unfold b_law_tokens_2_2
      walk_at "run"
      refine hN.nx _ _ ⟨_, ?_, i + L, by omega, rfl, _, got, n, rfl, hg', by omega, kp.trans k2, by omega, he⟩
      omega
  show br (some (subS [c] LD)) _ _
  rw [sub_one, ← aln_LD]
  refine br_b (fun hc => ?_) (fun hc => ?_)
  · unfold b_law_tokens_4
    walk_at "run"
    have hL0 : 0 < ((c :: r).takeWhile aln).length := by rw [List.takeWhile_cons, if_pos hc]; simp
    have hle : ((c :: r).takeWhile aln).length ≤ (c :: r).length := (List.takeWhile_sublist _).length_le
    rw [List.length_cons] at hle
    refine whl_of (WI a i ((c :: r).takeWhile aln).length [some (.str a), some (.str LD), some (.ref s.length), some (.int i), some (.int 1)] s') _ ⟨rfl, 1, Nat.le_refl _, hL0, rfl, rfl⟩ ?_
    rintro m σ s2 N2 ⟨rfl, k, hk1, hkL, rfl, rfl⟩ hN2
    unfold b_law_tokens_6
    walk_at "run"
    have gk : a[i + k]? = (c :: r)[k]? := by rw [← hd, List.getElem?_drop]
    have e1 : ((i : Int) + k) = ((i + k : Nat) : Int) := by omega
    rw [e1]
    by_cases hk : k < ((c :: r).takeWhile aln).length
    · obtain ⟨d, e, hd'⟩ := tw_get aln (c :: r) k hk
      refine br_yes (by omega) ?_
      refine ix_str (c := d) (by rw [atI_k, gk, e]) ?_
      walk_at "run"
      show br (some (subS [d] LD)) _ _
      rw [sub_one, ← aln_LD]
      refine br_t hd' (hN2.nx _ _ ⟨_, ?_, rfl, k + 1, by omega, by omega, rfl, rfl⟩)
      omega
    · have hkk : k = ((c :: r).takeWhile aln).length := by omega
      have out : xSs (Lv (Tof tbl) (j + 1)) b_law_tokens_4_1 [some (.str a), some (.str LD), some (.ref s.length), some (.int i), some (.int k)] s2
          { nx := fun σ s => xSs (Lv (Tof tbl) (j + 1)) b_law_tokens_2_1 σ s N, rt := N.rt, bk := N.bk, ct := N.ct, ex := N.ex } := by
        unfold b_law_tokens_4_1 b_law_tokens_5
        walk_at "run"
        refine ⟨rfl, rfl, ?_⟩
        have e2 : ((i : Int) + k).toNat - (i : Int).toNat = k := by omega
        rw [cut_nn (by omega) (by omega), e2, Int.toNat_natCast, hd, hkk, tw_take]
        refine word_ok (tw_all aln _) (fun z => by rw [z] at hL0; cases hL0) (by omega) fun v s3 k3 hv => ?_
        walk_at "run"
        have h3 := k3.get _ _ (fun z => z) hg
        simp only [tk, if_pos hc] at ht
        refine br_dec (fun z => ?_) (fun z => ?_)
        · rw [if_neg (by rw [hv.mp z]; decide)] at ht
          exact hN.rt _ _ (done s3 k3.none ht)
        · have ok : okW ((c :: r).takeWhile aln) = true := by
            cases hok : okW ((c :: r).takeWhile aln) with
            | true => rfl
            | false => exact absurd (hv.mpr hok) z
          rw [if_pos ok] at ht
          refine tail _ s3 hL0 (by omega) h3 k3.none ?_
          rw [if_neg (aln_32 hc), tw_take, ht, ← List.drop_drop, hd, tw_drop]
          cases tk n ((c :: r).dropWhile aln) <;> simp
      rcases tw_end aln (c :: r) with he | ⟨d, e, hd'⟩
      · rw [List.length_cons] at he
        exact br_no (by omega) (br_no (by omega) out)
      · rw [← hkk] at e
        have : k < (c :: r).length := (List.getElem?_eq_some_iff.mp e).1
        rw [List.length_cons] at this
        refine br_yes (by omega) ?_
        refine ix_str (c := d) (by rw [atI_k, gk, e]) ?_
        walk_at "run"
        show br (some (subS [d] LD)) _ _
        rw [sub_one, ← aln_LD]
        exact br_f hd' out
  · simp only [tk, if_neg (show ¬ aln c = true by rw [hc]; decide)] at ht
    unfold b_law_tokens_7
    walk_at "run"
    refine ⟨rfl, rfl, ?_⟩
    have e2 : ((i : Int) + 2).toNat - (i : Int).toNat = 2 := by omega
    rw [cut_nn (by omega) (by omega), e2, Int.toNat_natCast, hd]
    refine br_dec (fun heq => ?_) (fun heq => ?_)
    · unfold b_law_tokens_8
      walk_at "run"
      have hc61 : c = 61 := by
        have := congrArg List.head? heq
        simpa using this
      have hr : 0 < r.length := by
        cases r with
        | nil => simp at heq
        | cons _ _ => simp
      subst hc61
      rw [if_neg (by decide), if_pos (by decide), if_pos heq] at ht
      refine tail 2 s' (by omega) (by omega) hg (Kp.refl _ _) ?_
      have : a.drop (i + 2) = r.drop 1 := by rw [← List.drop_drop, hd]; rfl
      rw [if_neg (by decide), heq, this, ht]
      cases tk n (r.drop 1) <;> simp
    · unfold b_law_tokens_9
      walk_at "run"
      refine ix_str (c := c) (by rw [atI_k, g1]) ?_
      walk_at "run"
      rw [sub_one]
      refine br_ndec (fun hs => ?_) (fun hs => ?_)
      · have hs : ¬ c ∈ 32 :: SIG := hs
        rw [List.mem_cons, not_or] at hs
        rw [if_neg hs.1, if_neg hs.2] at ht
        unfold b_law_tokens_10
        walk_at "run"
        exact hN.rt _ _ (done s' (Kp.refl _ _) ht)
      · have hs : c ∈ 32 :: SIG := hs
        refine tail 1 s' (by omega) (by omega) hg (Kp.refl _ _) ?_
        rw [g3]
        by_cases h32 : c = 32
        · rw [if_pos h32] at ht ⊢
          exact ht
        · rw [if_neg h32] at ht ⊢
          rw [if_pos ((List.mem_cons.mp hs).resolve_left h32), if_neg heq] at ht
          rw [ht]
          cases tk n r <;> simp
end
end K00

namespace K00
open PySem PX
section
variable {j : Nat} {E : XQ}
def SI (r : Nat) (b : Nat) (N : Nat) (s : Sto) (items : List D) (s' : Sto) : Prop := ∃ l : List Nat, items.length + l.length = N ∧ s'[s.length]? = some (.lst ((l.map (fun c => [c])).map .str)) ∧ Kp (fun m => m = r ∨ m = s.length) s s' ∧ Src (b + l.length) s' r
theorem some_ok {b r : Nat} {sg : List Nat} {z : Int} {s : Sto} {Q : QE} (hs : Src b s r) (hb : b < 2 ^ 58) (h0 : 0 < sg.length) (h1 : sg.length ≤ 1000) (z0 : 0 ≤ z) (z1 : z ≤ 1000)
    (h : ∀ a s', (a.length : Int) = z → Kp (fun n => n = r) s s' → Src (b + 1000) s' r → Q (.str a) s') : Lv (Tof tbl) (j + 2) 9 [.ref r, .str sg, .int z] s Q E := by
  refine lv_in (fn := d_law_some.fn) rfl rfl ?_
  dsimp only [d_law_some, b_law_some_1]
  walk_at "run"
  have hr := hs.lt
  refine ⟨trivial, ⟨by decide, by decide, by omega, by omega⟩, ?_⟩
  have hN : (rngL 0 z).length = z.toNat := by simp [rngL]
  refine lc_ind (I := SI r b z.toNat s) ?_ ?_ _ _ ⟨[], by rw [hN]; rfl, get_new, Kp.push, hs.push⟩
  · rintro x q s' ⟨l, e, hg, kp, hs'⟩
    rw [List.length_cons] at e
    refine ⟨trivial, ?_⟩
    unfold wipeS wipeS i_law_some_1 l_law_some_1
    walk_at "run"
    rw [if_pos rfl]
    refine sign_ok (did := 6) rfl hs' (by omega) rfl h0 (by omega) fun c s2 hc k2 hs2 => ?_
    have hg2 := k2.get _ _ (show ¬ s.length = r by omega) hg
    refine ⟨_, hg2, by simp only [List.length_map]; show _ < 2 ^ 24; omega, l ++ [c], ?_, ?_, ?_, ?_⟩
    · simp only [List.length_append, List.length_cons, List.length_nil]; omega
    · rw [get_set hg2, List.map_append, List.map_append]; rfl
    · exact (kp.trans (k2.mono fun n _ z => .inl z)).trans (Kp.set (.inr rfl))
    · have := hs2.kp (R := fun n => n = s.length) (Kp.set (o := .lst ((l.map (fun c => [c])).map .str ++ [.str [c]])) rfl) (by omega)
      rw [List.length_append]
      exact this
  · rintro s' ⟨l, e, hg, kp, hs'⟩
    refine ⟨trivial, join_ref hg ?_ ?_⟩
    · have : (((l.map (fun c => [c])).map List.length).sum : Nat) = l.length := by
        clear e hg hs'
        induction l with
        | nil => rfl
        | cons a r ih => simp only [List.map_cons, List.sum_cons, List.length_cons, List.length_nil, ih]; omega
      rw [this]
      simp only [List.length_map, List.length_nil] at e ⊢
      omega
    · rw [joinS_nil]
      have : ((l.map (fun c => [c])).flatten).length = l.length := by
        clear e hg hs'
        induction l with
        | nil => rfl
        | cons a r ih => simp only [List.map_cons, List.flatten_cons, List.length_append, List.length_cons, List.length_nil, ih]; omega
      simp only [List.length_nil] at e
      refine h _ _ (by rw [this]; omega) (kp.mono fun n hn z => z.resolve_right (by omega)) (hs'.mono (by omega))
theorem wild_ok {b r : Nat} {s : Sto} {Q : QE} (hs : Src b s r) (hb : b < 2 ^ 57) (h : ∀ a s', a.length ≤ 1100 → Kp (fun n => n = r) s s' → Src (b + 2000) s' r → Q (.str a) s') : Lv (Tof tbl) (j + 3) 10 [.ref r] s Q E := by
  refine lv_in (fn := d_law_wild.fn) rfl rfl ?_
  dsimp only [d_law_wild, b_law_wild_1]
  walk_at "run"
  refine draw_kp (did := 6) rfl hs (by omega) (dv 4) fun v s1 v0 v1 k1 l1 hs1 => ?_
  unfold b_law_wild_1_1 b_law_wild_4
  walk_at "run"
  refine br_dec (fun hv => ?_) (fun hv => ?_)
  · refine draw_kp (did := 6) rfl hs1 (by omega) (dv 10) fun u s2 u0 u1 k2 l2 hs2 => ?_
    walk_at "run"
    refine draw_kp (did := 6) rfl hs2 (by omega) (dv 2) fun w s3 w0 w1 k3 l3 hs3 => ?_
    walk_at "run"
    refine ⟨by decide, pick_ok (did := 6) rfl hs3 (by omega) rfl (by simp) (by simp) fun x s4 hx k4 l4 hs4 => ?_⟩
    have : ∃ z : Int, x = .int z ∧ 0 ≤ z ∧ z ≤ 1000 := by
      simp only [List.mem_cons, List.not_mem_nil, or_false] at hx
      rcases hx with rfl | rfl
      · exact ⟨_, rfl, by omega, by omega⟩
      · exact ⟨_, rfl, by omega, by omega⟩
    obtain ⟨z, rfl, z0, z1⟩ := this
    refine some_ok hs4 (by omega) (by decide) (by decide) z0 z1 fun a s5 ha k5 hs5 => ?_
    exact h a s5 (by omega) (k1.trans (k2.trans (k3.trans (k4.trans k5)))) (hs5.mono (by omega))
  · unfold b_law_wild_1_2 b_law_wild_3
    walk_at "run"
    refine br_dec (fun hv => ?_) (fun hv => ?_)
    · refine draw_kp (did := 6) rfl hs1 (by omega) (dv 4) fun u s2 u0 u1 k2 l2 hs2 => ?_
      walk_at "run"
      refine some_ok hs2 (by omega) (by decide) (by decide) (by omega) (by omega) fun a s5 ha k5 hs5 => ?_
      exact h a s5 (by omega) (k1.trans (k2.trans k5)) (hs5.mono (by omega))
    · unfold b_law_wild_1_3 b_law_wild_2
      walk_at "run"
      refine br_dec (fun hv => ?_) (fun hv => ?_)
      · refine ⟨by decide, by decide, add_refs (get_old get_new) get_new (by decide) ?_⟩
        walk_at "run"
        refine pick_ok (did := 6) rfl hs1.push.push (by omega) rfl (by simp) (by simp) fun x s4 hx k4 l4 hs4 => ?_
        obtain ⟨a, rfl, a0, a1⟩ := strB_of (lo := 1) (hi := 8) hx (by decide)
        walk_at "run"
        refine some_ok hs4 (by omega) (by decide) (by decide) (by omega) (by omega) fun a' s5 ha k5 hs5 => ?_
        walk_at "run"
        have e := size24
        refine ⟨by omega, h _ s5 (by rw [List.length_append]; omega) ((k1.trans Kp.push).trans ((Kp.push.trans k4).trans k5)) (hs5.mono (by omega))⟩
      · unfold b_law_wild_1_4
        walk_at "run"
        refine some_ok hs1 (by omega) (by decide) (by decide) (by omega) (by omega) fun a s5 ha k5 hs5 => ?_
        exact h a s5 (by omega) (k1.trans k5) (hs5.mono (by omega))
theorem piece_ok {b r : Nat} {s : Sto} {Q : QE} (hs : Src b s r) (hb : b < 2 ^ 57) (h : ∀ a s', 1 ≤ a.length → a.length ≤ 100 → Kp (fun n => n = r) s s' → Src (b + 3000) s' r → Q (.str a) s') : Lv (Tof tbl) (j + 3) 11 [.ref r] s Q E := by
  refine lv_in (fn := d_law_piece.fn) rfl rfl ?_
  dsimp only [d_law_piece, b_law_piece_1]
  walk_at "run"
  have e24 := size24
  refine draw_kp (did := 6) rfl hs (by omega) (dv 8) fun v s1 v0 v1 k1 l1 hs1 => ?_
  unfold b_law_piece_1_1 b_law_piece_4
  walk_at "run"
  refine br_dec (fun hv => ?_) (fun hv => ?_)
  · refine ⟨by decide, pick_ok (did := 6) rfl hs1 (by omega) rfl (by simp) (by simp) fun x s4 hx k4 l4 hs4 => ?_⟩
    obtain ⟨a, rfl, a0, a1⟩ := strB_of (lo := 1) (hi := 2) hx (by decide)
    exact h a s4 a0 (by omega) (k1.trans k4) (hs4.mono (by omega))
  · unfold b_law_piece_1_2 b_law_piece_3
    walk_at "run"
    refine br_dec (fun hv => ?_) (fun hv => ?_)
    · refine ⟨by decide, by decide, add_refs (get_old get_new) get_new (by decide) ?_⟩
      walk_at "run"
      refine pick_ok (did := 6) rfl hs1.push.push (by omega) rfl (by simp) (by simp) fun x s4 hx k4 l4 hs4 => ?_
      obtain ⟨a, rfl, a0, a1⟩ := strB_of (lo := 1) (hi := 8) hx (by decide)
      exact h _ s4 a0 (by omega) (k1.trans (Kp.push.trans (Kp.push.trans k4))) (hs4.mono (by omega))
    · unfold b_law_piece_1_3 b_law_piece_2
      walk_at "run"
      refine br_dec (fun hv => ?_) (fun hv => ?_)
      · refine draw_kp (did := 6) rfl hs1 (by omega) (dv 12) fun u s2 u0 u1 k2 l2 hs2 => ?_
        walk_at "run"
        refine draw_kp (did := 6) rfl hs2 (by omega) (dv 1000) fun w s3 w0 w1 k3 l3 hs3 => ?_
        walk_at "run"
        refine ⟨by decide, pick_ok (did := 6) rfl hs3 (by omega) rfl (by simp) (by simp) fun x s4 hx k4 l4 hs4 => ?_⟩
        have : ∃ z : Int, x = .int z ∧ 0 ≤ z ∧ z < 1000 := by
          simp only [List.mem_cons, List.not_mem_nil, or_false] at hx
          rcases hx with rfl | rfl
          · exact ⟨_, rfl, by omega, by omega⟩
          · exact ⟨_, rfl, by omega, by omega⟩
        obtain ⟨z, rfl, z0, z1⟩ := this
        walk_at "run"
        have sl := strI_len z0 (show z < 10 ^ 10 by omega)
        refine ⟨⟨z0, by omega⟩, h _ s4 ?_ (by omega) (k1.trans (k2.trans (k3.trans k4))) (hs4.mono (by omega))⟩
        cases hz : strI z with
        | nil => exact absurd hz sl.2
        | cons _ _ => simp
      · unfold b_law_piece_1_4
        walk_at "run"
        refine ⟨rfl, rfl, ?_⟩
        refine some_ok hs1 (by omega) (by decide) (by decide) (by omega) (by omega) fun a s2 ha k2 hs2 => ?_
        unfold b_law_piece_1_5
        walk_at "run"
        refine draw_kp (did := 6) rfl hs2 (by omega) (dv 8) fun u s3 u0 u1 k3 l3 hs3 => ?_
        walk_at "run"
        refine ⟨by decide, pick_ok (did := 6) rfl hs3 (by omega) rfl (by simp) (by simp) fun x s4 hx k4 l4 hs4 => ?_⟩
        have : ∃ z : Int, x = .int z ∧ 0 ≤ z ∧ z < 8 := by
          simp only [List.mem_cons, List.not_mem_nil, or_false] at hx
          rcases hx with rfl | rfl | rfl | rfl
          · exact ⟨_, rfl, by omega, by omega⟩
          · exact ⟨_, rfl, by omega, by omega⟩
          · exact ⟨_, rfl, by omega, by omega⟩
          · exact ⟨_, rfl, by omega, by omega⟩
        obtain ⟨z, rfl, z0, z1⟩ := this
        refine some_ok hs4 (by omega) (by decide) (by decide) z0 (by omega) fun a' s5 ha' k5 hs5 => ?_
        walk_at "run"
        refine ⟨by omega, h _ s5 (by rw [List.length_append]; omega) (by rw [List.length_append]; omega) (k1.trans (k2.trans (k3.trans (k4.trans k5)))) (hs5.mono (by omega))⟩
end
end K00

namespace K00
open PySem PX
theorem atI_last {α : Type} {xs : List α} (h : xs ≠ []) : ∃ c, L2.atI xs (-1) = some c := by
  have hl : 0 < xs.length := List.length_pos_iff.mpr h
  refine ⟨xs[xs.length - 1], ?_⟩
  unfold L2.atI L2.ixN
  rw [if_neg (by decide), if_pos (by omega)]
  show xs[(-1 + (xs.length : Int)).toNat]? = _
  have : (-1 + (xs.length : Int)).toNat = xs.length - 1 := by omega
  rw [this]
  exact List.getElem?_eq_getElem (by omega)
theorem rep_len (n c : Nat) : ((List.replicate n [c]).flatten).length = n := by simp
section
variable {j : Nat} {E : XQ}
def NI (b r : Nat) (w : Bool) (s : Sto) (items : List D) (σ : Sl) (s' : Sto) : Prop := ∃ line x4 x5 x6, σ = [some (.ref r), some (.bl w), some (.str LD), some (.str line), x4, x5, x6] ∧ items.length ≤ 21 ∧ line.length ≤ 2 + (21 - items.length) * 1300 ∧ Kp (fun n => n = r) s s' ∧ Src (b + 10 + (21 - items.length) * 6000) s' r
theorem line_ok {b r : Nat} {w : Bool} {s : Sto} {Q : QE} (hs : Src b s r) (hb : b < 2 ^ 56) (h : ∀ a s', a.length ≤ 40000 → Kp (fun n => n = r) s s' → Src (b + 200000) s' r → Q (.str a) s') : Lv (Tof tbl) (j + 4) 12 [.ref r, .bl w] s Q E := by
  refine lv_in (fn := d_law_line.fn) rfl rfl ?_
  dsimp only [d_law_line, b_law_line_1]
  walk_at "run"
  have e24 := size24
  refine draw_kp (did := 6) rfl hs (by omega) (dv 2) fun v s1 v0 v1 k1 l1 hs1 => ?_
  walk_at "run"
  refine ⟨⟨v0, by omega, by omega⟩, ?_⟩
  unfold b_law_line_1_1
  walk_at "run"
  refine draw_kp (did := 6) rfl hs1 (by omega) (dv 8) fun u s2 u0 u1 k2 l2 hs2 => ?_
  walk_at "run"
  refine draw_kp (did := 6) rfl hs2 (by omega) (dv 21) fun w' s3 w0 w1 k3 l3 hs3 => ?_
  walk_at "run"
  refine ⟨by decide, pick_ok (did := 6) rfl hs3 (by omega) rfl (by simp) (by simp) fun x s4 hx k4 l4 hs4 => ?_⟩
  have : ∃ z : Int, x = .int z ∧ 0 ≤ z ∧ z ≤ 21 := by
    simp only [List.mem_cons, List.not_mem_nil, or_false] at hx
    rcases hx with rfl | rfl
    · exact ⟨_, rfl, by omega, by omega⟩
    · exact ⟨_, rfl, by omega, by omega⟩
  obtain ⟨z, rfl, z0, z1⟩ := this
  walk_at "run"
  have hN : (rngL 0 z).length = z.toNat := by simp [rngL]
  refine ⟨⟨by decide, by decide, by omega, by omega⟩, for_inv (NI b r w s) ⟨_, _, _, _, rfl, by omega, by rw [rep_len]; omega, k1.trans (k2.trans (k3.trans k4)), hs4.mono (by omega)⟩ ?_ ?_⟩
  · rintro x q σ s' N ⟨line, x4, x5, x6, rfl, hq, hll, kp, hs'⟩ hN'
    rw [List.length_cons] at hq hll hs'
    refine ⟨trivial, ?_⟩
    walk_at "run"
    have t4 : ∀ (g : Int) (p : List Nat) (s'' : Sto), 0 ≤ g → g ≤ 2 → p.length ≤ 1100 → Kp (fun n => n = r) s' s'' → Src (b + 10 + (21 - q.length) * 6000) s'' r →
        xSs (Lv (Tof tbl) (j + 3)) b_law_line_2_4 [some (.ref r), some (.bl w), some (.str LD), some (.str line), some x, some (.int g), some (.str p)] s'' N := fun g p s'' g0 g1 hp k hs'' => by
      unfold b_law_line_2_4
      walk_at "run"
      have e1 := rep_len g.toNat 32
      refine ⟨⟨g0, by omega, by omega⟩, by omega, by rw [List.length_append]; omega, hN'.nx _ _ ⟨_, _, _, _, rfl, by omega, ?_, kp.trans k, hs''⟩⟩
      rw [List.length_append, List.length_append]
      omega
    have t3 : ∀ (g : Int) (p : List Nat) (s'' : Sto), 0 ≤ g → g ≤ 2 → p.length ≤ 1100 → (w = false → 1 ≤ p.length) → Kp (fun n => n = r) s' s'' → Src (b + 10 + (21 - q.length) * 6000) s'' r →
        xSs (Lv (Tof tbl) (j + 3)) b_law_line_2_3 [some (.ref r), some (.bl w), some (.str LD), some (.str line), some x, some (.int g), some (.str p)] s'' N := fun g p s'' g0 g1 hp hw k hs'' => by
      unfold b_law_line_2_3
      refine ss_ite (fun _ s1 => s1 = s'') ?_ (fun s1 e => ?_) (fun s1 e => ?_)
      · walk_at "run"
        cases w with
        | true => exact rfl
        | false =>
          walk_at "run"
          refine br_dec (fun _ => ?_) (fun e => br_no e rfl)
          refine br_ndec (fun hne => ?_) (fun e => br_f (by rw [decide_eq_true e]; rfl) rfl)
          obtain ⟨c, hc⟩ := atI_last hne
          refine ix_str hc ?_
          walk_at "run"
          refine br_b (fun hb => ?_) (fun hb => br_f hb rfl)
          cases p with
          | nil => exact absurd (hw rfl) (by decide)
          | cons d p =>
            refine ix_str atI_z ?_
            walk_at "run"
            exact br_b (fun _ => rfl) (fun _ => rfl)
      · subst e
        unfold b_law_line_3
        walk_at "run"
        exact t4 1 p _ (by decide) (by decide) hp k hs''
      · subst e
        walk_at "run"
        exact t4 g p _ g0 g1 hp k hs''
    unfold b_law_line_2
    walk_at "run"
    refine ⟨by decide, pick_ok (did := 6) rfl hs' (by omega) rfl (by simp) (by simp) fun y s5 hy k5 l5 hs5 => ?_⟩
    have : ∃ z : Int, y = .int z ∧ 0 ≤ z ∧ z ≤ 2 := by
      simp only [List.mem_cons, List.not_mem_nil, or_false] at hy
      rcases hy with rfl | rfl | rfl | rfl
      · exact ⟨_, rfl, by omega, by omega⟩
      · exact ⟨_, rfl, by omega, by omega⟩
      · exact ⟨_, rfl, by omega, by omega⟩
      · exact ⟨_, rfl, by omega, by omega⟩
    obtain ⟨g, rfl, g0, g1⟩ := this
    unfold b_law_line_2_1
    walk_at "run"
    refine piece_ok hs5 (by omega) fun p s6 p0 p1 k6 hs6 => ?_
    unfold b_law_line_2_2
    walk_at "run"
    cases w with
    | false =>
      walk_at "run"
      exact t3 g p s6 g0 g1 (by omega) (fun _ => p0) (k5.trans k6) (hs6.mono (by omega))
    | true =>
      walk_at "run"
      refine draw_kp (did := 6) rfl hs6 (by omega) (dv 4) fun v s7 v0 v1 k7 l7 hs7 => ?_
      walk_at "run"
      refine br_dec (fun hv => ?_) (fun hv => ?_)
      · unfold b_law_line_4
        walk_at "run"
        refine wild_ok hs7 (by omega) fun p' s8 p1' k8 hs8 => ?_
        walk_at "run"
        exact t3 g p' s8 g0 g1 (by omega) (fun z => by cases z) (k5.trans (k6.trans (k7.trans k8))) (hs8.mono (by omega))
      · exact t3 g p s7 g0 g1 (by omega) (fun _ => p0) (k5.trans (k6.trans k7)) (hs7.mono (by omega))
  · rintro σ s' ⟨line, x4, x5, x6, rfl, hq, hll, kp, hs'⟩
    refine ⟨trivial, ?_⟩
    unfold b_law_line_1_2
    walk_at "run"
    simp only [List.length_nil] at hll hs'
    refine draw_kp (did := 6) rfl hs' (by omega) (dv 2) fun v s7 v0 v1 k7 l7 hs7 => ?_
    walk_at "run"
    have e1 := rep_len v.toNat 32
    refine ⟨⟨v0, by omega, by omega⟩, by omega, h _ s7 (by rw [List.length_append]; omega) (kp.trans k7) (hs7.mono (by omega))⟩
theorem agr_ok {a : List Nat} (hl : a.length ≤ 100000) {s : Sto} {Q : QE} (h : ∀ s', Kp (fun _ => False) s s' → Q (.bl true) s') : Lv (Tof tbl) (j + 3) 13 [.str a] s Q E := by
  refine lv_in (fn := d_law_agrees.fn) rfl rfl ?_
  dsimp only [d_law_agrees, b_law_agrees_1]
  walk_at "run"
  refine ltok_ok hl fun v s1 k1 hv => ?_
  unfold b_law_agrees_1_1
  walk_at "run"
  refine tok_ok hl fun s2 k2 => ?_
  unfold b_law_agrees_1_2
  walk_at "run"
  cases ht : tk a.length a with
  | none =>
    rw [ht] at hv
    have hv : v = .non := hv
    subst hv
    unfold b_law_agrees_2 tokD
    walk_at "run"
    exact h s2 (k1.trans k2)
  | some l =>
    rw [ht] at hv
    obtain ⟨n, rfl, hn⟩ := hv
    have hn2 := k2.get _ _ (fun z => z) hn
    unfold b_law_agrees_1_3 tokD
    walk_at "run"
    refine tup_ref hn2 ?_
    have : cmpD s2 .Eq (.tup (l.map .str)) (.tup (l.map .str)) = some (decide (l.map D.str = l.map .str)) := eq_tups (pl_strs l) (pl_strs l)
    rw [this, decide_eq_true rfl]
    exact h s2 (k1.trans k2)
def PI (a : List (List Nat)) (n : Nat) (items : List D) (σ : Sl) (s' : Sto) : Prop := ∃ (x0 x1 x2 x3 x4 x5 x6 x7 : Option D) (l : List (List Nat)), σ = [x0, x1, x2, x3, x4, x5, x6, x7] ∧ items = l.map .str ∧ (∀ p ∈ l, p.length ≤ 100000) ∧ s'[n]? = some (.lst (a.map .str))
theorem law_holds (ns : List Int) : Lv (Tof tbl) (j + 5) 14 [.fl (ns.map .int)] [] (fun v _ => v = .bl true) (fun _ _ _ => False) := by
  refine lv_in (fn := d_law.fn) rfl rfl ?_
  dsimp only [d_law, b_law_1]
  walk_at "run"
  have e24 := size24
  refine src_kp (cid := 4) (sid := 5) (k := 0) rfl rfl (by decide) fun s1 k1 l1 hs1 => ?_
  unfold b_law_1_1
  walk_at "run"
  refine draw_kp (did := 6) rfl hs1 (by decide) (dv 4) fun pick s2 p0 p1 k2 l2 hs2 => ?_
  unfold b_law_1_2
  walk_at "run"
  refine src_kp (cid := 4) (sid := 5) (k := 1) rfl rfl (by decide) fun s3 k3 l3 hs3 => ?_
  have t4 : ∀ (line : List Nat) (s' : Sto) (x1 x2 x4 x5 : Option D), line.length ≤ 100000 → xSs (Lv (Tof tbl) (j + 4)) b_law_1_4 [some (.fl (ns.map .int)), x1, x2, some (.str line), x4, x5, none, none] s'
      { nx := fun x s' => D.non = .bl true, rt := fun v _ => v = .bl true, bk := fun x x_1 => False, ct := fun x x_1 => False, ex := fun c fs x s' => False } := fun line s' x1 x2 x4 x5 hl => by
    unfold b_law_1_4
    walk_at "run"
    refine src_kp (cid := 4) (sid := 5) (k := 2) rfl rfl (by decide) fun s4 k4 l4 hs4 => ?_
    walk_at "run"
    refine draw_kp (did := 6) rfl hs4 (by decide) (div_small (by omega) (by omega)) fun cut s5 c0 c1 k5 l5 hs5 => ?_
    unfold b_law_1_5
    walk_at "run"
    refine ⟨rfl, rfl, rfl, rfl, by decide, it_ref get_new ?_⟩
    refine for_inv (PI [line, PX.cut line none (some cut), PX.cut line (some cut) none, line] s5.length) ⟨_, _, _, _, _, _, _, _, [line, PX.cut line none (some cut), PX.cut line (some cut) none, line], rfl, rfl, ?_, get_new⟩ ?_ ?_
    · intro p hp
      simp only [List.mem_cons, List.not_mem_nil, or_false] at hp
      rcases hp with rfl | rfl | rfl | rfl
      · exact hl
      · exact Nat.le_trans cut_len hl
      · exact Nat.le_trans cut_len hl
      · exact hl
    · rintro x q σ s' N ⟨x0, x1, x2, x3, x4, x5, x6, x7, l, rfl, e, hp, hg⟩ hN
      cases l with
      | nil => cases e
      | cons p l =>
        cases e
        refine ⟨hg, ?_⟩
        unfold b_law_2 b_law_3
        walk_at "run"
        refine agr_ok (hp p (by simp)) fun s'' k => ?_
        walk_at "run"
        exact hN.nx _ _ ⟨_, _, _, _, _, _, _, _, l, rfl, rfl, fun p' h' => hp p' (by simp [h']), k.get _ _ (fun z => z) hg⟩
    · rintro σ s' ⟨x0, x1, x2, x3, x4, x5, x6, x7, l, rfl, e, hp, hg⟩
      refine ⟨hg, ?_⟩
      unfold b_law_1_6
      walk_at "run"
  unfold b_law_1_3
  walk_at "run"
  refine br_dec (fun hp => ?_) (fun hp => ?_)
  · unfold b_law_4
    walk_at "run"
    refine line_ok hs3 (by decide) fun line s4 hl k4 hs4 => ?_
    exact t4 line s4 _ _ _ _ (by omega)
  · unfold b_law_5
    walk_at "run"
    refine ⟨by decide, by decide, pick_ok (did := 6) rfl hs3 (by decide) rfl (by simp) (by simp) fun x s4 hx k4 l4 hs4 => ?_⟩
    obtain ⟨a, rfl, a0, a1⟩ := strB_of (lo := 1) (hi := 100) hx (by decide)
    unfold b_law_5_1
    walk_at "run"
    refine draw_kp (did := 6) rfl hs4 (by decide) (dv 9) fun u s5 u0 u1 k5 l5 hs5 => ?_
    walk_at "run"
    refine draw_kp (did := 6) rfl hs5 (by decide) (dv 61) fun u' s6 u0' u1' k6 l6 hs6 => ?_
    walk_at "run"
    refine ⟨by decide, pick_ok (did := 6) rfl hs6 (by decide) rfl (by simp) (by simp) fun y s7 hy k7 l7 hs7 => ?_⟩
    have : ∃ z : Int, y = .int z ∧ 0 ≤ z ∧ z ≤ 61 := by
      simp only [List.mem_cons, List.not_mem_nil, or_false] at hy
      rcases hy with rfl | rfl
      · exact ⟨_, rfl, by omega, by omega⟩
      · exact ⟨_, rfl, by omega, by omega⟩
    obtain ⟨z, rfl, z0, z1⟩ := this
    refine some_ok hs7 (by decide) (by omega) (by omega) z0 (by omega) fun line s8 hl k8 hs8 => ?_
    walk_at "run"
    exact t4 line s8 _ _ _ _ (by omega)
end
end K00

namespace K00
open PySem PySem.Spec PyProof.Rows L2 PX
theorem defs_ok : DefsL gl tbl := ⟨o_is_name, o_is_number, o_word_end, o_tokens, o_law_cell, o_law_src, o_law_draw, o_law_word, o_law_tokens, o_law_some, o_law_wild, o_law_piece, o_law_line, o_law_agrees, o_law, trivial⟩
theorem gl_ok : glChk tbl gl = true := by decide +kernel
def TB (K : PySem.W.Frag) : Tb := ⟨K, fun _ => none, fun _ => ""⟩
theorem all_mk {l : PySem.W.OpenLaw} {w : World} {K : PySem.W.Frag} {h : Heap} {mg : Str → Option Value} {fa : Addr} (X : K.In h) (G : h.Ns mainGlobals mg) (hfa : mg "law" = some (.ref fa))
    (f0 : FnFact K d_is_name) (f1 : FnFact K d_is_number) (f2 : FnFact K d_word_end) (f3 : FnFact K d_tokens) (f4 : FnFact K d_law_cell) (f5 : FnFact K d_law_src) (f6 : FnFact K d_law_draw) (f7 : FnFact K d_law_word) (f8 : FnFact K d_law_tokens) (f9 : FnFact K d_law_some) (f10 : FnFact K d_law_wild) (f11 : FnFact K d_law_piece) (f12 : FnFact K d_law_line) (f13 : FnFact K d_law_agrees) (f14 : FnFact K d_law)
    (n0 : ∃ v u, PySem.W.nsIn K mainGlobals "KEYWORDS" = some (some u) ∧ RelV v u ∧ ∀ H ρ, RelD (TB K) H ρ c_KEYWORDS v) (n1 : ∃ v u, PySem.W.nsIn K mainGlobals "LETTERS" = some (some u) ∧ RelV v u ∧ ∀ H ρ, RelD (TB K) H ρ c_LETTERS v) (n2 : ∃ v u, PySem.W.nsIn K mainGlobals "DIGITS" = some (some u) ∧ RelV v u ∧ ∀ H ρ, RelD (TB K) H ρ c_DIGITS v) (n3 : ∃ v u, PySem.W.nsIn K mainGlobals "SIGNS" = some (some u) ∧ RelV v u ∧ ∀ H ρ, RelD (TB K) H ρ c_SIGNS v) (n4 : ∃ v u, PySem.W.nsIn K mainGlobals "LONGEST_NAME" = some (some u) ∧ RelV v u ∧ ∀ H ρ, RelD (TB K) H ρ c_LONGEST_NAME v) (n5 : ∃ v u, PySem.W.nsIn K mainGlobals "LONGEST_NUMBER" = some (some u) ∧ RelV v u ∧ ∀ H ρ, RelD (TB K) H ρ c_LONGEST_NUMBER v) (n6 : PySem.W.nsIn K mainGlobals "abs" = some none) (n7 : PySem.W.nsIn K mainGlobals "int" = some none) (n8 : PySem.W.nsIn K mainGlobals "isinstance" = some none) (n9 : PySem.W.nsIn K mainGlobals "len" = some none) (n10 : PySem.W.nsIn K mainGlobals "range" = some none) (n11 : PySem.W.nsIn K mainGlobals "str" = some none) (n12 : PySem.W.nsIn K mainGlobals "tuple" = some none) :
    ∃ fd : FuncData, (∀ (s : Shared) (v : Value), BindsTo s fd ⟨[v], []⟩ [("script", v)]) ∧ ∀ base : Heap, K.In base → base.Ns mainGlobals mg → FnOk l.prog w K mg base CX0 6 fa fd ["script"] (spLaw K) := by
  obtain ⟨fd, h1, h2⟩ := law_ok (P := l.prog) (w := w) (k := 6) (d := d_law) (id := 14) (tab_mk (B := TB K) rfl defs_ok ⟨f0, f1, f2, f3, f4, f5, f6, f7, f8, f9, f10, f11, f12, f13, f14, trivial⟩ gl_ok ⟨n0, n1, n2, n3, n4, n5, n6, n7, n8, n9, n10, n11, n12, trivial⟩) X G rfl rfl hfa fun ns _ => law_holds ns
  exact ⟨fd, h1, fun base _ _ => h2 base⟩
end K00
open PySem PySem.W PyProof.Rows
set_option maxRecDepth 100000 in
set_option maxHeartbeats 0 in
theorem PySem.Challenge.cw_warmmill_k00_tokens_of_a_line_holds : PySem.Challenge.rw_warmmill_k00_tokens_of_a_line.Holds := by
  w_on; o_law; k_head; (case hw => w_witness2)
  k_fill
  refine PX.walk_ok (l := PySem.Challenge.rw_warmmill_k00_tokens_of_a_line) (k := 6) rfl rfl ⟨rfl, by decide, by decide⟩ (fun w h Y => PySem.W.kIn_of Y) ?F
  case F =>
    intro w mg fa h KX G hmg
    refine' K00.all_mk KX G hmg ?f0 ?f1 ?f2 ?f3 ?f4 ?f5 ?f6 ?f7 ?f8 ?f9 ?f10 ?f11 ?f12 ?f13 ?f14 ?n0 ?n1 ?n2 ?n3 ?n4 ?n5 ?n6 ?n7 ?n8 ?n9 ?n10 ?n11 ?n12
    (case f0 => refine' PX.fact_mk ?a ?l ?c ?k; (case a => k_is); (case l => k_is); (case c => k_is); (case k => k_is))
    (case f1 => refine' PX.fact_mk ?a ?l ?c ?k; (case a => k_is); (case l => k_is); (case c => k_is); (case k => k_is))
    (case f2 => refine' PX.fact_mk ?a ?l ?c ?k; (case a => k_is); (case l => k_is); (case c => k_is); (case k => k_is))
    (case f3 => refine' PX.fact_mk ?a ?l ?c ?k; (case a => k_is); (case l => k_is); (case c => k_is); (case k => k_is))
    (case f4 => refine' PX.fact_mk ?a ?l ?c ?k; (case a => k_is); (case l => k_is); (case c => k_is); (case k => k_is))
    (case f5 => refine' PX.fact_mk ?a ?l ?c ?k; (case a => k_is); (case l => k_is); (case c => k_is); (case k => k_is))
    (case f6 => refine' PX.fact_mk ?a ?l ?c ?k; (case a => k_is); (case l => k_is); (case c => k_is); (case k => k_is))
    (case f7 => refine' PX.fact_mk ?a ?l ?c ?k; (case a => k_is); (case l => k_is); (case c => k_is); (case k => k_is))
    (case f8 => refine' PX.fact_mk ?a ?l ?c ?k; (case a => k_is); (case l => k_is); (case c => k_is); (case k => k_is))
    (case f9 => refine' PX.fact_mk ?a ?l ?c ?k; (case a => k_is); (case l => k_is); (case c => k_is); (case k => k_is))
    (case f10 => refine' PX.fact_mk ?a ?l ?c ?k; (case a => k_is); (case l => k_is); (case c => k_is); (case k => k_is))
    (case f11 => refine' PX.fact_mk ?a ?l ?c ?k; (case a => k_is); (case l => k_is); (case c => k_is); (case k => k_is))
    (case f12 => refine' PX.fact_mk ?a ?l ?c ?k; (case a => k_is); (case l => k_is); (case c => k_is); (case k => k_is))
    (case f13 => refine' PX.fact_mk ?a ?l ?c ?k; (case a => k_is); (case l => k_is); (case c => k_is); (case k => k_is))
    (case f14 => refine' PX.fact_mk ?a ?l ?c ?k; (case a => k_is); (case l => k_is); (case c => k_is); (case k => k_is))
    (case n0 => refine' PX.co_tup ?hk ?a ?l ?c ?z; (case hk => rfl); (case a => k_is); (case l => k_is); (case c => rfl); (case z => rfl))
    (case n1 => refine' PX.co_str ?a ?e ?c; (case a => k_is); (case e => rfl); (case c => decide +kernel))
    (case n2 => refine' PX.co_str ?a ?e ?c; (case a => k_is); (case e => rfl); (case c => decide +kernel))
    (case n3 => refine' PX.co_str ?a ?e ?c; (case a => k_is); (case e => rfl); (case c => decide +kernel))
    (case n4 => refine' PX.co_int ?a; (case a => k_is))
    (case n5 => refine' PX.co_int ?a; (case a => k_is))
    (case n6 => k_is)
    (case n7 => k_is)
    (case n8 => k_is)
    (case n9 => k_is)
    (case n10 => k_is)
    (case n11 => k_is)
    (case n12 => k_is)
